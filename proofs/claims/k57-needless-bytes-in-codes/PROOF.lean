import PyProof.Rows.All
import Wide.All
import OpenK.AllK
import Wide.FinOn
import PySem.Challenge.RW_shortestbytes_k57_needless_bytes_in_code
import HandS.ForMost
import HandS.ForExc
import HandS.EndBits
import HandS.IsInst
import HandS.RaiseMore
import HandS.Defaults
import HandS.HeadHook2
import HandS.Head2
import HandS.ExcInit
import HandS.ExcField
import HandS.CallSlots
import HandS.TryMany
import HandS.ExcIs
import KE.KExcIs
import KE.DataCmp
import HandS.Codes
import PyProof.EqAt
import PyProof.EqKinds
import PyProof.TupleCall
import KE.KeyNested
import KE.KDictWalk
import HandS.Base
import HandS.Call
import HandS.Dict
import HandS.TupAny
import HandS.Walk
import HandS.Style
import HandS.Wide
import HandS.ClsMeth
import HandS.HeadNt
import HandS.OwnIter
import HandS.IterVal
import KE.KDictCopyH
import KE.KDictList
import KE.SortKeyHeap
import HandS.SortKw
import HandS.TupMul
import HandS.TryOnly
import HandS.Deep
import HandS.OwnEq
import HandS.SlotsOwn
import HandS.More
import HandS.TupLe
import HandS.Zip
import KE.GoesMore
import HandS.DictComp
import HandS.SortInts
import HandS.Rev
import KE.DataMinMax
import HandS.MakeKw
import HandS.MakeKwOnly
import KE.SortData
import PyProof.AutoSeq1
import HandS.Star
import HandS.FStr
import KE.KCallOwn
import PyProof.FString3
import PyProof.Rows.StrIntSpec
import KE.KxField
import PyProof.StrOps2
import HandS.Head0
import HandS.Head1
set_option Elab.async false
set_option linter.all false
set_option maxRecDepth 100000
set_option maxHeartbeats 4000000
set_option maxHeartbeats 4000000
/-! Sb, part Z: the run of the top by one look at each turn (a lighter twin of the kit's run). -/
namespace Sb
open PySem PySem.W HandSHeadRun

abbrev KZ := SharedT → Thread → Option SharedT
noncomputable def getZ (t : BT) : Nat → Option Obj :=
  BT.rec (motive := fun _ => Nat → Option Obj) (fun _ => none) (fun v _ _ l r i => Bool.rec (Bool.rec (r (Nat.sub (Nat.div i 2) 1)) (l (Nat.div i 2)) (Nat.beq (Nat.mod i 2) 1)) (some v) (Nat.beq i 0)) t
noncomputable def setZ (f : Obj → Obj) (t : BT) : Nat → BT :=
  BT.rec (motive := fun _ => Nat → BT) (fun _ => .nil) (fun v l r hl hr i => Bool.rec (Bool.rec (.node v l (hr (Nat.sub (Nat.div i 2) 1))) (.node v (hl (Nat.div i 2)) r) (Nat.beq (Nat.mod i 2) 1)) (.node (f v) l r) (Nat.beq i 0)) t
noncomputable def insZ (o : Obj) (t : BT) : Nat → BT :=
  BT.rec (motive := fun _ => Nat → BT) (fun _ => .node o .nil .nil) (fun v l r hl hr i => Bool.rec (Bool.rec (.node v l (hr (Nat.sub (Nat.div i 2) 1))) (.node v (hl (Nat.div i 2)) r) (Nat.beq (Nat.mod i 2) 1)) (.node o l r) (Nat.beq i 0)) t
theorem getZ_eq : ∀ (t : BT) (i : Nat), getZ t i = t.get i
  | .nil, _ => rfl
  | .node v l r, i => by
    show Bool.rec (Bool.rec (getZ r _) (getZ l _) (Nat.beq (i % 2) 1)) (some v) (Nat.beq i 0) = BT.get (.node v l r) i
    rw [getZ_eq r, getZ_eq l]
    conv => rhs; unfold BT.get
    cases Nat.beq i 0 <;> cases Nat.beq (i % 2) 1 <;> rfl
theorem setZ_eq (f : Obj → Obj) : ∀ (t : BT) (i : Nat), setZ f t i = t.set i f
  | .nil, _ => rfl
  | .node v l r, i => by
    show Bool.rec (Bool.rec (.node v l (setZ f r _)) (.node v (setZ f l _) r) (Nat.beq (i % 2) 1)) (.node (f v) l r) (Nat.beq i 0) = BT.set (.node v l r) i f
    rw [setZ_eq f r, setZ_eq f l]
    conv => rhs; unfold BT.set
    cases Nat.beq i 0 <;> cases Nat.beq (i % 2) 1 <;> rfl
theorem insZ_eq (o : Obj) : ∀ (t : BT) (i : Nat), insZ o t i = t.ins i o
  | .nil, _ => rfl
  | .node v l r, i => by
    show Bool.rec (Bool.rec (.node v l (insZ o r _)) (.node v (insZ o l _) r) (Nat.beq (i % 2) 1)) (.node o l r) (Nat.beq i 0) = BT.ins (.node v l r) i o
    rw [insZ_eq o r, insZ_eq o l]
    conv => rhs; unfold BT.ins
    cases Nat.beq i 0 <;> cases Nat.beq (i % 2) 1 <;> rfl
noncomputable def zold (st : SharedT → Thread → Option (SharedT × Thread)) (n0 : Nat) (ann : Option Value) (s : SharedT) (t : Thread) (K : KZ) : Option SharedT := match through t with
  | true => some s
  | false => match stepOk n0 ann t with
    | false => none
    | true => match st s t with
      | some (s', t') => frS s' fun s' => K s' t'
      | none => none
noncomputable def zload (s : SharedT) (a : Nat) (k : Obj → Sem PySem.Fin) (c : Code) (p : Pos) (fs : List Frame) (K : KZ) : Option SharedT :=
  Bool.rec none (Option.rec none (fun o => Option.rec none (fun o' => K s ⟨k o', c, p, fs⟩) (alive o)) (getZ s.tree a)) (Nat.blt a s.n)
noncomputable def zalive (s : SharedT) (a : Nat) (k : Option Obj → Sem PySem.Fin) (c : Code) (p : Pos) (fs : List Frame) (K : KZ) : Option SharedT :=
  Bool.rec (K s ⟨k none, c, p, fs⟩) (Option.rec none (fun o => K s ⟨k (alive o), c, p, fs⟩) (getZ s.tree a)) (Nat.blt a s.n)
noncomputable def zupd2 (s : SharedT) (a : Nat) (f : Obj → Obj) (k : Unit → Sem PySem.Fin) (c : Code) (p : Pos) (fs : List Frame) (K : KZ) : Option SharedT :=
  Bool.rec none (Option.rec none (fun o => Option.rec none (fun _ => K ⟨setZ f s.tree a, s.n, s.life, s.gens, s.drawn, s.toks, s.os⟩ ⟨k (), c, p, fs⟩) (alive o)) (getZ s.tree a)) (Nat.blt a s.n)
noncomputable def zupd (n0 : Nat) (ann : Option Value) (s : SharedT) (a : Nat) (f : Obj → Obj) (k : Unit → Sem PySem.Fin) (c : Code) (p : Pos) (fs : List Frame) (K : KZ) : Option SharedT :=
  Bool.rec none (zupd2 s a f k c p fs K) (Nat.ble n0 a || a == mainNs || a == cStatics || ann == some (.ref a))
noncomputable def zalloc (s : SharedT) (o : Obj) (k : Addr → Sem PySem.Fin) (c : Code) (p : Pos) (fs : List Frame) (K : KZ) : Option SharedT :=
  Bool.rec none (frNat (Nat.add s.n 1) fun n' => K ⟨insZ o s.tree s.n, n', s.life, s.gens, s.drawn, s.toks, s.os⟩ ⟨k s.n, c, p, fs⟩) (getZ (insZ o s.tree s.n) s.n).isSome
noncomputable def zfresh (s : SharedT) (k : Tok → Sem PySem.Fin) (c : Code) (p : Pos) (fs : List Frame) (K : KZ) : Option SharedT :=
  frNat (Nat.add s.toks 1) fun t' => K ⟨s.tree, s.n, s.life, s.gens, s.drawn, t', s.os⟩ ⟨k s.toks, c, p, fs⟩
def keptZ (c code : Code) (l : List Value) : List Value := match c, code with
  | .builtin _ a, _ => unmarked a.refs
  | .call f a, .builtin .. | .call f a, .call .. => unmarked (if l.contains borrowed then a.refs else f :: a.refs)
  | _, _ => []
noncomputable def zcall (den : Code → Sem PySem.Fin) (s : SharedT) (c' : Code) (h : Option Value) (g : Bool) (l : List Value) (k : Result → Sem PySem.Fin) (c : Code) (p : Pos) (fs : List Frame) (K : KZ) : Option SharedT :=
  K s ⟨den c', c', p, .ret k h g l c p (keptZ c' c l) :: fs⟩
noncomputable def zdone (n0 : Nat) (s : SharedT) (f : Flow) (c : Code) (p : Pos) (fs : List Frame) (K : KZ) (old : Option SharedT) : Option SharedT :=
  List.rec (some s) (fun fr rest _ => Frame.rec (motive := fun _ => Option SharedT) (fun k _ _ _ c p _ => K s ⟨k (.ok f), c, p, rest⟩) (fun _ _ _ _ _ => old) fr) fs
noncomputable def turnZ (den : Code → Sem PySem.Fin) (pr : Program) (w : World) (st : SharedT → Thread → Option (SharedT × Thread)) (n0 : Nat) (ann : Option Value) (s : SharedT) (t : Thread) (K : KZ) : Option SharedT :=
  Thread.rec (motive := fun _ => Option SharedT) (fun cur c p fs =>
    Sem.rec (motive := fun _ => Option SharedT)
      (pure := fun f => PySem.Fin.rec (motive := fun _ => Option SharedT) (fun f => zdone n0 s f c p fs K (zold st n0 ann s ⟨.pure (.done f), c, p, fs⟩ K)) (fun a => zold st n0 ann s ⟨.pure (.again a), c, p, fs⟩ K) f)
      (raise := fun e => zold st n0 ann s ⟨.raise e, c, p, fs⟩ K)
      (unsupported := fun _ => none)
      (finish := fun _ => none)
      (rule := fun _ k _ => K s ⟨k (), c, p, fs⟩)
      («at» := fun q k _ => K s ⟨k (), c, q, fs⟩)
      (load := fun a _ k _ => zload s a k c p fs K)
      (update := fun a _ f k _ => zupd n0 ann s a f k c p fs K)
      (alloc := fun o k _ => zalloc s o k c p fs K)
      (loadIfAlive := fun a k _ => zalive s a k c p fs K)
      (point := fun _ k _ => K s ⟨k (), c, p, fs⟩)
      (register := fun _ _ _ => none)
      (fresh := fun k _ => zfresh s k c p fs K)
      (ask := fun k _ => K s ⟨k ⟨pr, w.params⟩, c, p, fs⟩)
      (choose := fun a n k _ => zold st n0 ann s ⟨.choose a n k, c, p, fs⟩ K)
      (os := fun _ _ _ _ => none)
      (call := fun c' h g l k _ => zcall den s c' h g l k c p fs K)
      (handled := fun o k _ => zold st n0 ann s ⟨.handled o k, c, p, fs⟩ K)
      (newGen := fun a k _ => zold st n0 ann s ⟨.newGen a k, c, p, fs⟩ K)
      (genState := fun a k _ => zold st n0 ann s ⟨.genState a k, c, p, fs⟩ K)
      (resume := fun a b l k _ => zold st n0 ann s ⟨.resume a b l k, c, p, fs⟩ K)
      (yield := fun a b l k _ => zold st n0 ann s ⟨.yield a b l k, c, p, fs⟩ K)
      (stack := fun k _ => K s ⟨k ((c, p) :: fs.map Frame.where_), c, p, fs⟩)
      (fork := fun _ _ _ => none)
      (thread := fun k _ => K s ⟨k 0, c, p, fs⟩)
      (await := fun _ _ _ _ _ _ => none)
      cur) t
noncomputable def goZ (den : Code → Sem PySem.Fin) (pr : Program) (w : World) (st : SharedT → Thread → Option (SharedT × Thread)) (n0 : Nat) (ann : Option Value) (M : Nat) : KZ :=
  Nat.rec (motive := fun _ => KZ) (fun _ _ => none) (fun _ ih s t => turnZ den pr w st n0 ann s t ih) M

section
variable {den : Code → Sem PySem.Fin} {pr : Program} {w : World} {n0 : Nat} {ann : Option Value}
theorem turnZ_eq (s : SharedT) (t : Thread) (K : KZ) : turnZ den pr w (stepT den pr w) n0 ann s t K = zold (stepT den pr w) n0 ann s t K := by
  obtain ⟨cur, c, p, fs⟩ := t
  obtain ⟨T, n, life, gens, drawn, toks, os⟩ := s
  cases cur with
  | pure f =>
    cases f with
    | done f =>
      cases fs with
      | nil => rfl
      | cons fr rest =>
        cases fr with
        | ret k h g l c' p' kept =>
          show K _ _ = _
          simp [zold, through, stepOk, Thread.calm, Thread.atCollectorCode, Thread.atExit, Thread.yieldsInsideHandler, stepT, step, frS_eq]
        | gen g k l c' p' => rfl
    | again a => rfl
  | raise e => rfl
  | unsupported e => simp [turnZ, zold, through, stepOk, Thread.calm, Thread.atCollectorCode, Thread.atExit, Thread.yieldsInsideHandler, stepT, step, frS_eq]
  | finish e => cases h : leftWithCleanup gens <;> simp [turnZ, zold, through, stepOk, Thread.calm, Thread.atCollectorCode, Thread.atExit, Thread.yieldsInsideHandler, stepT, step, frS_eq, h]
  | rule a k => simp [turnZ, zold, through, stepOk, Thread.calm, Thread.atCollectorCode, Thread.atExit, Thread.yieldsInsideHandler, stepT, step, frS_eq]
  | «at» a k => simp [turnZ, zold, through, stepOk, Thread.calm, Thread.atCollectorCode, Thread.atExit, Thread.yieldsInsideHandler, stepT, step, frS_eq]
  | load a q k =>
    show zload _ a k c p fs K = _
    simp only [zload, getZ_eq]
    simp [zold, through, stepOk, Thread.calm, Thread.atCollectorCode, Thread.atExit, Thread.yieldsInsideHandler, stepT]
    cases Nat.blt a n with
    | false => rfl
    | true =>
      cases T.get a with
      | none => rfl
      | some o => cases h : alive o <;> simp [h, frS_eq]
  | update a q f k =>
    show zupd n0 ann _ a f k c p fs K = _
    simp only [zupd, zupd2, getZ_eq, setZ_eq]
    simp only [zold, through, stepOk, Thread.calm, Thread.atCollectorCode, Thread.atExit, Thread.yieldsInsideHandler, stepT, Bool.and_false, Bool.not_false, Bool.or_false, Bool.true_and, Bool.and_true, Bool.or_true]
    cases (Nat.ble n0 a || a == mainNs || a == cStatics || ann == some (.ref a)) with
    | false => rfl
    | true =>
      cases Nat.blt a n with
      | false => rfl
      | true =>
        cases T.get a with
        | none => rfl
        | some o => cases h : alive o <;> simp [h, frS_eq]
  | alloc o k =>
    show zalloc _ o k c p fs K = _
    simp only [zalloc, getZ_eq, insZ_eq, frNat_eq]
    simp [zold, through, stepOk, Thread.calm, Thread.atCollectorCode, Thread.atExit, Thread.yieldsInsideHandler, stepT]
    cases ((T.ins n o).get n).isSome <;> simp [frS_eq]
  | loadIfAlive a k =>
    show zalive _ a k c p fs K = _
    simp only [zalive, getZ_eq]
    simp [zold, through, stepOk, Thread.calm, Thread.atCollectorCode, Thread.atExit, Thread.yieldsInsideHandler, stepT]
    cases Nat.blt a n with
    | false => simp [frS_eq]
    | true => cases T.get a <;> simp [frS_eq]
  | point a k => simp [turnZ, zold, through, stepOk, Thread.calm, Thread.atCollectorCode, Thread.atExit, Thread.yieldsInsideHandler, stepT, step, frS_eq]
  | register a k => simp [turnZ, zold, through, stepOk, Thread.calm, Thread.atCollectorCode, Thread.atExit, Thread.yieldsInsideHandler, stepT, step, frS_eq]
  | fresh k => simp [turnZ, zfresh, frNat_eq, zold, through, stepOk, Thread.calm, Thread.atCollectorCode, Thread.atExit, Thread.yieldsInsideHandler, stepT, step, frS_eq]
  | ask k => simp [turnZ, zold, through, stepOk, Thread.calm, Thread.atCollectorCode, Thread.atExit, Thread.yieldsInsideHandler, stepT, step, frS_eq]
  | choose a n k => rfl
  | os a l k => simp [turnZ, zold, through, stepOk, Thread.calm, Thread.atCollectorCode, Thread.atExit, Thread.yieldsInsideHandler, stepT, step, frS_eq]
  | call c' h g l k =>
    show zcall den _ c' h g l k c p fs K = _
    simp only [zold, through, stepOk, Thread.calm, Thread.atCollectorCode, Thread.atExit, Thread.yieldsInsideHandler, Bool.and_false, Bool.not_false, Bool.or_false, Bool.true_and, Bool.and_true]
    show _ = (match (some ((⟨T, n, life, gens, drawn, toks, os⟩ : SharedT), (⟨den c', c', p, .ret k h g l c p (keptZ c' c l) :: fs⟩ : Thread))) with
      | some (s', t') => frS s' fun s' => K s' t'
      | none => none)
    simp only [frS_eq, zcall]
  | handled o k => rfl
  | newGen a k => rfl
  | genState a k => rfl
  | resume a b l k => rfl
  | «yield» a b l k => rfl
  | stack k => simp [turnZ, zold, through, stepOk, Thread.calm, Thread.atCollectorCode, Thread.atExit, Thread.yieldsInsideHandler, stepT, step, frS_eq]
  | fork a k => simp [turnZ, zold, through, stepOk, Thread.calm, Thread.atCollectorCode, Thread.atExit, Thread.yieldsInsideHandler, stepT, step, frS_eq]
  | thread k => simp [turnZ, zold, through, stepOk, Thread.calm, Thread.atCollectorCode, Thread.atExit, Thread.yieldsInsideHandler, stepT, step, frS_eq]
  | await a t d l k => simp [turnZ, zold, through, stepOk, Thread.calm, Thread.atCollectorCode, Thread.atExit, Thread.yieldsInsideHandler, stepT, step, frS_eq]
theorem goZ_eq : ∀ (M : Nat) (s : SharedT) (t : Thread), goZ den pr w (stepT den pr w) n0 ann M s t = goF (stepT den pr w) n0 ann M s t
  | 0, _, _ => rfl
  | M + 1, s, t => by
    show turnZ den pr w (stepT den pr w) n0 ann s t (goZ den pr w (stepT den pr w) n0 ann M) = _
    rw [turnZ_eq, funext fun s => funext fun t => goZ_eq M s t]
    rfl
end
noncomputable def endZ (M : Nat) (p : Program) (w : World) (os : OsState) : Option SharedT := match putAll (boot_heap w.params).objs.toList .nil 0 with
  | some (t, n) => frNat n fun n0 => goZ (denQ tabQ) p w (stepQ (denQ tabQ) p w) n0 (bootAnn w) M (bootT w os (t, n0)) (topStub p)
  | none => none
theorem endZ_eq (M : Nat) (p : Program) (w : World) (os : OsState) : endZ M p w os = endF (stepQ (denQ tabQ) p w) M p w os := by
  have e : ∀ (n0 : Nat) (ann : Option Value) (s : SharedT) (t : Thread), goZ (denQ tabQ) p w (stepQ (denQ tabQ) p w) n0 ann M s t = goF (stepQ (denQ tabQ) p w) n0 ann M s t := fun n0 ann s t => by
    rw [← stepQ_eq]
    exact goZ_eq M s t
  unfold endZ endF
  cases putAll (boot_heap w.params).objs.toList .nil 0 with
  | none => rfl
  | some x =>
    obtain ⟨t, n⟩ := x
    dsimp only
    rw [frNat_eq, frNat_eq]
    exact e _ _ _ _
end Sb

namespace Sb
open PySem PySem.Spec PyProof.Rows L2
inductive D where
  | non | bl (b : Bool) | int (i : Int) | str (x : Str) | scr (ns : List Int)
  | list (xs : List D) | tup (xs : List D) | ins (c : Str) (fs : List (Str × D)) | cls (c : Str) | dict (w : World) (kvs : List (D × D))
abbrev Fb := PySem.W.Frag → Bool
def errCls (K : PySem.W.Frag) (C : Addr) : Bool := match K.lookup C with
  | some ⟨.type "type", _, .cls cd, sl⟩ => (match cd.mro, sl.toList with
    | .ref C' :: bm, [_, _, _, _, some (.builtin n), _] => decide (C' = C) && decide (n = "ValueError.__new__") && !cd.hasDel && cd.hasDict && PySem.HandSPX.refsVE bm
    | _, _ => false)
  | _ => false
def errB (K : PySem.W.Frag) (C : Addr) : Bool :=
  errCls K C && decide (PySem.W.findIn K (.ref C) "__setattr__" = some (some (.builtin "object.__setattr__"))) && decide (PySem.W.subIn K (.ref C) (.type "BaseException") = some true) &&
  decide (PySem.W.typeIn K (.ref C) = some (.type "type")) && PySem.W.keepIn K (.ref C) &&
  decide (PySem.W.findIn K (.ref C) "__getattribute__" = some (some (.builtin "BaseException.__getattribute__"))) && decide (PySem.W.findIn K (.ref C) "__getattr__" = some none) && PySem.W.hasDictIn K C &&
  (PySem.W.clsIn K C).isSome && decide (PySem.W.findIn K (.ref C) "__class__" = some (some (.builtin "object.__class__"))) &&
  decide (PySem.W.specialIn K (.builtin "object.__class__") "__get__" = some (some (.builtin "getset_descriptor.__get__"))) && decide (PySem.W.takesIn K (.builtin "object.__class__") = some true) &&
  decide (PySem.W.mroIn K C (.type "object") = some true)
def baseB (K : PySem.W.Frag) (S : Addr) : Bool :=
  decide (PySem.W.specialIn K (.ref S) "__getattribute__" = some (some (.builtin "type.__getattribute__"))) && PySem.W.readsIn K S (.type "type") &&
  (match PySem.W.findCls K (.ref S) (.type "type") "__init__" with | some (.val (.builtin n)) => decide (n = "ValueError.__init__") | _ => false)
def baseAtB (K : PySem.W.Frag) (x : Str) : Bool := He.eqO (PySem.W.nsIn K mainGlobals x) (some (some (.ref (He.ga K x)))) && errB K (He.ga K x) && baseB K (He.ga K x)
def errAtB (K : PySem.W.Frag) (x f : Str) : Bool := He.eqO (PySem.W.nsIn K mainGlobals x) (some (some (.ref (He.ga K x)))) && errB K (He.ga K x) &&
  decide (PySem.W.findIn K (.ref (He.ga K x)) "__init__" = some (some (.ref (He.fAd K (x, some "__init__"))))) && decide (PySem.W.typeIn K (.ref (He.fAd K (x, some "__init__"))) = some (.type "function")) &&
  decide (PySem.W.findIn K (.ref (He.ga K x)) f = some none)
inductive TK where
  | b (n : String) | c (x : Str)
  deriving DecidableEq
def valOf (K : PySem.W.Frag) : TK → Value
  | .b n => .type n
  | .c x => .ref (He.ga K x)
def clsB (K : PySem.W.Frag) (x : Str) : Bool := PySem.W.plainGet K (He.ga K x) Str.empty && PySem.W.hasDictIn K (He.ga K x) && PySem.W.plainOver K (He.ga K x) && decide (PySem.W.findIn K (.ref (He.ga K x)) "__setattr__" = some (some (.builtin "object.__setattr__")))
def fldB (K : PySem.W.Frag) (f : Str) (cs : List Str) : Bool := cs.all fun c => clsB K c && decide (PySem.W.findIn K (.ref (He.ga K c)) f = some none)
def methB (K : PySem.W.Frag) (c m : Str) (f : Addr) : Bool := clsB K c && decide (PySem.W.findIn K (.ref (He.ga K c)) m = some (some (.ref f))) && PySem.W.isFn K (.ref f) && PySem.W.keepIn K (.ref f)
def mkB (K : PySem.W.Frag) (c : Str) (f : Addr) : Bool := PySem.W.makesIn K (He.ga K c) && decide (PySem.W.findIn K (.ref (He.ga K c)) "__init__" = some (some (.ref f))) && PySem.W.isFn K (.ref f) && PySem.W.keepIn K (.ref (He.ga K c))
def tupStrB (K : PySem.W.Frag) (a : Addr) (xs : List Str) : Bool := match K.lookup a with
  | some ⟨.type n, _, .seq its _, _⟩ => n == "tuple" && decide (its.size ≤ sizeLine) && decide (its.toList.map absV = xs.map fun x => some (V.str x))
  | _ => false
def obsM (fs : List Fb) (fn : List He5.DefA) (K : PySem.W.Frag) : He.AlD := (fs.all (fun f => f K) && fn.all (fun d => d.ok K), fn.map fun d => He5.fnA K (d.at_ K))
def lookM (pick : (Addr → Option Obj) → List Addr) (fs : List Fb) (fn : List He5.DefA) (g : Addr → Option Obj) : He.AlD := obsM fs fn (He.frG g (pick g))
def strAtB (K : PySem.W.Frag) (x v : Str) : Bool := match PySem.W.nsIn K mainGlobals x with
  | some (some (.str y _)) => decide (y = v)
  | _ => false
def gaB (K : PySem.W.Frag) (x : Str) : Bool := He.eqO (PySem.W.nsIn K mainGlobals x) (some (some (.ref (He.ga K x))))
def refs1 (g : Addr → Option Obj) (a : Addr) : List Addr := match g a with
  | some o => He.refsD o
  | none => []
def uniqZ : List Addr → Nat → List Addr
  | [], _ => []
  | a :: r, m => bif Nat.beq (Nat.land (Nat.shiftRight m a) 1) 1 then uniqZ r m else HandSHeadRun.frNat (Nat.lor m (Nat.shiftLeft 1 a)) fun m' => a :: uniqZ r m'
def lvZ (g : Addr → Option Obj) : Nat → List Addr → List Addr
  | 0, as => as
  | n + 1, as => as ++ lvZ g n (uniqZ (as.flatMap (refs1 g)) 0)
def pickU (cs fs : List Str) (n : Nat) (g : Addr → Option Obj) : List Addr :=
  mainGlobals :: cStatics :: uniqZ (lvZ g n (cs.map (He.ga (He.frG g [mainGlobals]))) ++ lvZ g 1 (fs.map (He.ga (He.frG g [mainGlobals])))) 0
def apartB (K : PySem.W.Frag) (ps cs : List Str) : Bool := ps.all fun p => cs.all fun c => decide (He.ga K p ≠ He.ga K c)
mutual
/-- the value of the module is the data -/
def dataB (K : PySem.W.Frag) : Value → D → Bool
  | .none, .non => true
  | .bool b, .bl c => b == c
  | .int i _, .int j => decide (i = j)
  | .str x _, .str y => decide (x = y)
  | .ref a, .tup ds => (match K.lookup a with
    | some ⟨.type n, _, .seq its _, _⟩ => n == "tuple" && decide (its.size ≤ sizeLine) && datasB K its.toList ds
    | _ => false)
  | _, _ => false
def datasB (K : PySem.W.Frag) : List Value → List D → Bool
  | [], [] => true
  | u :: us, d :: ds => dataB K u d && datasB K us ds
  | _, _ => false
end
end Sb
namespace Sb
open PySem PySem.Spec PyProof.Rows L2
def vCHARS : Str := "\t\n !\"#$&'()*+,-.\
/0123456789:;<=>\
?@ABCDEFGHIJKLMN\
OPQRSTUVWXYZ[\\]^\
_`abcdefghijklmn\
opqrstuvwxyz{|}~"
def vKINDS : List Str := ["", "none", "false", "true", "integer", "integer", "octets", "text", "list", "map", "tag"]
def vSCALARS : D := .tup [.int 1, .int 2, .int 3, .int 4, .int 5, .int 6, .int 7, .int 11, .int 12]
def vNESTS : D := .tup [.int 8, .int 9, .int 10, .int 13, .int 14]
def vKEYS : D := .tup [.int 4, .int 5, .int 6, .int 7, .int 11, .int 12]
def tab_int : List (TK × Bool) := [(.b "NoneType", false), (.b "bool", true), (.b "int", true), (.b "str", false), (.b "list", false), (.b "tuple", false), (.b "dict", false)]
def tab_bool : List (TK × Bool) := [(.b "NoneType", false), (.b "bool", true), (.b "int", false), (.b "str", false), (.b "list", false), (.b "tuple", false), (.b "dict", false)]
def tab_str : List (TK × Bool) := [(.b "NoneType", false), (.b "bool", false), (.b "int", false), (.b "str", true), (.b "list", false), (.b "tuple", false), (.b "dict", false)]
def tab_tuple : List (TK × Bool) := [(.b "NoneType", false), (.b "bool", false), (.b "int", false), (.b "str", false), (.b "list", false), (.b "tuple", true), (.b "dict", false)]
def tab_list : List (TK × Bool) := [(.b "NoneType", false), (.b "bool", false), (.b "int", false), (.b "str", false), (.b "list", true), (.b "tuple", false), (.b "dict", false)]
def lps : List Str := ["Document", "LooseReader"]
def kcs : List Str := []
def topS (i : Nat) : Stmt := PySem.Challenge.pw_shortestbytes_k57_needless_bytes_in_code.main.body.getD i (.Pass ⟨0, 0, 0, 0⟩)
abbrev s__law_bag : Stmt := topS 132
abbrev s__law_take : Stmt := topS 133
abbrev s__law_code : Stmt := topS 134
abbrev s__law_number : Stmt := topS 136
abbrev s_is_integer : Stmt := topS 15
abbrev s_is_byte : Stmt := topS 16
abbrev s_base_bytes : Stmt := topS 18
abbrev s_plain_code : Stmt := topS 19
abbrev s_is_char_code : Stmt := topS 29
abbrev s_integer_row : Stmt := topS 35
abbrev s_Document___init__ : Stmt := inClass (topS 122) 1
abbrev s_document_of_row : Stmt := topS 123
abbrev s_LooseReader___init__ : Stmt := inClass (topS 129) 0
abbrev s_LooseReader_look : Stmt := inClass (topS 129) 1
abbrev s_LooseReader_take : Stmt := inClass (topS 129) 2
abbrev s_LooseReader_take_code : Stmt := inClass (topS 129) 3
abbrev s_LooseReader_take_gaps : Stmt := inClass (topS 129) 4
abbrev s_LooseReader_take_kind : Stmt := inClass (topS 129) 5
abbrev s_LooseReader_take_content : Stmt := inClass (topS 129) 6
abbrev s_LooseReader_take_scalar : Stmt := inClass (topS 129) 7
abbrev s_LooseReader_take_parts : Stmt := inClass (topS 129) 8
abbrev s_LooseReader_take_pairs : Stmt := inClass (topS 129) 9
abbrev s_LooseReader_take_list : Stmt := inClass (topS 129) 10
abbrev s_LooseReader_take_map : Stmt := inClass (topS 129) 11
abbrev s_LooseReader_take_item : Stmt := inClass (topS 129) 12
abbrev s_shorten : Stmt := topS 130
abbrev s__law_digits : Stmt := topS 143
abbrev s__law_loose_code : Stmt := topS 144
abbrev s__law_right : Stmt := topS 145
abbrev s_law : Stmt := topS 146
abbrev s_init_WrongByte : Stmt := inClass (topS 5) 0
abbrev s_init_Unfinished : Stmt := inClass (topS 6) 0
abbrev s_init_DuplicateKey : Stmt := inClass (topS 7) 0
/-! ### the head -/
def hd_0 : He5.DefA := ⟨fun K => He.ga K "_law_bag", "_law_bag", "_law_bag", defArgs s__law_bag, defBody s__law_bag, defScope s__law_bag, [], []⟩
def hd_1 : He5.DefA := ⟨fun K => He.ga K "_law_take", "_law_take", "_law_take", defArgs s__law_take, defBody s__law_take, defScope s__law_take, [], []⟩
def hd_2 : He5.DefA := ⟨fun K => He.ga K "_law_code", "_law_code", "_law_code", defArgs s__law_code, defBody s__law_code, defScope s__law_code, [], []⟩
def hd_3 : He5.DefA := ⟨fun K => He.ga K "_law_number", "_law_number", "_law_number", defArgs s__law_number, defBody s__law_number, defScope s__law_number, [], []⟩
def hd_4 : He5.DefA := ⟨fun K => He.ga K "is_integer", "is_integer", "is_integer", defArgs s_is_integer, defBody s_is_integer, defScope s_is_integer, [], []⟩
def hd_5 : He5.DefA := ⟨fun K => He.ga K "is_byte", "is_byte", "is_byte", defArgs s_is_byte, defBody s_is_byte, defScope s_is_byte, [], []⟩
def hd_6 : He5.DefA := ⟨fun K => He.ga K "base_bytes", "base_bytes", "base_bytes", defArgs s_base_bytes, defBody s_base_bytes, defScope s_base_bytes, [], []⟩
def hd_7 : He5.DefA := ⟨fun K => He.ga K "plain_code", "plain_code", "plain_code", defArgs s_plain_code, defBody s_plain_code, defScope s_plain_code, [], []⟩
def hd_8 : He5.DefA := ⟨fun K => He.ga K "is_char_code", "is_char_code", "is_char_code", defArgs s_is_char_code, defBody s_is_char_code, defScope s_is_char_code, [], []⟩
def hd_9 : He5.DefA := ⟨fun K => He.ga K "integer_row", "integer_row", "integer_row", defArgs s_integer_row, defBody s_integer_row, defScope s_integer_row, [], []⟩
def hd_10 : He5.DefA := ⟨fun K => He.fAd K ("Document", some "__init__"), "__init__", "Document.__init__", defArgs s_Document___init__, defBody s_Document___init__, defScope s_Document___init__, [], []⟩
def hd_11 : He5.DefA := ⟨fun K => He.ga K "document_of_row", "document_of_row", "document_of_row", defArgs s_document_of_row, defBody s_document_of_row, defScope s_document_of_row, [], []⟩
def hd_12 : He5.DefA := ⟨fun K => He.fAd K ("LooseReader", some "__init__"), "__init__", "LooseReader.__init__", defArgs s_LooseReader___init__, defBody s_LooseReader___init__, defScope s_LooseReader___init__, [], []⟩
def hd_13 : He5.DefA := ⟨fun K => He.fAd K ("LooseReader", some "look"), "look", "LooseReader.look", defArgs s_LooseReader_look, defBody s_LooseReader_look, defScope s_LooseReader_look, [], []⟩
def hd_14 : He5.DefA := ⟨fun K => He.fAd K ("LooseReader", some "take"), "take", "LooseReader.take", defArgs s_LooseReader_take, defBody s_LooseReader_take, defScope s_LooseReader_take, [], []⟩
def hd_15 : He5.DefA := ⟨fun K => He.fAd K ("LooseReader", some "take_code"), "take_code", "LooseReader.take_code", defArgs s_LooseReader_take_code, defBody s_LooseReader_take_code, defScope s_LooseReader_take_code, [], []⟩
def hd_16 : He5.DefA := ⟨fun K => He.fAd K ("LooseReader", some "take_gaps"), "take_gaps", "LooseReader.take_gaps", defArgs s_LooseReader_take_gaps, defBody s_LooseReader_take_gaps, defScope s_LooseReader_take_gaps, [], []⟩
def hd_17 : He5.DefA := ⟨fun K => He.fAd K ("LooseReader", some "take_kind"), "take_kind", "LooseReader.take_kind", defArgs s_LooseReader_take_kind, defBody s_LooseReader_take_kind, defScope s_LooseReader_take_kind, [], []⟩
def hd_18 : He5.DefA := ⟨fun K => He.fAd K ("LooseReader", some "take_content"), "take_content", "LooseReader.take_content", defArgs s_LooseReader_take_content, defBody s_LooseReader_take_content, defScope s_LooseReader_take_content, [], []⟩
def hd_19 : He5.DefA := ⟨fun K => He.fAd K ("LooseReader", some "take_scalar"), "take_scalar", "LooseReader.take_scalar", defArgs s_LooseReader_take_scalar, defBody s_LooseReader_take_scalar, defScope s_LooseReader_take_scalar, [], []⟩
def hd_20 : He5.DefA := ⟨fun K => He.fAd K ("LooseReader", some "take_parts"), "take_parts", "LooseReader.take_parts", defArgs s_LooseReader_take_parts, defBody s_LooseReader_take_parts, defScope s_LooseReader_take_parts, [], []⟩
def hd_21 : He5.DefA := ⟨fun K => He.fAd K ("LooseReader", some "take_pairs"), "take_pairs", "LooseReader.take_pairs", defArgs s_LooseReader_take_pairs, defBody s_LooseReader_take_pairs, defScope s_LooseReader_take_pairs, [], []⟩
def hd_22 : He5.DefA := ⟨fun K => He.fAd K ("LooseReader", some "take_list"), "take_list", "LooseReader.take_list", defArgs s_LooseReader_take_list, defBody s_LooseReader_take_list, defScope s_LooseReader_take_list, [], []⟩
def hd_23 : He5.DefA := ⟨fun K => He.fAd K ("LooseReader", some "take_map"), "take_map", "LooseReader.take_map", defArgs s_LooseReader_take_map, defBody s_LooseReader_take_map, defScope s_LooseReader_take_map, [], []⟩
def hd_24 : He5.DefA := ⟨fun K => He.fAd K ("LooseReader", some "take_item"), "take_item", "LooseReader.take_item", defArgs s_LooseReader_take_item, defBody s_LooseReader_take_item, defScope s_LooseReader_take_item, [], []⟩
def hd_25 : He5.DefA := ⟨fun K => He.ga K "shorten", "shorten", "shorten", defArgs s_shorten, defBody s_shorten, defScope s_shorten, [], []⟩
def hd_26 : He5.DefA := ⟨fun K => He.ga K "_law_digits", "_law_digits", "_law_digits", defArgs s__law_digits, defBody s__law_digits, defScope s__law_digits, [], []⟩
def hd_27 : He5.DefA := ⟨fun K => He.ga K "_law_loose_code", "_law_loose_code", "_law_loose_code", defArgs s__law_loose_code, defBody s__law_loose_code, defScope s__law_loose_code, [], []⟩
def hd_28 : He5.DefA := ⟨fun K => He.ga K "_law_right", "_law_right", "_law_right", defArgs s__law_right, defBody s__law_right, defScope s__law_right, [], []⟩
def hd_29 : He5.DefA := ⟨fun K => He.ga K "law", "law", "law", defArgs s_law, defBody s_law, defScope s_law, [], []⟩
def hd_30 : He5.DefA := ⟨fun K => He.fAd K ("WrongByte", some "__init__"), "__init__", "WrongByte.__init__", defArgs s_init_WrongByte, defBody s_init_WrongByte, defScope s_init_WrongByte, [], []⟩
def hd_31 : He5.DefA := ⟨fun K => He.fAd K ("Unfinished", some "__init__"), "__init__", "Unfinished.__init__", defArgs s_init_Unfinished, defBody s_init_Unfinished, defScope s_init_Unfinished, [], []⟩
def hd_32 : He5.DefA := ⟨fun K => He.fAd K ("DuplicateKey", some "__init__"), "__init__", "DuplicateKey.__init__", defArgs s_init_DuplicateKey, defBody s_init_DuplicateKey, defScope s_init_DuplicateKey, [], []⟩
def hf_0 : Fb := fun K => gaB K "_law_bag"
def hf_1 : Fb := fun K => gaB K "_law_take"
def hf_2 : Fb := fun K => gaB K "_law_code"
def hf_3 : Fb := fun K => gaB K "_law_number"
def hf_4 : Fb := fun K => gaB K "is_integer"
def hf_5 : Fb := fun K => gaB K "is_byte"
def hf_6 : Fb := fun K => gaB K "base_bytes"
def hf_7 : Fb := fun K => gaB K "plain_code"
def hf_8 : Fb := fun K => gaB K "is_char_code"
def hf_9 : Fb := fun K => gaB K "integer_row"
def hf_10 : Fb := fun K => mkB K "Document" (He.fAd K ("Document", some "__init__"))
def hf_11 : Fb := fun K => gaB K "document_of_row"
def hf_12 : Fb := fun K => mkB K "LooseReader" (He.fAd K ("LooseReader", some "__init__"))
def hf_13 : Fb := fun K => methB K "LooseReader" "look" (He.fAd K ("LooseReader", some "look"))
def hf_14 : Fb := fun K => methB K "LooseReader" "take" (He.fAd K ("LooseReader", some "take"))
def hf_15 : Fb := fun K => methB K "LooseReader" "take_code" (He.fAd K ("LooseReader", some "take_code"))
def hf_16 : Fb := fun K => methB K "LooseReader" "take_gaps" (He.fAd K ("LooseReader", some "take_gaps"))
def hf_17 : Fb := fun K => methB K "LooseReader" "take_kind" (He.fAd K ("LooseReader", some "take_kind"))
def hf_18 : Fb := fun K => methB K "LooseReader" "take_content" (He.fAd K ("LooseReader", some "take_content"))
def hf_19 : Fb := fun K => methB K "LooseReader" "take_scalar" (He.fAd K ("LooseReader", some "take_scalar"))
def hf_20 : Fb := fun K => methB K "LooseReader" "take_parts" (He.fAd K ("LooseReader", some "take_parts"))
def hf_21 : Fb := fun K => methB K "LooseReader" "take_pairs" (He.fAd K ("LooseReader", some "take_pairs"))
def hf_22 : Fb := fun K => methB K "LooseReader" "take_list" (He.fAd K ("LooseReader", some "take_list"))
def hf_23 : Fb := fun K => methB K "LooseReader" "take_map" (He.fAd K ("LooseReader", some "take_map"))
def hf_24 : Fb := fun K => methB K "LooseReader" "take_item" (He.fAd K ("LooseReader", some "take_item"))
def hf_25 : Fb := fun K => gaB K "shorten"
def hf_26 : Fb := fun K => gaB K "_law_digits"
def hf_27 : Fb := fun K => gaB K "_law_loose_code"
def hf_28 : Fb := fun K => gaB K "_law_right"
def hf_29 : Fb := fun K => gaB K "law"
def hf_30 : Fb := fun K => gaB K "Document"
def hf_31 : Fb := fun K => gaB K "LooseReader"
def hf_32 : Fb := fun K => fldB K "data" ["Document"]
def hf_33 : Fb := fun K => fldB K "kind" ["Document"]
def hf_34 : Fb := fun K => fldB K "row" ["LooseReader"]
def hf_35 : Fb := fun K => fldB K "spot" ["LooseReader"]
def hf_36 : Fb := fun K => (He.Fa.free "bool").ok K
def hf_37 : Fb := fun K => (He.Fa.free "int").ok K
def hf_38 : Fb := fun K => (He.Fa.free "isinstance").ok K
def hf_39 : Fb := fun K => (He.Fa.free "len").ok K
def hf_40 : Fb := fun K => (He.Fa.free "list").ok K
def hf_41 : Fb := fun K => (He.Fa.free "max").ok K
def hf_42 : Fb := fun K => (He.Fa.free "min").ok K
def hf_43 : Fb := fun K => (He.Fa.free "range").ok K
def hf_44 : Fb := fun K => (He.Fa.free "sorted").ok K
def hf_45 : Fb := fun K => (He.Fa.free "tuple").ok K
def hf_46 : Fb := fun K => baseAtB K "ShortestBytesError"
def hf_47 : Fb := fun K => errAtB K "WrongByte" "at"
def hf_48 : Fb := fun K => errAtB K "Unfinished" "at"
def hf_49 : Fb := fun K => errAtB K "DuplicateKey" "at"
def hf_50 : Fb := fun K => apartB K lps kcs
def hf_51 : Fb := fun K => (He.Fa.int "MOST" (256 ^ 63 - 1)).ok K
def hf_52 : Fb := fun K => (He.Fa.int "LIMIT" (256 ^ 63)).ok K
def hf_53 : Fb := fun K => (He.Fa.int "DEEPEST" 24).ok K
def hf_54 : Fb := fun K => strAtB K "CHARS" vCHARS
def hf_55 : Fb := fun K => gaB K "KINDS" && tupStrB K (He.ga K "KINDS") vKINDS
def hf_56 : Fb := fun K => (He.Fa.int "GAP" 15).ok K
def hf_57 : Fb := fun K => gaB K "SCALARS" && dataB K (.ref (He.ga K "SCALARS")) vSCALARS
def hf_58 : Fb := fun K => gaB K "NESTS" && dataB K (.ref (He.ga K "NESTS")) vNESTS
def hf_59 : Fb := fun K => gaB K "KEYS" && dataB K (.ref (He.ga K "KEYS")) vKEYS
def hfn0 : List He5.DefA := []
def hfa0 : List Fb := ([hf_0, hf_1, hf_2, hf_3, hf_4, hf_5, hf_6, hf_7, hf_8, hf_9, hf_10, hf_11, hf_12, hf_13, hf_14, hf_15, hf_16, hf_17, hf_18, hf_19] : List Fb) ++ ([hf_20, hf_21, hf_22, hf_23, hf_24, hf_25, hf_26, hf_27, hf_28, hf_29, hf_30, hf_31, hf_32, hf_33, hf_34, hf_35, hf_36, hf_37, hf_38, hf_39] : List Fb) ++ ([hf_40, hf_41, hf_42, hf_43, hf_44, hf_45, hf_46, hf_47, hf_48, hf_49, hf_50, hf_51, hf_52, hf_53, hf_54, hf_55, hf_56, hf_57, hf_58, hf_59] : List Fb)
def hfn1 : List He5.DefA := ([hd_0, hd_1, hd_2, hd_3, hd_4, hd_5, hd_6, hd_7, hd_8, hd_9, hd_10] : List He5.DefA)
def hfa1 : List Fb := []
def hfn2 : List He5.DefA := ([hd_11, hd_12, hd_13, hd_14, hd_15, hd_16, hd_17, hd_18, hd_19, hd_20, hd_21] : List He5.DefA)
def hfa2 : List Fb := []
def hfn3 : List He5.DefA := ([hd_22, hd_23, hd_24, hd_25, hd_26, hd_27, hd_28, hd_29, hd_30, hd_31, hd_32] : List He5.DefA)
def hfa3 : List Fb := []
def hfn : List He5.DefA := hfn0 ++ hfn1 ++ hfn2 ++ hfn3
def hfa : List Fb := hfa0 ++ hfa1 ++ hfa2 ++ hfa3
def hnames : List Str := (["_law_bag", "_law_take", "_law_code", "_law_number", "is_integer", "is_byte", "base_bytes", "plain_code", "is_char_code", "integer_row", "document_of_row", "shorten", "_law_digits", "_law_loose_code", "_law_right", "law", "KINDS", "SCALARS", "NESTS", "KEYS"] : List Str)
def hcls : List Str := (["Document", "LooseReader", "WrongByte", "Unfinished", "DuplicateKey", "ShortestBytesError"] : List Str)
abbrev hR : PySem.W.OpenRow := PySem.W.OpenLaw.row PySem.Challenge.rw_shortestbytes_k57_needless_bytes_in_code
abbrev hpick : (Addr → Option Obj) → List Addr := pickU hcls hnames 4
def hloose : List Str := (["_wall", "ShortestBytesError", "BadNumber", "BadValue", "WrongByte", "Unfinished", "DuplicateKey", "BadShape", "UnknownName", "Circular", "Ambiguous", "Barren", "MOST", "is_integer", "is_byte", "is_number", "base_bytes", "plain_code", "code_size", "code_bounds", "code_number", "least_number", "DEEPEST", "KINDS", "LIMIT", "CHARS", "is_char_code", "char_of", "is_text", "is_octets"] : List Str) ++ (["is_key", "is_plain", "integer_row", "scalar_row", "key_row", "sorted_keys", "steps_of", "first_bad", "is_value", "encoded", "checked_row", "head_at", "scalar_at", "parts_of", "item_end", "row_depth", "value_at", "digits_of", "decoded", "Tag", "ALL_KEYS", "LEAST_INTEGER_ROW", "GREATEST_INTEGER_ROW", "OCTETS_END", "TEXTS_END", "range_low", "range_high", "powers", "base_of", "range_size"] : List Str) ++ (["keys_size", "char_code", "content_row", "row_from_top", "top_row", "next_integer_row", "next_content_row", "row_behind", "kind_bounds", "bounds_of", "KIND_WORDS", "is_bound", "check_bounds", "end_of_bounds", "is_name", "is_shape_table", "key_ranges", "Shape", "alternatives_of", "FAR", "inner_shapes", "mentioned", "direct_names", "height", "word_of", "lead_of", "Schema", "is_scalar_key", "is_in_ranges", "general_schema"] : List Str) ++ (["schema_or_general", "CHAR_RANGES", "joined_ranges", "cut_ranges", "Walker", "Span", "Among", "SCALAR_WORDS", "RANGE_WORDS", "FIRST_CODE", "LAST_CODE", "Frame", "open_entries", "record_choices", "map_ranges", "key_bounds", "scalar_bounds", "scalar_walker", "count_bounds", "kinds_of", "Machine", "take_all", "checked_document", "Document", "document_of_row", "GAP", "SCALARS", "NESTS", "KEYS", "LooseReader"] : List Str) ++ (["shorten", "_law_bag", "_law_take", "_law_code", "_law_row", "_law_number", "_law_text", "_law_length", "_law_key", "_law_octets", "_law_pairs", "_law_tree", "_law_digits", "_law_loose_code", "_law_right"] : List Str)
section
open PySem.W HandSHeadRun
noncomputable abbrev hend (w : World) (os : OsState) := endZ 20000 hR.prog w os
abbrev hq : Program := view hR.prog [146]
abbrev hw (w : World) (b : Bool) : World := w.withFollow "special-get-raises" b
set_option maxHeartbeats 8000000 in
theorem early {H : PySem.W.Hook} {ob : PySem.W.SharedT → H.α} (ho : ∀ s : PySem.W.SharedT, ob s = H.obs s.abs) (run : ∀ w, RunEq hR hq H ob 20000 hloose w) (call : WalkO hq hloose (XL hq []) H.says hR.toRowW (HandSHeadRun.topDef hR.prog 146) [] fun f vs => PySem.call f vs) : PySem.Challenge.rw_shortestbytes_k57_needless_bytes_in_code.Holds := by
  w_on; o_law
  refine HandSHeadRun.head_any (r := OpenLaw.row PySem.Challenge.rw_shortestbytes_k57_needless_bytes_in_code) (q := hq) (H := H) (ob := ob) (M := 20000) (loose := hloose) (d := HandSHeadRun.topDef hR.prog 146) (kwd := []) ho
    (by kernel_rfl) (fun s => by kernel_rfl) run (by kernel_rfl) (by kernel_rfl) (by kernel_rfl) (by rfl) (by first | assumption | decide +kernel) (by decide +kernel) ⟨rfl, rfl, rfl, rfl, rfl, by decide +kernel⟩ ?hw call
  case hw => w_witness2
theorem hall0F (w : World) (os : OsState) : (hend (hw w false) os).map (fun s => (looksF hR.prog (boot_heap (hw w false).params) s.abs, lookM hpick hfa0 hfn0 (getT s))) = some (true, He5.valA hfn0) := by kernel_rfl
theorem hlF (w : World) (os : OsState) : (hend (hw w false) os).map (fun s => looksF hR.prog (boot_heap (hw w false).params) s.abs) = some (true) := by
  obtain ⟨s, h, e⟩ := Option.map_eq_some_iff.mp (hall0F w os)
  exact Option.map_eq_some_iff.mpr ⟨s, h, congrArg (fun x => x.1) e⟩
theorem hc0F (w : World) (os : OsState) : (hend (hw w false) os).map (fun s => lookM hpick hfa0 hfn0 (getT s)) = some (He5.valA hfn0) := by
  obtain ⟨s, h, e⟩ := Option.map_eq_some_iff.mp (hall0F w os)
  exact Option.map_eq_some_iff.mpr ⟨s, h, congrArg (fun x => x.2) e⟩
theorem hall1F (w : World) (os : OsState) : (hend (hw w false) os).map (fun s => (seenQ hq hloose (importedModules hR.prog.main.body) (fun s => xlAt hq [] s && recOk hR.toRowW.records s) s.abs, lookM hpick hfa1 hfn1 (getT s))) = some (openGood hq hloose, He5.valA hfn1) := by kernel_rfl
theorem hsF (w : World) (os : OsState) : (hend (hw w false) os).map (fun s => seenQ hq hloose (importedModules hR.prog.main.body) (fun s => xlAt hq [] s && recOk hR.toRowW.records s) s.abs) = some (openGood hq hloose) := by
  obtain ⟨s, h, e⟩ := Option.map_eq_some_iff.mp (hall1F w os)
  exact Option.map_eq_some_iff.mpr ⟨s, h, congrArg (fun x => x.1) e⟩
theorem hc1F (w : World) (os : OsState) : (hend (hw w false) os).map (fun s => lookM hpick hfa1 hfn1 (getT s)) = some (He5.valA hfn1) := by
  obtain ⟨s, h, e⟩ := Option.map_eq_some_iff.mp (hall1F w os)
  exact Option.map_eq_some_iff.mpr ⟨s, h, congrArg (fun x => x.2) e⟩
theorem hc2F (w : World) (os : OsState) : (hend (hw w false) os).map (fun s => lookM hpick hfa2 hfn2 (getT s)) = some (He5.valA hfn2) := by kernel_rfl
theorem hc3F (w : World) (os : OsState) : (hend (hw w false) os).map (fun s => lookM hpick hfa3 hfn3 (getT s)) = some (He5.valA hfn3) := by kernel_rfl
theorem hall0T (w : World) (os : OsState) : (hend (hw w true) os).map (fun s => (looksF hR.prog (boot_heap (hw w true).params) s.abs, lookM hpick hfa0 hfn0 (getT s))) = some (true, He5.valA hfn0) := by kernel_rfl
theorem hlT (w : World) (os : OsState) : (hend (hw w true) os).map (fun s => looksF hR.prog (boot_heap (hw w true).params) s.abs) = some (true) := by
  obtain ⟨s, h, e⟩ := Option.map_eq_some_iff.mp (hall0T w os)
  exact Option.map_eq_some_iff.mpr ⟨s, h, congrArg (fun x => x.1) e⟩
theorem hc0T (w : World) (os : OsState) : (hend (hw w true) os).map (fun s => lookM hpick hfa0 hfn0 (getT s)) = some (He5.valA hfn0) := by
  obtain ⟨s, h, e⟩ := Option.map_eq_some_iff.mp (hall0T w os)
  exact Option.map_eq_some_iff.mpr ⟨s, h, congrArg (fun x => x.2) e⟩
theorem hall1T (w : World) (os : OsState) : (hend (hw w true) os).map (fun s => (seenQ hq hloose (importedModules hR.prog.main.body) (fun s => xlAt hq [] s && recOk hR.toRowW.records s) s.abs, lookM hpick hfa1 hfn1 (getT s))) = some (openGood hq hloose, He5.valA hfn1) := by kernel_rfl
theorem hsT (w : World) (os : OsState) : (hend (hw w true) os).map (fun s => seenQ hq hloose (importedModules hR.prog.main.body) (fun s => xlAt hq [] s && recOk hR.toRowW.records s) s.abs) = some (openGood hq hloose) := by
  obtain ⟨s, h, e⟩ := Option.map_eq_some_iff.mp (hall1T w os)
  exact Option.map_eq_some_iff.mpr ⟨s, h, congrArg (fun x => x.1) e⟩
theorem hc1T (w : World) (os : OsState) : (hend (hw w true) os).map (fun s => lookM hpick hfa1 hfn1 (getT s)) = some (He5.valA hfn1) := by
  obtain ⟨s, h, e⟩ := Option.map_eq_some_iff.mp (hall1T w os)
  exact Option.map_eq_some_iff.mpr ⟨s, h, congrArg (fun x => x.2) e⟩
theorem hc2T (w : World) (os : OsState) : (hend (hw w true) os).map (fun s => lookM hpick hfa2 hfn2 (getT s)) = some (He5.valA hfn2) := by kernel_rfl
theorem hc3T (w : World) (os : OsState) : (hend (hw w true) os).map (fun s => lookM hpick hfa3 hfn3 (getT s)) = some (He5.valA hfn3) := by kernel_rfl
end
end Sb
/-! Sb, part G: contracts of defs that may call repr (they are called while no repr is under way); repr of data; the end of a law over such contracts. -/
namespace Sb
open PySem PySem.Spec PyProof.Rows L2

abbrev Still (A : Around) : Prop := A.guards = some []

section
variable {P : Program} {w : World} {K : PySem.W.Frag} {mg : Str → Option Value} {base : Heap} {CX : CXT} {f : Addr} {fd : FuncData} {ps : List Str} {sp : Sp}

theorem entered {A : Around} {k : Nat} {outer : List Env} {s : Shared} {H : Hp} {args : Args} {us : List Value} {vs : List V} {Q : VK} {E : XK}
    {nm qn : Str} {pars : Arguments} {bd : List Stmt} {sco : Scope} {dV kV dc pm cv ct oc : Value} {an od : Option Addr} {sl : Array (Option Value)} {N : List Str} {t : TS}
    (at_ : K.lookup f = some ⟨oc, od, .func (PySem.W.fnOf nm qn pars bd sco dV kV dc pm an cv ct), sl⟩)
    (cod : PySem.W.codeIn K cv qn = true) (S : FnScope N ps sco) (n : vs.length = ps.length) (room : Room (k + 1) A)
    (env : Env0 P w K mg base A outer s H) (bnd : BindsTo s (PySem.W.fnOf nm qn pars bd sco dV kV dc pm an cv ct) args (ps.zip us)) (rv : Vals vs us)
    (walk : PSs (cxOf CX P w K mg base N qn sco f cv A outer s H E) bd t)
    (read : t { nx := fun _ H' => Q .non H', rt := Q } (start N vs) H) :
    codeAny (model P w) A (.call (.ref f) args) -- what the call does
      (CR CX outer P w H s Q E) s := by
  have old : ∀ b o, base.get? b = some o → s.heap.get? b = some o := fun b o e => (env.bs b o e).1
  have kin := env.mod.kin.keeps old
  have slotOk : ∀ y ∈ ps.zip us, sco.names.lookup y.1 = some .local ∨
      (sco.names.lookup y.1 = some .cell ∧ ((cellsFrom (s.heap.objs.size + 1) sco.names []).lookup y.1).isSome = true) := by
    rintro ⟨x, v⟩ m
    exact (S.par x (List.of_mem_zip m).1).imp id fun c => ⟨c, PySem.W.cellsFrom_some _ _ _ (.inl c)⟩
  apply codeAny_call_function room.depth (kin _ _ at_) rfl S.co S.gen rfl (PySem.W.codeRec_of kin cod)
  apply bnd
  apply wpAny_newFunctionEnv_cells S.kind slotOk
  rintro _ rfl s1 x
  refine ⟨(env.mod.nolimit.keeps old).keeps x.toInCall.keep, codeAny_func ?_⟩
  refine wpAny_mono (walk.run [] s1 (start N vs) H _ (inv_start S room.hd env n rv x) read) ?_ fun _ _ z => z
  intro fl s' z
  match fl, z with
  | .ret u, ⟨v, _, H', J, r, q⟩ => exact ⟨v, H', J.os, J.bare, J.base, J.hok, r, q⟩
  | .next, ⟨_, H', J, q⟩ => exact ⟨.non, H', J.os, J.bare, J.base, J.hok, rfl, q⟩
  | .brk, ⟨_, _, _, q⟩ => exact q.elim
  | .cont, ⟨_, _, _, q⟩ => exact q.elim

structure FnG (P : Program) (w : World) (K : PySem.W.Frag) (mg : Str → Option Value) (base : Heap) (CX : CXT) (k : Nat) (f : Addr) (fd : FuncData) (ps : List Str) (sp : Sp) : Prop where
  many : ∀ vs H Q E, sp vs H Q E → vs.length = ps.length
  does : ∀ (A : Around) (outer : List Env) (s : Shared) (H : Hp) (args : Args) (us : List Value) (vs : List V) (Q : VK) (E : XK),
    Still A → Room k A → Env0 P w K mg base A outer s H → BindsTo s fd args (ps.zip us) → Vals vs us → sp vs H Q E →
      codeAny (model P w) A (.call (.ref f) args)
        (CR CX outer P w H s Q E) s
theorem FnG.of {k : Nat} (F : FnOk P w K mg base CX k f fd ps sp) : FnG P w K mg base CX k f fd ps sp :=
  ⟨F.len, fun A o s H as us vs Q E _ => F.run A o s H as us vs Q E⟩
theorem FnG.up {j k : Nat} (F : FnG P w K mg base CX j f fd ps sp) (h : j ≤ k) : FnG P w K mg base CX k f fd ps sp :=
  ⟨F.many, fun A o s H as us vs Q E g r => F.does A o s H as us vs Q E g (r.mono h)⟩
theorem okXG {x qn : Str} {pars : Arguments} {bd : List Stmt} {sco : Scope} {dvs : List V} {kws : List (Str × V)} {N : List Str} {k : Nat} (F : FunD K x qn pars bd sco dvs kws f fd) (S : FnScope N ps sco) (many : ∀ vs H Q E, sp vs H Q E → vs.length = ps.length)
    (does : ∀ (cv : Value) (A : Around) (outer : List Env) (s : Shared) (H : Hp) (vs : List V) (Q : VK) (E : XK), Still A → Room k (A.deeper (envOfC qn sco s.heap.objs.size f cv)) → sp vs H Q E →
      ∃ t, PSs (cxOf (L2.CX P w) P w K mg base N qn sco f cv A outer s H E) bd t ∧ t { nx := fun _ H' => Q .non H', rt := Q } (start N vs) H) :
    FnG P w K mg base (L2.CX P w) (k + 1) f fd ps sp := by
  obtain ⟨_, _, _, _, _, _, _, cv, _, _, rfl, at_, cod, _, _⟩ := F.ex
  refine ⟨many, fun A outer s H args us vs Q E g room env bnd rv h => ?_⟩
  obtain ⟨t, ht, q⟩ := does cv A outer s H vs Q E g (room.deeper _) h
  exact entered at_ cod S (many _ _ _ _ h) room env bnd rv ht q
end

section
variable {X : Cx} {CX : CXT} {k : Nat} {f : Addr} {fd : FuncData} {ps : List Str} {sp : Sp} {dvs : List V} {ds : List Value} {E : XK}
theorem called {pins : List (Addr × Obj)} {σ : L2.St} {H : Hp} {s : Shared} {Q : VK} {us : List Value} {vs : List V} (F : FnG X.prog X.w X.K X.mg X.base CX k f fd ps sp) (g : Still X.A) (room : Room k X.A)
    (bnd : Binds X.K fd ps ds) (dv : Vals dvs ds) (px : Passes CX X E) (I : Inv X pins σ H s) (rv : Vals vs us) (h : sp (vs ++ dvs) H Q E) :
    wpAny (model X.prog X.w) X.A (call (.ref f) us)
      (EP X pins σ Q) X.xe s := by
  have all := rv.append dv
  have n : (us ++ ds).length = ps.length := all.length.symm.trans (F.many _ _ _ _ h)
  refine wpAny_call (codeAny_mono (F.does X.A X.stack s H ⟨us, []⟩ _ _ Q E g room I.env0 (bnd s us I.kIn n) all h) ?_)
  intro r s' z
  match r, z with
  | .error e, z => exact px pins σ H s e s' I z
  | .ok (.ret u), z => exact I.after z
  | .ok .next, z => exact z.elim
  | .ok .brk, z => exact z.elim
  | .ok .cont, z => exact z.elim
end

/-! ### a def by its name -/
structure DefAt (K : PySem.W.Frag) (mg : Str → Option Value) (x : Str) (st : Stmt) (dvs : List V) : Prop where
  g : mg x = some (.ref (He.ga K x))
  F : ∃ fd, FunD K x x (defArgs st) (defBody st) (defScope st) dvs [] (He.ga K x) fd
def Has (P : Program) (w : World) (K : PySem.W.Frag) (mg : Str → Option Value) (base : Heap) (CX : CXT) (k : Nat) (x : Str) (ps : List Str) (dvs : List V) (sp : Sp) : Prop :=
  ∃ (f : Addr) (fd : FuncData) (ds : List Value), FnG P w K mg base CX k f fd ps sp ∧ mg x = some (.ref f) ∧ PySem.W.keepIn K (.ref f) = true ∧ Binds K fd ps ds ∧ Vals dvs ds
section
variable {P : Program} {w : World} {K : PySem.W.Frag} {mg : Str → Option Value} {base : Heap} {k : Nat} {x : Str} {st : Stmt} {ps N : List Str} {sp : Sp}
theorem Has.up {j : Nat} {CX : CXT} {dvs : List V} (h : Has P w K mg base CX j x ps dvs sp) (le : j ≤ k) : Has P w K mg base CX k x ps dvs sp := by
  obtain ⟨f, fd, ds, F, r⟩ := h
  exact ⟨f, fd, ds, F.up le, r⟩
end
section
variable {X : Cx} {CX : CXT} {k : Nat} {ps : List Str} {sp : Sp} {dvs : List V} {E : XK} {x : Str} {p pos : Pos} {e : Expr} {es : List Expr} {t : TA}
end

/-! ### repr of data -/
structure Shows (K : PySem.W.Frag) (H : Hp) (x : V) (d : PyData) : Prop where
  dp : Dp K H x d
  ok : d.showable = true
  nd : d.hasDict = false
  deep : d.depth ≤ 100
  size : d.shown.length ≤ sizeLine
/-! ### the end of a law: the bits of the script are told -/
section
variable {P : Program} {w : World} {K : PySem.W.Frag} {mg mb : Str → Option Value} {s : Shared} {a : Addr} {vs : List Value} {ns : List Int}
abbrev scriptObj (vs : List Value) : Obj := { cls := .type "list", data := .seq vs.toArray }
theorem top_env {H : Hp} (kin : K.In s.heap) (gl : s.heap.Ns mainGlobals mg) (bl : s.heap.Ns builtinsNs mb) (std : ∀ x : Str, x ≠ "__name__" → mb x = bootBuiltins x) (lim : s.heap.NoLimit) (gens : s.gens = #[])
    (is : s.heap.get? a = some (scriptObj vs)) (only : ∀ b, H b ≠ none → b = a) (off : H a ≠ none → K.lookup a = none) (ok : HOk P w H s.heap) :
    K.In (hidT s.heap H) ∧ (hidT s.heap H).Ns mainGlobals mg ∧ Env0 P w K mg (hidT s.heap H) callerA [] s H := by
  have free : ∀ {b : Addr}, b ≠ a → H b = none := fun {b} ne => Classical.byContradiction fun z => ne (only b z)
  have sub : ∀ {b : Addr} {m : Str → Option Value}, s.heap.Ns b m → (hidT s.heap H).Ns b m := by
    rintro b m ⟨o, es, ep, e, d, r⟩
    refine ⟨o, es, ep, hidT_get e (free fun z => ?_), d, r⟩
    rw [z, is] at e
    cases e
    cases d
  have kin' : K.In (hidT s.heap H) := fun b o e => hidT_get (kin b o e) (Classical.byContradiction fun z => by
    have q := only b z
    subst q
    exact nomatch (off z).symm.trans e)
  obtain ⟨mc, h1, h2⟩ := lim
  refine ⟨kin', sub gl, ⟨rfl, ⟨kin', sub gl, ⟨mb, sub bl, std⟩, ⟨mc, sub h1, h2⟩⟩, fun _ _ e => of_hidT e, Nat.le_of_eq (hidT_size _ _), trivial, fun _ m => (nomatch m), ok, .of_eq gens⟩⟩
theorem law_callG {CX : CXT} {k : Nat} {fa : Addr} {x nm : Str} {sp : Sp}
    (kin : K.In s.heap) (gl : s.heap.Ns mainGlobals mg) (bl : s.heap.Ns builtinsNs mb) (std : ∀ x : Str, x ≠ "__name__" → mb x = bootBuiltins x) (lim : s.heap.NoLimit) (gens : s.gens = #[])
    (is : s.heap.get? a = some (scriptObj vs)) (hi : IntsAre vs ns) (hl : ns.length ≤ sizeLine) (room : Room k callerA)
    (F : ∀ base : Heap, K.In base → base.Ns mainGlobals mg → Has P w K mg base CX k nm [x] [] sp) (isf : mg nm = some (.ref fa))
    (want : ∀ H : Hp, Only H → SqL K H a (ns.map V.int) → sp [.ref a] H (fun v _ => v = .bl true) fun _ _ _ => False)
    (noX : ∀ H e s', CX [] H s (fun _ _ _ => False) e s' → False) :
    codeAny (model P w) callerA (.call (.ref fa) ⟨[.ref a], []⟩) (fun r s' => r = .ok (.ret (.bool true)) ∧ OldK s.heap s'.heap ∧ s'.os = s.os ∧ AllBare s'.gens) s := by
  have from_ : ∀ H : Hp, Only H → SqL K H a (ns.map V.int) → HOk P w H s.heap → (∀ b, H b ≠ none → b = a) → (H a ≠ none → K.lookup a = none) →
      codeAny (model P w) callerA (.call (.ref fa) ⟨[.ref a], []⟩) (fun r s' => r = .ok (.ret (.bool true)) ∧ OldK s.heap s'.heap ∧ s'.os = s.os ∧ AllBare s'.gens) s := by
    intro H hO hS ok only off
    obtain ⟨k1, k2, env⟩ := top_env (H := H) kin gl bl std lim gens is only off ok
    obtain ⟨f, fd, ds, F', g, _, bnd, dv⟩ := F _ k1 k2
    cases dv
    cases g.symm.trans isf
    refine codeAny_mono (F'.does callerA [] s H ⟨[.ref a], []⟩ [.ref a] [.ref a] _ _ rfl room env (bnd s [.ref a] kin rfl) (.cons rfl .nil) (want H hO hS)) ?_
    intro r s' z
    match r, z with
    | .error e, z => exact (noX H e s' z).elim
    | .ok .next, z => exact z.elim
    | .ok .brk, z => exact z.elim
    | .ok .cont, z => exact z.elim
    | .ok (.ret u), ⟨v, H', os, bare, un, ok', r', q⟩ =>
      have q' : v = .bl true := q
      subst q'
      have r2 : u = Value.bool true := r'
      subst r2
      refine ⟨rfl, OldK.of_keep ?_, os, bare⟩
      intro b o e
      rcases hO b with z | ⟨ob, ys, z⟩
      · exact un.keep b o e z (fun m => (nomatch m)) (fun m => (nomatch m))
      · have e1 := (ok b _ z).1
        have e2 := (ok' b _ (un.frzs b ob _ z)).1
        rw [e] at e1
        cases e1
        exact e2
  have rv := vals_ints hi
  cases q : K.lookup a with
  | some o =>
    have e := kin a o q
    rw [is] at e
    cases e
    exact from_ (fun _ => none) (fun _ => .inl rfl) (.inr ⟨_, vs.toArray, _, q, rfl, rfl, rfl, by rw [List.size_toArray, hi.length]; exact hl, by simpa using rv⟩) (fun _ _ z => nomatch z) (fun _ z => (z rfl).elim) fun z => (z rfl).elim
  | none =>
    have here : ∀ b u, (if b = a then some (HO.frz (scriptObj vs) (.lst (ns.map V.int))) else none) = some u → b = a ∧ u = .frz (scriptObj vs) (.lst (ns.map V.int)) := by
      intro b u z
      by_cases c : b = a
      · rw [if_pos c] at z
        exact ⟨c, (Option.some.inj z).symm⟩
      · rw [if_neg c] at z
        cases z
    refine from_ (fun b => if b = a then some (.frz (scriptObj vs) (.lst (ns.map V.int))) else none) ?_ (.inl (.inr ⟨scriptObj vs, if_pos rfl⟩)) ?_ ?_ fun _ => q
    · intro b
      by_cases c : b = a
      · exact .inr ⟨_, _, if_pos c⟩
      · exact .inl (if_neg c)
    · intro b u z
      obtain ⟨c, rfl⟩ := here b u z
      subst c
      exact ⟨is, by rw [List.length_map]; exact hl, vs, _, rv, is⟩
    · intro b z
      by_cases c : b = a
      · exact c
      · exact (z (if_neg c)).elim
end
theorem walk_ofG {l : PySem.W.OpenLaw} {n k : Nat} {q : Program} {loose : List Str} {XP : (Str → Option Value) → Heap → Prop} {YP : World → Heap → Prop} {d : DefRec} {CX : World → CXT} {x nm : Str}
    (most : l.most = some n) (few : n ≤ sizeLine) (nodef : d.params.defaults = []) (named : d.name = nm) (room : Room k callerA)
    (F : ∀ (w : World) (mg : Str → Option Value) (h : Heap), YP w h → h.Ns mainGlobals mg → ∃ (K : PySem.W.Frag) (sp : Sp), K.In h ∧
        (∀ (H : Hp) (a : Addr) (ns : List Int), ns.length ≤ n → (∀ z ∈ ns, Builtin.Int.intBits z ≤ 1048576) → Only H → SqL K H a (ns.map V.int) → sp [.ref a] H (fun v _ => v = .bl true) fun _ _ _ => False) ∧
        ∀ base : Heap, K.In base → base.Ns mainGlobals mg → Has l.prog w K mg base (CX w) k nm [x] [] sp)
    (noX : ∀ (w : World) (H : Hp) (s : Shared) (e : Value) (s' : Shared), CX w [] H s (fun _ _ _ => False) e s' → False) :
    PySem.W.WalkO q loose XP YP l.row.toRowW d []
      (fun f vs => PySem.call f vs) := by
  apply Att.attach_callB most nodef
  intro w s0 s1 mg mb fa o pm cd doc a vs ns G Y _ _ _ isf is hi hl bits gens
  obtain ⟨K, sp, kin, want, F'⟩ := F w mg _ Y G.T.g
  exact law_callG kin G.T.g G.T.b G.T.builtins G.T.nolimit gens is hi (Nat.le_trans hl few) room F' (named ▸ isf) (fun H hO hS => want H a ns hl bits hO hS) fun H e s' => noX w H s1 e s'
end Sb

/-! Sb, part E: facts of the top as Boolean functions of the written part; the package's errors: made, raised, caught, asked. -/
namespace Sb
open PySem PySem.Spec PyProof.Rows L2

/-! ### facts of the top -/
def obsF (fs : List Fb) (fn : List He.DefD) (K : PySem.W.Frag) : He.AlD := (fs.all (fun f => f K) && fn.all (fun d => d.ok K), fn.map fun d => He.fnW K d.at_)
def SaysF (fs : List Fb) (fn : List He.DefD) (K : PySem.W.Frag) : Prop := obsF fs fn K = He.valD fn
section
variable {fs : List Fb} {fn : List He.DefD} {K : PySem.W.Frag}
theorem SaysF.fact (c : SaysF fs fn K) (i : Nat) {f : Fb} (at_ : fs[i]? = some f) : f K = true := by
  have both : (fs.all (fun f => f K) && fn.all (fun d => d.ok K)) = true := congrArg Prod.fst c
  exact List.all_eq_true.mp (Bool.and_eq_true_iff.mp both).1 f (List.mem_of_getElem? at_)
theorem SaysF.def_ (c : SaysF fs fn K) (i : Nat) {d : He.DefD} (at_ : fn[i]? = some d) : ∃ fd, FunD K d.name d.qual d.params d.body d.scope (d.dvs K) (d.kws K) (He.fAd K d.at_) fd := by
  have both : (fs.all (fun f => f K) && fn.all (fun d => d.ok K)) = true := congrArg Prod.fst c
  have e : (fn.map fun d => He.fnW K d.at_)[i]? = (fn.map He.DefD.val)[i]? := congrArg (·[i]?) (congrArg Prod.snd c)
  simp only [List.getElem?_map, at_, Option.map_some, Option.some.injEq] at e
  exact He.DefD.funD e (List.all_eq_true.mp (Bool.and_eq_true_iff.mp both).2 d (List.mem_of_getElem? at_))
end

/-! ### the package's errors -/
theorem errCls_ok {K : PySem.W.Frag} {C : Addr} (h : errCls K C = true) :
    ∃ nm q N bs bm sn sub ab col dd k0 k1 k2 k3 k5, K.lookup C = some (excClassObj nm q C N bs bm true sn sub ab col dd k0 k1 k2 k3 k5 "ValueError.__new__") ∧ PySem.HandSPX.refsVE bm = true := by
  unfold errCls at h
  split at h
  · rename_i dd cd sl at_
    split at h
    · rename_i C' bm k0 k1 k2 k3 n k5 e1 e2
      simp only [Bool.and_eq_true, decide_eq_true_eq, Bool.not_eq_true'] at h
      obtain ⟨⟨⟨⟨rfl, rfl⟩, e3⟩, e4⟩, e5⟩ := h
      cases cd
      cases sl
      cases e1
      cases e2
      cases e3
      cases e4
      exact ⟨_, _, _, _, _, _, _, _, _, _, _, _, _, _, _, at_, e5⟩
    · cases h
  · cases h
structure ErrC (K : PySem.W.Frag) (C : Addr) : Prop where
  oex : OexC K C
  xf : XfC K C
  cl : (PySem.W.clsIn K C).isSome = true
  ha : PySem.W.findIn K (.ref C) "__class__" = some (some (.builtin "object.__class__"))
  hn : PySem.W.specialIn K (.builtin "object.__class__") "__get__" = some (some (.builtin "getset_descriptor.__get__"))
  ht : PySem.W.takesIn K (.builtin "object.__class__") = some true
  hm : PySem.W.mroIn K C (.type "object") = some true
theorem errB_ok {K : PySem.W.Frag} {C : Addr} (h : errB K C = true) : ErrC K C := by
  simp only [errB, Bool.and_eq_true, decide_eq_true_eq] at h
  obtain ⟨⟨⟨⟨⟨⟨⟨⟨⟨⟨⟨⟨a, b⟩, c⟩, d⟩, e⟩, f⟩, g⟩, i⟩, j⟩, k⟩, l⟩, m⟩, n⟩ := h
  exact ⟨⟨errCls_ok a, b, c, d, e⟩, ⟨f, g, c, i⟩, j, k, l, m, n⟩
structure BaseC (K : PySem.W.Frag) (S : Addr) : Prop where
  sp : PySem.W.specialIn K (.ref S) "__getattribute__" = some (some (.builtin "type.__getattribute__"))
  rd : PySem.W.readsIn K S (.type "type") = true
  fc : PySem.W.findCls K (.ref S) (.type "type") "__init__" = some (.val (.builtin "ValueError.__init__"))
theorem baseB_ok {K : PySem.W.Frag} {S : Addr} (h : baseB K S = true) : BaseC K S := by
  simp only [baseB, Bool.and_eq_true, decide_eq_true_eq] at h
  obtain ⟨⟨a, b⟩, c⟩ := h
  refine ⟨a, b, ?_⟩
  split at c
  · rename_i n e
    rw [e, of_decide_eq_true c]
  · cases c

section
variable {X : Cx} {e : Expr} {es : List Expr} {ta : TA} {p1 p2 pos : Pos} {x : Str} {S : Addr}
theorem pe_baseinit {pl : Sem Bool} (gl : Gl X x) (isS : X.mg x = some (.ref S)) (B : BaseC X.K S) (ha : PA X (e :: es) ta)
    (form : eval (.Call (.Attribute (.Name x p1) "__init__" p2) (e :: es) [] pos) X.env = (do
      let ov ← eval (.Name x p1) X.env
      standAt p2.atName
      let (f, first) ← holding [ov] (getMethod ov "__init__" pl)
      callWith pos f first (backTo pos (starEach (e :: es) X.env)) (backToKw pos (keywordEach [] X.env))) := by rfl)
    (nd : (x == ("__debug__" : Str)) = false := by decide) (st : starEach (e :: es) X.env = (false, eval e X.env) :: starEach es X.env := by rfl) (plain : (backTo pos (starEach es X.env)).any (·.1) = false := by rfl) :
    PE X (.Call (.Attribute (.Name x p1) "__init__" p2) (e :: es) [] pos) (tVeI X.K ta) := by
  refine ⟨fun pins s σ H Q I h => PySem.W.methodCall_KW (ld_glob I gl isS ?_ nd) form⟩
  refine PySem.W.method_cls I.kIn B.sp (PySem.W.cls_value I.kIn B.rd B.fc (by decide +kernel) ?_)
  show wpAny _ _ (callWith pos (Value.builtin "ValueError.__init__") [] (backTo pos (starEach (e :: es) X.env)) []) _ _ _
  refine PyProof.Rows.callWith_method1 (thn (ha.run pos pins _ σ H _ (I.tok _) h) ?_) st plain
  rintro us s1 ⟨vs, H1, J, r, a, C, ws, rfl, few, T, isE, q⟩
  cases r with
  | cons ra rr =>
    cases ra
    refine oinit_ok T J isE ?_ fun s' J' => ⟨.non, H1, J', rfl, q⟩
    rw [← Paired.length rr, sizeLine_eq]
    omega
end

def spInit (C : Addr) (f : Str) : Sp := fun vs H Q _ => ∃ (a : Addr) (v : V), vs = [.ref a, v] ∧ H a = some (exo a C none) ∧
  ∀ dx, H dx = none → dx ≠ a → Q .non (upd (upd H dx (exd dx [(f, v)])) a (exo a C (some dx)))
def Err (P : Program) (w : World) (K : PySem.W.Frag) (mg : Str → Option Value) (base : Heap) (x f : Str) : Prop :=
  mg x = some (.ref (He.ga K x)) ∧ ErrC K (He.ga K x) ∧ ∃ (fI : Addr) (fd : FuncData) (ps : List Str), PySem.W.findIn K (.ref (He.ga K x)) "__init__" = some (some (.ref fI)) ∧ PySem.W.typeIn K (.ref fI) = some (.type "function") ∧
    FnOk P w K mg base CX0 1 fI fd ps (spInit (He.ga K x) f) ∧ Binds K fd ps []
def tErr (C : Addr) (f : Str) (te : TE) : L2.St → Hp → XK → Prop := fun σ H Q => te σ H fun v H1 => ∀ d, H1 d = none → Q (.ref C) (some d) (upd H1 d (.xd [(f, v)]))
def tLess (te : TE) : TE := fun σ H Q => ∃ Q0 : VK, te σ H Q0 ∧ ∀ v H1, Q0 v H1 → Q v H1
section
variable {X : Cx} {e : Expr} {te : TE} {p pos : Pos} {x f : Str}
theorem pe_less (he : PE X e te) : PE X e (tLess te) := by
  refine ⟨fun pins s σ H Q I h => ?_⟩
  obtain ⟨Q0, h0, imp⟩ := h
  refine wpAny_mono (he.run pins s σ H Q0 I h0) ?_ fun _ _ z => z
  rintro u s1 ⟨v, H1, J, r, q⟩
  exact ⟨v, H1, J, r, imp v H1 q⟩
theorem err_made {C a : Addr} {f : Str} {v : V} {H : Hp} {Q : XK} (ha : H a = none) (z : ∀ d, H d = none → Q (.ref C) (some d) (upd H d (.xd [(f, v)]))) :
    spInit C f [.ref a, v] (upd H a (exo a C none)) (fun v H2 => v = .non ∧ ∃ (d : Addr) (fs : List (Str × V)), H2 a = some (exo a C (some d)) ∧ H2 d = some (exd d fs) ∧ H d = none ∧ Q (.ref C) (some d) (upd (del H2 a) d (.xd fs))) (fun _ _ _ => False) := by
  refine ⟨a, v, rfl, upd_same, fun dx hd ne => ⟨rfl, dx, [(f, v)], upd_same, ?_, ?_, ?_⟩⟩
  · rw [upd_ne ne, upd_same]
  · rwa [upd_ne ne] at hd
  · have e : upd (del (upd (upd (upd H a (exo a C none)) dx (exd dx [(f, v)])) a (exo a C (some dx))) a) dx (.xd [(f, v)]) = upd H dx (.xd [(f, v)]) := by
      funext b
      by_cases hb : b = dx
      · rw [hb, upd_same, upd_same]
      · rw [upd_ne hb, upd_ne hb]
        by_cases hb2 : b = a
        · rw [hb2, del_same, ha]
        · rw [del_ne hb2, upd_ne hb2, upd_ne hb, upd_ne hb2]
    rw [e]
    rw [upd_ne ne] at hd
    exact z dx hd
theorem pmk_err {k : Nat} (M : Err X.prog X.w X.K X.mg X.base x f) (room : Room (k + 2) X.A) (gl : Gl X x) (he : PE X e te)
    (nd : (x == ("__debug__" : Str)) = false := by decide) (st : starEach [e] X.env = (false, eval e X.env) :: starEach [] X.env := by rfl) (pl : (backTo pos (starEach [] X.env)).any (·.1) = false := by rfl) :
    PMk X (.Call (.Name x p) [e] [] pos) (tErr (He.ga X.K x) f te) := by
  obtain ⟨g, C, fI, fd, ps, iC, tI, F, bnd⟩ := M
  intro pins s σ H Q I h
  refine pmk_oex (C := He.ga X.K x) C.oex iC tI F (room.mono (by omega)) bnd .nil pass0 gl g (pa_cons (t := tNil) (pe_less he) pa_nil st) nd st pl pins s σ H Q I ?_
  exact ⟨_, h, fun v H1 z => ⟨(by decide : 1 ≤ 1000), fun a ha => err_made ha z⟩⟩
theorem ps_err {k : Nat} {W : WX} {pos2 : Pos} (M : Err X.prog X.w X.K X.mg X.base x f) (calm : X.calm = true) (tk : Takes X W) (room : Room (k + 2) X.A) (gl : Gl X x) (he : PE X e te)
    (nd : (x == ("__debug__" : Str)) = false := by decide) (st : starEach [e] X.env = (false, eval e X.env) :: starEach [] X.env := by rfl) (pl : (backTo pos (starEach [] X.env)).any (·.1) = false := by rfl) :
    PS X (.Raise (some (.Call (.Name x p) [e] [] pos)) none pos2) (fun _ σ H => tErr (He.ga X.K x) f te σ H fun cls d H' => W cls d σ H') := ps_raise calm tk (pmk_err M room gl he nd st pl)
end

structure BaseAt (K : PySem.W.Frag) (mg : Str → Option Value) (x : Str) : Prop where
  g : mg x = some (.ref (He.ga K x))
  c : ErrC K (He.ga K x)
  b : BaseC K (He.ga K x)
theorem baseAt_ok {K : PySem.W.Frag} {h : Heap} {mg : Str → Option Value} {x : Str} (X : K.In h) (G : h.Ns mainGlobals mg) (b : baseAtB K x = true) : BaseAt K mg x := by
  simp only [baseAtB, Bool.and_eq_true] at b
  exact ⟨PySem.W.mg_of X G (He.eqO_ok b.1.1), errB_ok b.1.2, baseB_ok b.2⟩
/-! ### an error's __init__ in the text -/
structure ErrAt (K : PySem.W.Frag) (mg : Str → Option Value) (x f qn : Str) (st : Stmt) : Prop where
  g : mg x = some (.ref (He.ga K x))
  c : ErrC K (He.ga K x)
  i : PySem.W.findIn K (.ref (He.ga K x)) "__init__" = some (some (.ref (He.fAd K (x, some "__init__"))))
  t : PySem.W.typeIn K (.ref (He.fAd K (x, some "__init__"))) = some (.type "function")
  n : PySem.W.findIn K (.ref (He.ga K x)) f = some none
  F : ∃ fd, FunD K "__init__" qn (defArgs st) (defBody st) (defScope st) [] [] (He.fAd K (x, some "__init__")) fd
theorem errAt_ok {K : PySem.W.Frag} {h : Heap} {mg : Str → Option Value} {x f qn : Str} {st : Stmt} (X : K.In h) (G : h.Ns mainGlobals mg) (b : errAtB K x f = true)
    (F : ∃ fd, FunD K "__init__" qn (defArgs st) (defBody st) (defScope st) [] [] (He.fAd K (x, some "__init__")) fd) : ErrAt K mg x f qn st := by
  simp only [errAtB, Bool.and_eq_true, decide_eq_true_eq] at b
  obtain ⟨⟨⟨⟨a, b⟩, c⟩, d⟩, e⟩ := b
  exact ⟨PySem.W.mg_of X G (He.eqO_ok a), errB_ok b, c, d, e, F⟩
/-! ### calls whose errors are wished for at the caller's slots -/
section
variable {X : Cx} {CX : CXT} {k : Nat} {ps : List Str} {sp : Sp} {dvs : List V} {E : L2.St → XK} {x : Str} {p pos : Pos} {e : Expr} {es : List Expr} {t : TA}
theorem pe_fnS (C : Has X.prog X.w X.K X.mg X.base CX k x ps dvs sp) (px : ∀ σ, PassesAt CX X σ (E σ)) (g : Still X.A) (room : Room k X.A) (gl : Gl X x) (as : PA X (e :: es) t)
    (nd : (x == ("__debug__" : Str)) = false := by decide) (st : starEach (e :: es) X.env = (false, eval e X.env) :: starEach es X.env := by rfl) (pl : (backTo pos (starEach es X.env)).any (·.1) = false := by rfl) :
    PE X (.Call (.Name x p) (e :: es) [] pos) (tCallSD sp dvs E t) := by
  obtain ⟨f, fd, ds, F, isf, kp, bnd, dv⟩ := C
  refine ⟨fun pins s σ H Q I h => wpAny_Call_Name_kw (ld_glob I gl isf (PySem.W.callWith_K (h₀ := X.base) I.ok.mod.kin kp (thn (as.run pos pins s σ H _ I h) ?_) st pl) nd)⟩
  rintro us s1 ⟨vs, H1, J, rv, q⟩
  have all := rv.append dv
  have n : (us ++ ds).length = ps.length := all.length.symm.trans (F.many _ _ _ _ q)
  refine ⟨J.kIn, wpAny_call (codeAny_mono (F.does X.A X.stack s1 H1 ⟨us, []⟩ _ _ Q (E σ) g room J.env0 (bnd s1 us J.kIn n) all q) ?_)⟩
  intro r s' z
  match r, z with
  | .error e, z => exact px σ pins H1 s1 e s' J z
  | .ok (.ret u), z => exact J.after z
  | .ok .next, z => exact z.elim
  | .ok .brk, z => exact z.elim
  | .ok .cont, z => exact z.elim
end

theorem no_cx {P : Program} {w : World} {outer : List Env} {H : Hp} {s : Shared} {e : Value} {s' : Shared} (h : L2.CX P w outer H s (fun _ _ _ => False) e s') : False := by
  obtain ⟨_, _, _, _, _, _, _, _, _, _, _, _, z⟩ := h
  exact z
theorem Has.calm {P : Program} {w : World} {K : PySem.W.Frag} {mg : Str → Option Value} {base : Heap} {k : Nat} {x : Str} {ps : List Str} {dvs : List V} {sp sp' : Sp} (h : Has P w K mg base (L2.CX P w) k x ps dvs sp)
    (imp : ∀ vs H Q E, sp' vs H Q E → sp vs H Q (fun _ _ _ => False)) : Has P w K mg base CX0 k x ps dvs sp' := by
  obtain ⟨f, fd, ds, F, r⟩ := h
  refine ⟨f, fd, ds, ⟨fun vs H Q E q => F.many _ _ _ _ (imp _ _ _ _ q), fun A o s H as us vs Q E g ro e b v q => codeAny_mono (F.does A o s H as us vs Q _ g ro e b v (imp _ _ _ _ q)) ?_⟩, r⟩
  intro r s' z
  match r, z with
  | .error _, z => exact no_cx z
  | .ok (.ret _), z => exact z
  | .ok .next, z => exact z
  | .ok .brk, z => exact z
  | .ok .cont, z => exact z
/-! ### isinstance of a caught error -/
/-! ### data stays data -/
section
variable {K : PySem.W.Frag} {H H' : Hp}
theorem seqT_same {a : Addr} {xs : List V} (e : Same H H') (h : SqT K H a xs) : SqT K H' a xs := by
  rcases h with (h | ⟨o, h⟩) | h
  · exact .inl (.inl (e _ _ h))
  · exact .inl (.inr ⟨o, e _ _ h⟩)
  · exact .inr h
mutual
theorem Dp.same (e : Same H H') : ∀ (d : PyData) (v : V), Dp K H v d → Dp K H' v d
  | _, _, .non => .non
  | _, _, .bl b => .bl b
  | _, _, .int i => .int i
  | _, _, .str x => .str x
  | .list ds, _, .lst h hs => .lst (e.seq h) (DpAll.same e ds _ hs)
  | .tuple ds, _, .tup h hs => .tup (seqT_same e h) (DpAll.same e ds _ hs)
theorem DpAll.same (e : Same H H') : ∀ (ds : List PyData) (vs : List V), DpAll K H vs ds → DpAll K H' vs ds
  | [], _, .nil => .nil
  | d :: ds, _, .cons h hs => .cons (Dp.same e d _ h) (DpAll.same e ds _ hs)
end
theorem Shows.same {x : V} {d : PyData} (s : Shows K H x d) (e : Same H H') : Shows K H' x d := ⟨Dp.same e d x s.dp, s.ok, s.nd, s.deep, s.size⟩
end
/-! ### defs with defaults -/
section
variable {P : Program} {w : World} {K : PySem.W.Frag} {mg : Str → Option Value} {base : Heap} {k : Nat} {x : Str} {st : Stmt} {ps N : List Str} {sp : Sp} {dvs dv : List V}
theorem hasXB (D : DefAt K mg x st dvs) (S : FnScope N ps (defScope st))
    (bnd : ∀ fd, FunD K x x (defArgs st) (defBody st) (defScope st) dvs [] (He.ga K x) fd → ∃ ds, Vals dv ds ∧ Binds K fd ps ds)
    (many : ∀ vs H Q E, sp vs H Q E → vs.length = ps.length)
    (does : ∀ (cv : Value) (A : Around) (outer : List Env) (s : Shared) (H : Hp) (vs : List V) (Q : VK) (E : XK), Still A → Room k (A.deeper (envOfC x (defScope st) s.heap.objs.size (He.ga K x) cv)) → sp vs H Q E →
      ∃ t, PSs (cxOf (L2.CX P w) P w K mg base N x (defScope st) (He.ga K x) cv A outer s H E) (defBody st) t ∧ t { nx := fun _ H' => Q .non H', rt := Q } (start N vs) H) :
    Has P w K mg base (L2.CX P w) (k + 1) x ps dv sp := by
  obtain ⟨fd, F⟩ := D.F
  obtain ⟨ds, v, b⟩ := bnd fd F
  exact ⟨_, fd, ds, okXG F S many does, D.g, F.kp, b, v⟩
end
/-! ### a reading of one's own -/
section
variable {X : Cx} {e : Expr} {st : Stmt}
theorem pt_imp {t t' : TT} (h : PT X e t) (imp : ∀ σ H Q, t' σ H Q → t σ H Q) : PT X e t' := ⟨fun pins s σ H Q I z => h.run pins s σ H Q I (imp _ _ _ z)⟩
theorem pe_imp {t t' : TE} (h : PE X e t) (imp : ∀ σ H Q, t' σ H Q → t σ H Q) : PE X e t' := ⟨fun pins s σ H Q I z => h.run pins s σ H Q I (imp _ _ _ z)⟩
theorem ps_imp {t t' : TS} (h : PS X st t) (imp : ∀ D σ H, t' D σ H → t D σ H) : PS X st t' := ⟨fun pins s σ H D I z => h.run pins s σ H D I (imp _ _ _ z)⟩
end
/-! ### the order of data; lists of ints compared -/
def rLtD (K : PySem.W.Frag) : R2 := fun x y H Q => ∃ d e, Dp K H x d ∧ Dp K H y e ∧ PySem.W.alike d e = true ∧ d ≠ .none ∧ d.depth ≤ 60 ∧ Q (.bl (PySem.W.dataLt d e)) H
theorem op_ltD {X : Cx} (room : X.A.units + 64 < cLine) : OpR X (compareOp .Lt) (rLtD X.K) := by
  intro pins s σ H x y v u Q I rx ry h
  obtain ⟨d, e, hd, he, al, nn, dp, q⟩ := h
  obtain ⟨as, r1⟩ := Dp.reads I d x v hd rx
  obtain ⟨bs, r2⟩ := Dp.reads I e y u he ry
  have le : min d.depth e.depth ≤ d.depth := Nat.min_le_left _ _
  exact PySem.W.lt_data r1 r2 al nn (by omega) ⟨.bl _, H, I, rfl, q⟩
theorem alike_ints : ∀ ns ms : List Int, PySem.W.alikeAll (ns.map PyData.int) (ms.map PyData.int) = true
  | [], _ => by
    show PySem.W.alikeAll [] _ = true
    rw [PySem.W.alikeAll]
  | _ :: _, [] => by
    show PySem.W.alikeAll (_ :: _) [] = true
    rw [PySem.W.alikeAll]
  | n :: ns, m :: ms => by
    show PySem.W.alikeAll (.int n :: ns.map .int) (.int m :: ms.map .int) = true
    rw [PySem.W.alikeAll, alike_ints ns ms, PySem.W.alike]
    rfl
/-! ### rules that name the written part, whatever stands around -/
section
variable {X : Cx} {K : PySem.W.Frag}
end
/-! ### lists of ints cut and compared -/
end Sb

/-! Sb, part T: a try with several clauses «except C as e». -/
namespace Sb
open PySem PySem.Spec PyProof.Rows L2
structure Cl where
  c : Value
  i : Nat
  ts : Addr → Value → Option Addr → TS
def Ends.less (D : Ends) (i : Nat) : Ends := ⟨fun σ H => D.nx (σ.set i none) H, D.rt, fun σ H => D.bk (σ.set i none) H, fun σ H => D.ct (σ.set i none) H⟩
section
variable {X : Cx} {pins : List (Addr × Obj)} {σ : L2.St} {H : Hp} {a : Addr} {B : Heap} {sI s' : Shared} {cls : Value} {d : Option Addr} {D : Ends} {Wout : WX} {h3 : Heap}
end
section
variable {X : Cx} {body : List Stmt} {h0 : ExceptHandler} {hds : List ExceptHandler} {l : List Cl} {pos : Pos} {tb : WX → TS} {Wout : WX}
end
end Sb

/-! Sb, part X: the package's errors as values: made, their fields read, asked by isinstance. -/
namespace Sb
open PySem PySem.Spec PyProof.Rows L2
def Made (H : Hp) (a C : Addr) (f : Str) (v : V) : Prop := ∃ d, H a = some (exo a C (some d)) ∧ H d = some (exd d [(f, v)])
theorem Made.same {H H' : Hp} {a C : Addr} {f : Str} {v : V} (h : Made H a C f v) (s : Same H H') : Made H' a C f v := by
  obtain ⟨d, h1, h2⟩ := h
  exact ⟨d, s _ _ h1, s _ _ h2⟩
section
variable {X : Cx} {e : Expr} {te : TE} {p pos : Pos} {x f : Str}
end

/-! ### its fields, its classes -/
/-! ### all errors of the package -/
end Sb

/-! Sb, part N: the head's facts over a small part of the heap, followed from some names alone. -/
namespace Sb
open PySem PySem.Spec PyProof.Rows L2

def growN (g : Addr → Option Obj) : Nat → List Addr → List Addr
  | 0, as => as
  | n + 1, as => growN g n (He.growD g as)
def named (xs : List Str) (n : Nat) (g : Addr → Option Obj) : List Addr :=
  mainGlobals :: growN g n (cStatics :: xs.map (He.ga (He.frG g [mainGlobals])))
end Sb

set_option maxHeartbeats 4000000
/-! Sb, part D0: dicts whose keys are numbers, truth values, None, texts and tuples of such, mixed: the model's own steps. -/
namespace Sb
open PySem PySem.Spec PyProof.Rows L2

abbrev Rw := NestedKey × Value × Value
def entN (w : World) (x : Rw) : DictEntry := ⟨x.1.hash w, x.2.1, x.2.2⟩
structure Keyed (w : World) (h : Heap) (es : Array DictEntry) (xs : List Rw) : Prop where
  ents : es.toList = xs.map (entN w)
  keys : ∀ x ∈ xs, NestedIs h x.1 x.2.1
  low : ∀ x ∈ xs, x.1.depth ≤ 8
  nd : (xs.map (·.1)).Nodup
section
variable {w : World} {h : Heap} {es : Array DictEntry} {xs : List Rw}
theorem Keyed.get (k : Keyed w h es xs) (j : Nat) : es[j]? = (xs[j]?).map (entN w) := by
  rw [← Array.getElem?_toList, k.ents, List.getElem?_map]
theorem Keyed.size (k : Keyed w h es xs) : es.size = xs.length := by
  rw [← Array.length_toList, k.ents, List.length_map]
theorem Keyed.mem (k : Keyed w h es xs) {e : DictEntry} (m : e ∈ es) : ∃ x ∈ xs, e = entN w x := by
  have : e ∈ xs.map (entN w) := k.ents ▸ Array.mem_toList_iff.mpr m
  obtain ⟨x, hx, z⟩ := List.mem_map.mp this
  exact ⟨x, hx, z.symm⟩
theorem Keyed.one (k : Keyed w h es xs) {i j : Nat} {x y : Rw} (a : xs[i]? = some x) (b : xs[j]? = some y) (e : x.1 = y.1) : i = j := by
  have a' : (xs.map (·.1))[i]? = some x.1 := by rw [List.getElem?_map, a]; rfl
  have b' : (xs.map (·.1))[j]? = some x.1 := by rw [List.getElem?_map, b, e]; rfl
  exact (List.getElem?_inj (List.getElem?_eq_some_iff.mp a').1 k.nd).mp (a'.trans b'.symm)
end
abbrev spots (es : Array DictEntry) (n : Int) : List Nat := placesWithHash es.size (fun i => es[i]?.map (·.hash)) n
theorem spots_of {w : World} {h : Heap} {es : Array DictEntry} {xs : List Rw} {k : NestedKey} (kd : Keyed w h es xs) {j : Nat} {x : Rw} (a : xs[j]? = some x) (e : x.1 = k) : j ∈ spots es (k.hash w) := by
  refine List.mem_filter.mpr ⟨List.mem_range.mpr ?_, ?_⟩
  · rw [kd.size]
    exact (List.getElem?_eq_some_iff.mp a).1
  · show (Option.map (fun x => x.hash) es[j]? == some (NestedKey.hash w k)) = true
    rw [kd.get, a, ← e]
    simp [entN]
section
variable {prog : Program} {w : World} {A : Around} {E : Value → Shared → Prop} {s : Shared}
theorem quiet_all {key : Value} {stored : List Value} {k : NestedKey} {Q : Bool → Shared → Prop} (hk : NestedIs s.heap k key) (h8 : k.depth ≤ 8)
    (hst : ∀ v ∈ stored, ∃ k', NestedIs s.heap k' v ∧ k'.depth ≤ 8) (q : Q false s) : wpAny (model prog w) A (tableMayTell key stored) Q E s := by
  unfold tableMayTell
  split
  · exact wpAny_pure q
  · refine wpAny_bind (quiet_key k key 8 s hk h8 A E _ ?_)
    simp only [Bool.not_true, Bool.false_eq_true, if_false]
    refine wpAny_bind (wpAny_forIn_list _ (fun rest r s' => s' = s ∧ r = (none, ()) ∧ ∀ v ∈ rest, ∃ k', NestedIs s.heap k' v ∧ k'.depth ≤ 8) _ ?_ ?_ _ _ ⟨rfl, rfl, hst⟩)
    · rintro v rest r s' ⟨rfl, rfl, all⟩
      obtain ⟨k', n, d⟩ := all v List.mem_cons_self
      refine wpAny_bind (quiet_key k' v 8 s' n d A E _ ?_)
      simp only [Bool.not_true, Bool.false_eq_true, if_false]
      exact wpAny_pure ⟨rfl, rfl, fun u m => all u (List.mem_cons_of_mem _ m)⟩
    · rintro r s' ⟨rfl, rfl, _⟩
      exact wpAny_pure q
theorem wp_ite {α : Type} {c : Prop} [Decidable c] {x y : Sem α} {Q : α → Shared → Prop} (h1 : c → wpAny (model prog w) A x Q E s) (h2 : ¬ c → wpAny (model prog w) A y Q E s) : wpAny (model prog w) A (if c then x else y) Q E s := by
  split
  · exact h1 (by assumption)
  · exact h2 (by assumption)
theorem wp_iteB {α β : Type} {c : Prop} [Decidable c] {x y : Sem α} {k : α → Sem β} {Q : β → Shared → Prop} (h1 : c → wpAny (model prog w) A (x >>= k) Q E s) (h2 : ¬ c → wpAny (model prog w) A (y >>= k) Q E s) : wpAny (model prog w) A ((if c then x else y) >>= k) Q E s := by
  split
  · exact h1 (by assumption)
  · exact h2 (by assumption)
theorem eq_nk {x y : NestedKey} {a b : Value} {Q : Bool → Shared → Prop} (hu : A.units + 8 < cLine) (ra : NestedIs s.heap x a) (rb : NestedIs s.heap y b) (dx : x.depth ≤ 8) (q : Q (decide (x = y)) s) :
    wpAny (model prog w) A (eqBool a b) Q E s :=
  eqAt_key x y A s a b ra rb (by omega) _ _ _ _ (by rw [← NestedKey.decide_eq]; exact q)
theorem find_nk {d : Addr} {key : Value} {o : Obj} {es : Array DictEntry} {ep : Nat} {xs : List Rw} {k : NestedKey} {Q : Option Nat → Shared → Prop} (hu : A.units + 8 < cLine)
    (hk : NestedIs s.heap k key) (h8 : k.depth ≤ 8) (ho : s.heap.get? d = some o) (hd : o.data = .dict es ep) (kd : Keyed w s.heap es xs)
    (hno : (∀ x ∈ xs, x.1 ≠ k) → Q none s) (hso : ∀ (j : Nat) (x : Rw), xs[j]? = some x → x.1 = k → Q (some j) s) : wpAny (model prog w) A (dictFind d key (k.hash w)) Q E s := by
  have hst : ∀ v ∈ (spots es (k.hash w)).filterMap (fun i => es[i]?.map (·.key)), ∃ k', NestedIs s.heap k' v ∧ k'.depth ≤ 8 := by
    intro v hv
    obtain ⟨i, _, hi⟩ := List.mem_filterMap.mp hv
    cases hx : xs[i]? with
    | none => rw [kd.get, hx] at hi; cases hi
    | some x =>
      rw [kd.get, hx] at hi
      cases hi
      have m := List.mem_of_getElem? hx
      exact ⟨x.1, kd.keys x m, kd.low x m⟩
  have none_of : ∀ pre : List Nat, pre = spots es (k.hash w) → (∀ i ∈ pre, ∀ x, xs[i]? = some x → x.1 ≠ k) → Q none s := by
    rintro _ rfl hp
    refine hno fun x m e => ?_
    obtain ⟨j, hj⟩ := List.mem_iff_getElem?.mp m
    exact hp j (spots_of kd hj e) x hj e
  have row_of : ∀ (i : Nat) (rest pre : List Nat), pre ++ i :: rest = spots es (k.hash w) → ∃ x, xs[i]? = some x ∧ es[i]? = some (entN w x) ∧ ((entN w x).hash == k.hash w) = true := by
    intro i rest pre e
    have m : i ∈ spots es (k.hash w) := by rw [← e]; simp
    obtain ⟨m1, m2⟩ := List.mem_filter.mp m
    dsimp only at m2
    cases hx : xs[i]? with
    | none => rw [kd.get, hx] at m2; simp at m2
    | some x =>
      refine ⟨x, rfl, by rw [kd.get, hx]; rfl, ?_⟩
      rw [kd.get, hx] at m2
      simpa [entN] using m2
  -- the walk where all keys are carried by value
  have plain : wpAny (model prog w) A (dictWalkPlain d key (k.hash w) es (spots es (k.hash w))) Q E s := by
    unfold dictWalkPlain
    refine wpAny_bind (wpAny_forIn_list _ (fun rest b s' => s' = s ∧ b = (none, ()) ∧ ∃ pre, pre ++ rest = spots es (k.hash w) ∧ ∀ i ∈ pre, ∀ x, xs[i]? = some x → x.1 ≠ k) _ ?_ ?_ _ _
      ⟨rfl, rfl, [], rfl, fun _ z => nomatch z⟩)
    · rintro i rest b s' ⟨rfl, rfl, pre, hpre, hp⟩
      obtain ⟨x, hx, hex, hh⟩ := row_of i rest pre hpre
      have m := List.mem_of_getElem? hx
      rw [hex]
      dsimp only
      rw [if_pos hh]
      refine wpAny_bind (wpAny_dictEpoch ho hd (wpAny_bind (eq_nk hu (kd.keys x m) hk (kd.low x m) (wpAny_bind (wpAny_dictEpoch ho hd ?_)))))
      rw [if_neg (show ¬ (ep != ep) = true by simp)]
      by_cases e : x.1 = k
      · rw [decide_eq_true e]
        exact wpAny_bind (wpAny_rule (wpAny_pure (wpAny_pure (hso i x hx e))))
      · rw [decide_eq_false e]
        refine wpAny_bind (wpAny_rule (wpAny_pure ⟨rfl, rfl, pre ++ [i], by simpa using hpre, fun j mj y hy => ?_⟩))
        rcases List.mem_append.mp mj with mj | mj
        · exact hp j mj y hy
        · cases List.mem_singleton.mp mj
          rw [hx] at hy
          cases hy
          exact e
    · rintro b s' ⟨rfl, rfl, pre, hpre, hp⟩
      exact wpAny_pure (none_of pre (by simpa using hpre) hp)
  have hany : ∀ a : Addr, key = .ref a → ¬ (es.any fun e => e.key == key && e.hash != k.hash w) = true := by
    intro a _
    rw [← Array.any_toList, List.any_eq_true]
    rintro ⟨e, m, c⟩
    obtain ⟨x, mx, rfl⟩ := kd.mem (Array.mem_toList_iff.mp m)
    simp only [entN, Bool.and_eq_true, beq_iff_eq, bne_iff_ne, ne_eq] at c
    have := kd.keys x mx
    rw [c.1] at this
    exact c.2 (by rw [NestedIs.inj _ _ _ this hk])
  have byStr : ∀ (y : Str) (t : Tok), key = .str y t → (es.all fun e => isExactStrKey e.key) = true → wpAny (model prog w) A (foundByValue d key es y) Q E s := by
    intro y t e hall
    subst e
    have ek : k = .text y := by cases hk; rfl
    have isk : ∀ (j : Nat) (x : Rw), xs[j]? = some x → (x.2.1.isStr y = true ↔ x.1 = k) := by
      intro j x hx
      have m := List.mem_of_getElem? hx
      have hs : isExactStrKey x.2.1 = true := by
        have me : entN w x ∈ es := Array.mem_of_getElem? (i := j) (by rw [kd.get, hx]; rfl)
        exact Array.all_eq_true_iff_forall_mem.mp hall _ me
      have n := kd.keys x m
      obtain ⟨nk, kv, vv⟩ := x
      dsimp only at hs n ⊢
      cases n with
      | text z u =>
        subst ek
        show (z == y) = true ↔ NestedKey.text z = NestedKey.text y
        rw [beq_iff_eq, NestedKey.text.injEq]
      | _ => cases hs
    unfold foundByValue
    cases hf : es.findIdx? (·.key.isStr y) with
    | none =>
      refine wpAny_pure (hno fun x m e => ?_)
      obtain ⟨j, hj⟩ := List.mem_iff_getElem?.mp m
      have me : entN w x ∈ es := Array.mem_of_getElem? (i := j) (by rw [kd.get, hj]; rfl)
      have := Array.findIdx?_eq_none_iff.mp hf _ me
      rw [show (entN w x).key.isStr y = true from (isk j x hj).mpr e] at this
      cases this
    | some i =>
      obtain ⟨lt, hi, _⟩ := Array.findIdx?_eq_some_iff_getElem.mp hf
      have hx : ∃ x, xs[i]? = some x := ⟨_, List.getElem?_eq_getElem (by rw [← kd.size]; exact lt)⟩
      obtain ⟨x, hx⟩ := hx
      have hex : es[i]? = some (entN w x) := by rw [kd.get, hx]; rfl
      have ei : es[i] = entN w x := by
        rw [Array.getElem?_eq_getElem lt] at hex
        exact Option.some.inj hex
      rw [ei] at hi
      have m := List.mem_of_getElem? hx
      have e := (isk i x hx).mp hi
      simp only [hex]
      refine wpAny_bind (wpAny_dictEpoch ho hd (wpAny_bind (eq_nk hu (kd.keys x m) hk (kd.low x m) (wpAny_bind (wpAny_dictEpoch ho hd ?_)))))
      rw [if_neg (show ¬ (ep != ep) = true by simp), decide_eq_true e]
      exact wpAny_bind (wpAny_rule (wpAny_pure (hso i x hx e)))
  unfold dictFind
  try with_reducible refine wpAny_holding ?_
  refine wpAny_bind (wpAny_dictEntries ho hd ?_)
  dsimp only
  have hk' := hk
  have hdone : ∀ (pre : List Nat), pre = spots es (k.hash w) → ∀ hit : Option Nat, ((hit = none ∧ ∀ i ∈ pre, ∀ x, xs[i]? = some x → x.1 ≠ k) ∨ ∃ j x, hit = some j ∧ xs[j]? = some x ∧ x.1 = k) → Q hit s := by
    rintro pre hp hit (⟨rfl, h0⟩ | ⟨j, x, rfl, hx, e⟩)
    · exact none_of pre hp h0
    · exact hso j x hx e
  have form : key = .none ∨ (∃ b, key = .bool b) ∨ (∃ i t, key = .int i t) ∨ (∃ a, key = .ref a) ∨ ∃ y t, key = .str y t := by cases hk <;> simp
  rcases form with rfl | ⟨b, rfl⟩ | ⟨i, t, rfl⟩ | ⟨a, rfl⟩ | ⟨y, t, rfl⟩
  case inr.inr.inr.inr =>
    dsimp only
    refine wp_ite (fun hall => ?_) (fun _ => ?_)
    · first | exact byStr y t rfl hall | exact wpAny_bind (byStr y t rfl hall)
    exact (by
      refine wp_ite (fun _ => ?_) (fun _ => ?_)
      · first | exact plain | exact wpAny_bind plain
      · try rw [if_neg (hany _ rfl)]
        first | refine wp_iteB (fun _ => ?_) (fun _ => ?_) | refine wp_ite (fun _ => ?_) (fun _ => ?_)
        all_goals first | refine wpAny_bind (wpAny_pure ?_) | refine wpAny_bind (quiet_all hk' h8 hst ?_)
        all_goals
          rw [if_neg (by simp)]
          refine wpAny_bind (wpAny_forIn_list _ (fun rest b s' => s' = s ∧ ∃ pre, ∃ hit : Option Nat, b = (none, hit) ∧ pre ++ rest = spots es (k.hash w) ∧
            ((hit = none ∧ ∀ i ∈ pre, ∀ x, xs[i]? = some x → x.1 ≠ k) ∨ ∃ j x, hit = some j ∧ j ∈ pre ∧ xs[j]? = some x ∧ x.1 = k)) _ ?_ ?_ _ _ ⟨rfl, [], none, rfl, rfl, .inl ⟨rfl, fun _ z => nomatch z⟩⟩)
          · rintro i rest b s' ⟨rfl, pre, hit, rfl, hpre, hH⟩
            obtain ⟨x, hx, hex, hh⟩ := row_of i rest pre hpre
            have m := List.mem_of_getElem? hx
            rw [hex]
            dsimp only
            rw [if_pos hh]
            refine wpAny_bind (wpAny_dictEpoch ho hd (wpAny_bind (eq_nk hu (kd.keys x m) hk' (kd.low x m) (wpAny_bind (wpAny_dictEpoch ho hd ?_)))))
            rw [if_neg (show ¬ (ep != ep) = true by simp)]
            by_cases e : x.1 = k
            · rw [decide_eq_true e]
              rcases hH with ⟨rfl, h0⟩ | ⟨j, y, rfl, mj, hy, ey⟩
              · rw [if_pos rfl]
                rw [if_neg (by simp)]
                refine wpAny_bind (wpAny_rule ?_)
                refine wp_ite (fun _ => ?_) (fun _ => ?_)
                · exact wpAny_pure (wpAny_pure (hso i x hx e))
                · exact wpAny_pure ⟨rfl, pre ++ [i], some i, rfl, by simpa using hpre, .inr ⟨i, x, rfl, by simp, hx, e⟩⟩
              · have same := kd.one hy hx (ey.trans e.symm)
                subst same
                have nd : (spots es (k.hash w)).Nodup := List.Pairwise.filter _ List.nodup_range
                rw [← hpre] at nd
                exact absurd rfl ((List.nodup_append.mp nd).2.2 j mj j List.mem_cons_self)
            · rw [decide_eq_false e]
              rw [if_neg (by simp)]
              refine wpAny_bind (wpAny_rule ?_)
              rw [if_neg (by simp)]
              refine wpAny_pure ⟨rfl, pre ++ [i], hit, rfl, by simpa using hpre, ?_⟩
              rcases hH with ⟨rfl, h0⟩ | ⟨j, y, rfl, mj, hy, ey⟩
              · refine .inl ⟨rfl, fun j mj y hy => ?_⟩
                rcases List.mem_append.mp mj with mj | mj
                · exact h0 j mj y hy
                · cases List.mem_singleton.mp mj
                  rw [hx] at hy
                  cases hy
                  exact e
              · exact .inr ⟨j, y, rfl, List.mem_append_left _ mj, hy, ey⟩
          · rintro b s' ⟨rfl, pre, hit, rfl, hpre, hH⟩
            refine wpAny_pure (hdone pre (by simpa using hpre) hit ?_)
            rcases hH with z | ⟨j, x, a, _, b, c⟩
            · exact .inl z
            · exact .inr ⟨j, x, a, b, c⟩)
  all_goals dsimp only
  all_goals exact (by
      refine wp_ite (fun _ => ?_) (fun _ => ?_)
      · first | exact plain | exact wpAny_bind plain
      · try rw [if_neg (hany _ rfl)]
        first | refine wp_iteB (fun _ => ?_) (fun _ => ?_) | refine wp_ite (fun _ => ?_) (fun _ => ?_)
        all_goals first | refine wpAny_bind (wpAny_pure ?_) | refine wpAny_bind (quiet_all hk' h8 hst ?_)
        all_goals
          rw [if_neg (by simp)]
          refine wpAny_bind (wpAny_forIn_list _ (fun rest b s' => s' = s ∧ ∃ pre, ∃ hit : Option Nat, b = (none, hit) ∧ pre ++ rest = spots es (k.hash w) ∧
            ((hit = none ∧ ∀ i ∈ pre, ∀ x, xs[i]? = some x → x.1 ≠ k) ∨ ∃ j x, hit = some j ∧ j ∈ pre ∧ xs[j]? = some x ∧ x.1 = k)) _ ?_ ?_ _ _ ⟨rfl, [], none, rfl, rfl, .inl ⟨rfl, fun _ z => nomatch z⟩⟩)
          · rintro i rest b s' ⟨rfl, pre, hit, rfl, hpre, hH⟩
            obtain ⟨x, hx, hex, hh⟩ := row_of i rest pre hpre
            have m := List.mem_of_getElem? hx
            rw [hex]
            dsimp only
            rw [if_pos hh]
            refine wpAny_bind (wpAny_dictEpoch ho hd (wpAny_bind (eq_nk hu (kd.keys x m) hk' (kd.low x m) (wpAny_bind (wpAny_dictEpoch ho hd ?_)))))
            rw [if_neg (show ¬ (ep != ep) = true by simp)]
            by_cases e : x.1 = k
            · rw [decide_eq_true e]
              rcases hH with ⟨rfl, h0⟩ | ⟨j, y, rfl, mj, hy, ey⟩
              · rw [if_pos rfl]
                rw [if_neg (by simp)]
                refine wpAny_bind (wpAny_rule ?_)
                refine wp_ite (fun _ => ?_) (fun _ => ?_)
                · exact wpAny_pure (wpAny_pure (hso i x hx e))
                · exact wpAny_pure ⟨rfl, pre ++ [i], some i, rfl, by simpa using hpre, .inr ⟨i, x, rfl, by simp, hx, e⟩⟩
              · have same := kd.one hy hx (ey.trans e.symm)
                subst same
                have nd : (spots es (k.hash w)).Nodup := List.Pairwise.filter _ List.nodup_range
                rw [← hpre] at nd
                exact absurd rfl ((List.nodup_append.mp nd).2.2 j mj j List.mem_cons_self)
            · rw [decide_eq_false e]
              rw [if_neg (by simp)]
              refine wpAny_bind (wpAny_rule ?_)
              rw [if_neg (by simp)]
              refine wpAny_pure ⟨rfl, pre ++ [i], hit, rfl, by simpa using hpre, ?_⟩
              rcases hH with ⟨rfl, h0⟩ | ⟨j, y, rfl, mj, hy, ey⟩
              · refine .inl ⟨rfl, fun j mj y hy => ?_⟩
                rcases List.mem_append.mp mj with mj | mj
                · exact h0 j mj y hy
                · cases List.mem_singleton.mp mj
                  rw [hx] at hy
                  cases hy
                  exact e
              · exact .inr ⟨j, y, rfl, List.mem_append_left _ mj, hy, ey⟩
          · rintro b s' ⟨rfl, pre, hit, rfl, hpre, hH⟩
            refine wpAny_pure (hdone pre (by simpa using hpre) hit ?_)
            rcases hH with z | ⟨j, x, a, _, b, c⟩
            · exact .inl z
            · exact .inr ⟨j, x, a, b, c⟩)
end

/-! ### a dict in the heap -/
def DictN (w : World) (h : Heap) (d : Addr) (xs : List Rw) : Prop := ∃ o es ep, h.get? d = some o ∧ o.ExactDict ∧ o.data = .dict es ep ∧ Keyed w h es xs
def atN (xs : List Rw) (k : NestedKey) : Option Value := (xs.find? fun x => decide (x.1 = k)).map (·.2.2)
def chgN (k : NestedKey) (v : Value) (x : Rw) : Rw := if x.1 = k then (x.1, x.2.1, v) else x
def putN (xs : List Rw) (k : NestedKey) (key v : Value) : List Rw := if (xs.any fun x => decide (x.1 = k)) = true then xs.map (chgN k v) else xs ++ [(k, key, v)]
theorem atN_none {xs : List Rw} {k : NestedKey} (h : ∀ x ∈ xs, x.1 ≠ k) : atN xs k = none := by
  unfold atN
  rw [List.find?_eq_none.mpr fun x m => by simpa using h x m]
  rfl
theorem atN_some : ∀ {xs : List Rw} {j : Nat} {x : Rw}, (xs.map (·.1)).Nodup → xs[j]? = some x → atN xs x.1 = some x.2.2
  | [], _, _, _, h => by simp at h
  | y :: ys, 0, x, _, h => by
    cases h
    simp [atN]
  | y :: ys, j + 1, x, nd, h => by
    have h : ys[j]? = some x := by simpa using h
    obtain ⟨n1, n2⟩ := List.nodup_cons.mp (show (y.1 :: ys.map (·.1)).Nodup from nd)
    have ne : ¬ y.1 = x.1 := fun e => n1 (e ▸ List.mem_map.mpr ⟨x, List.mem_of_getElem? h, rfl⟩)
    have := atN_some n2 h
    unfold atN at this ⊢
    rw [List.find?_cons, decide_eq_false ne]
    exact this
theorem chgN_key (k : NestedKey) (v : Value) (x : Rw) : (chgN k v x).1 = x.1 ∧ (chgN k v x).2.1 = x.2.1 := by
  unfold chgN
  split <;> exact ⟨rfl, rfl⟩
theorem chgN_keys (k : NestedKey) (v : Value) (xs : List Rw) : (xs.map (chgN k v)).map (·.1) = xs.map (·.1) := by
  rw [List.map_map]
  exact List.map_congr_left fun x _ => (chgN_key k v x).1
theorem chgN_at (w : World) (k : NestedKey) (v : Value) : ∀ {xs : List Rw} {j : Nat} {x : Rw}, (xs.map (·.1)).Nodup → xs[j]? = some x → x.1 = k →
    (xs.map (entN w)).modify j (fun e => { e with val := v }) = (xs.map (chgN k v)).map (entN w)
  | [], _, _, _, h, _ => by simp at h
  | y :: ys, 0, x, nd, h, e => by
    cases h
    obtain ⟨n1, _⟩ := List.nodup_cons.mp (show (y.1 :: ys.map (·.1)).Nodup from nd)
    have rest : ys.map (chgN k v) = ys := by
      refine (List.map_congr_left fun z m => ?_).trans (List.map_id _)
      unfold chgN
      rw [if_neg fun q => n1 (by rw [e, ← q]; exact List.mem_map.mpr ⟨z, m, rfl⟩)]
      rfl
    rw [List.map_cons, List.map_cons, rest, List.map_cons, chgN, if_pos e]
    rfl
  | y :: ys, j + 1, x, nd, h, e => by
    have h : ys[j]? = some x := by simpa using h
    obtain ⟨n1, n2⟩ := List.nodup_cons.mp (show (y.1 :: ys.map (·.1)).Nodup from nd)
    have ne : ¬ y.1 = k := fun q => n1 (by rw [q, ← e]; exact List.mem_map.mpr ⟨x, List.mem_of_getElem? h, rfl⟩)
    rw [List.map_cons, List.map_cons, List.map_cons, chgN, if_neg ne]
    show entN w y :: (ys.map (entN w)).modify j _ = _
    rw [chgN_at w k v n2 h e]
theorem key_stays {h h' : Heap} {d : Addr} {o : Obj} {es : Array DictEntry} {ep : Nat} {k : NestedKey} {v : Value} (ho : h.get? d = some o) (hd : o.data = .dict es ep) (hs : Heap.SameBut d h h') (n : NestedIs h k v) : NestedIs h' k v :=
  NestedIs.at (fun b ob vs m hb hc => by
    refine (hs.2 b ?_).trans hb
    rintro rfl
    rw [ho] at hb
    cases hb
    rw [hd] at hc
    cases hc) k v n
section
variable {prog : Program} {w : World} {A : Around} {E : Value → Shared → Prop} {s : Shared} {d : Addr} {key v : Value} {xs : List Rw} {k : NestedKey}
theorem DictN.typeIs (hm : DictN w s.heap d xs) : s.TypeIs (.ref d) "dict" := let ⟨o, _, _, ho, hc, _⟩ := hm; ⟨o, ho, hc.1⟩
theorem hash_nk {Q : Int → Shared → Prop} (hu : A.units + 8 < cLine) (hk : NestedIs s.heap k key) (h8 : k.depth ≤ 8) (q : Q (k.hash w) { s with toks := s.toks + k.draws }) : wpAny (model prog w) A (pyHash key) Q E s :=
  pyHash_key k key A s Q hk (by omega) q
theorem get_nk {Q : Option Value → Shared → Prop} (hu : A.units + 8 < cLine) (hk : NestedIs s.heap k key) (h8 : k.depth ≤ 8) (hm : DictN w s.heap d xs) (q : Q (atN xs k) { s with toks := s.toks + k.draws }) :
    wpAny (model prog w) A (dictGet d key) Q E s := by
  obtain ⟨o, es, ep, ho, _, hd, kd⟩ := hm
  unfold dictGet
  try with_reducible refine wpAny_holding ?_
  refine wpAny_bind (hash_nk hu hk h8 (wpAny_bind (find_nk (s := { s with toks := s.toks + k.draws }) hu hk h8 ho hd kd (fun hno => ?_) (fun j x hx e => ?_))))
  · rw [atN_none hno] at q
    exact wpAny_pure q
  · subst e
    rw [atN_some kd.nd hx] at q
    refine wpAny_bind (wpAny_dictEntries (s := { s with toks := s.toks + x.1.draws }) ho hd ?_)
    rw [kd.get, hx]
    exact wpAny_pure q
theorem set_nk {Q : Unit → Shared → Prop} (hu : A.units + 8 < cLine) (hk : NestedIs s.heap k key) (h8 : k.depth ≤ 8) (hm : DictN w s.heap d xs) (few : xs.length ≤ sizeLine)
    (q : ∀ h', DictN w h' d (putN xs k key v) → Heap.SameBut d s.heap h' → Q () { s with heap := h', toks := s.toks + k.draws }) : wpAny (model prog w) A (dictSet d key v) Q E s := by
  obtain ⟨o, es, ep, ho, hc, hd, kd⟩ := hm
  unfold dictSet
  try with_reducible refine wpAny_holding ?_
  refine wpAny_bind (hash_nk hu hk h8 ?_)
  unfold dictSetHashed
  try with_reducible refine wpAny_holding ?_
  refine wpAny_bind (find_nk (s := { s with toks := s.toks + k.draws }) hu hk h8 ho hd kd (fun hno => ?_) (fun j x hx e => ?_))
  · have no : ¬ (xs.any fun x => decide (x.1 = k)) = true := by
      rw [List.any_eq_true]
      rintro ⟨x, m, e⟩
      exact hno x m (of_decide_eq_true e)
    refine wpAny_bind (wpAny_rule (wpAny_updateDictKeys (hz := by have e := kd.size; omega) (s := { s with toks := s.toks + k.draws }) ho hd ?_))
    refine q _ ⟨_, _, ep + 1, Heap.get?_update_self _ ho (Obj.isFreed_of_dict (Obj.data_mapDictKeys hd _)), hc.mapDictKeys _, Obj.data_mapDictKeys hd _, ?_⟩ (Heap.SameBut.update ..)
    unfold putN
    rw [if_neg no]
    refine ⟨by simp [kd.ents, entN], fun x m => ?_, fun x m => ?_, ?_⟩
    · rcases List.mem_append.mp m with m | m
      · exact key_stays ho hd (Heap.SameBut.update ..) (kd.keys x m)
      · cases List.mem_singleton.mp m
        exact key_stays ho hd (Heap.SameBut.update ..) hk
    · rcases List.mem_append.mp m with m | m
      · exact kd.low x m
      · cases List.mem_singleton.mp m
        exact h8
    · rw [List.map_append, List.nodup_append]
      refine ⟨kd.nd, by simp, fun a ma b mb => ?_⟩
      simp only [List.map_cons, List.map_nil, List.mem_singleton] at mb
      subst mb
      obtain ⟨x, mx, rfl⟩ := List.mem_map.mp ma
      exact hno x mx
  · have yes : (xs.any fun x => decide (x.1 = k)) = true := List.any_eq_true.mpr ⟨x, List.mem_of_getElem? hx, decide_eq_true e⟩
    refine wpAny_bind (wpAny_rule (wpAny_bind (wpAny_updateDict (s := { s with toks := s.toks + k.draws }) ho hd (wpAny_point ?_))))
    refine q _ ⟨_, _, ep, Heap.get?_update_self _ ho (Obj.isFreed_of_dict (Obj.data_mapDict hd _)), hc.mapDict _, Obj.data_mapDict hd _, ?_⟩ (Heap.SameBut.update ..)
    unfold putN
    rw [if_pos yes]
    refine ⟨?_, fun y m => ?_, fun y m => ?_, by rw [chgN_keys]; exact kd.nd⟩
    · have := chgN_at w k v kd.nd hx e
      rw [← kd.ents] at this
      obtain ⟨l⟩ := es
      simpa using this
    · obtain ⟨z, mz, rfl⟩ := List.mem_map.mp m
      rw [(chgN_key k v z).1, (chgN_key k v z).2]
      exact key_stays ho hd (Heap.SameBut.update ..) (kd.keys z mz)
    · obtain ⟨z, mz, rfl⟩ := List.mem_map.mp m
      rw [(chgN_key k v z).1]
      exact kd.low z mz
theorem in_nk {Q : Value → Shared → Prop} (hu : A.in1.units + 8 < cLine) (hk : NestedIs s.heap k key) (h8 : k.depth ≤ 8) (hs : (d == sysModules) = false) (hm : DictN w s.heap d xs)
    (q : Q (.bool (atN xs k).isSome) { s with toks := s.toks + k.draws }) : wpAny (model prog w) A (compareOp .In key (.ref d)) Q E s := by
  show wpAny _ _ (do return .bool (← contains (.ref d) key)) Q E s
  refine wpAny_bind ?_
  unfold contains
  try with_reducible refine wpAny_holding ?_
  refine wpAny_bind (wpAny_specialOf hm.typeIs slot_dict_contains.lookup ?_)
  rw [if_neg (show ¬ (some (Value.builtin "dict.__contains__") == some Value.none) = true by rw [beq_builtin_none]; exact Bool.false_ne_true)]
  refine wpAny_bind (wpAny_callSpecialUnlessNone?_slot (name := Str.ofString "__contains__") hm.typeIs slot_dict_contains (wpAny_call_entry slot_dict_contains hm.typeIs entry_dict_contains ?_ (args_dict_contains _ _)))
  show wpAny _ _ (dictGet d key >>= _) _ _ s
  refine wpAny_bind (get_nk hu hk h8 hm ?_)
  cases hf : atN xs k with
  | some p =>
    rw [hf] at q
    exact wpAny_pure ⟨_, rfl, wpAny_truthy_bool (wpAny_pure q)⟩
  | none =>
    rw [hf] at q
    show wpAny _ _ (Builtin.Dict.pendingKey? d key >>= _) _ _ _
    exact wpAny_bind (wpAny_pendingKey_other hs (wpAny_pure ⟨_, rfl, wpAny_truthy_bool (wpAny_pure q)⟩))
theorem item_nk {Q : Value → Shared → Prop} (hu : A.in1.units + 8 < cLine) (hk : NestedIs s.heap k key) (h8 : k.depth ≤ 8) (hm : DictN w s.heap d xs) {y : Value} (hy : atN xs k = some y)
    (q : Q y { s with toks := s.toks + k.draws }) : wpAny (model prog w) A (getItem (.ref d) key) Q E s := by
  unfold getItem
  try with_reducible refine wpAny_holding ?_
  refine wpAny_bind (wpAny_sequenceKey hm.typeIs (by decide) ?_)
  refine wpAny_bind (wpAny_callSpecial?_slot (name := Str.ofString "__getitem__") hm.typeIs slot_dict_getitem (wpAny_call_entry slot_dict_getitem hm.typeIs entry_dict_getitem ?_ (args_dict_getitem _ _)))
  show wpAny _ _ (dictGet d key >>= _) _ _ s
  refine wpAny_bind (get_nk hu hk h8 hm ?_)
  rw [hy]
  exact wpAny_pure ⟨y, rfl, wpAny_pure q⟩
theorem store_nk {Q : Unit → Shared → Prop} (hu : A.in1.units + 8 < cLine) (hk : NestedIs s.heap k key) (h8 : k.depth ≤ 8) (hm : DictN w s.heap d xs) (few : xs.length ≤ sizeLine)
    (q : ∀ h', DictN w h' d (putN xs k key v) → Heap.SameBut d s.heap h' → Q () { s with heap := h', toks := s.toks + k.draws }) : wpAny (model prog w) A (setItem (.ref d) key v) Q E s := by
  unfold setItem
  try with_reducible refine wpAny_holding ?_
  refine wpAny_bind (wpAny_sequenceKey hm.typeIs (by decide) ?_)
  refine wpAny_bind (wpAny_callSpecial?_slot (name := Str.ofString "__setitem__") hm.typeIs slot_dict_setitem (wpAny_call_entry slot_dict_setitem hm.typeIs entry_dict_setitem ?_ (args_dict_setitem _ _ _)))
  show wpAny _ _ (Builtin.Dict.notOrdered "__setitem__" ⟨[.ref d, key, v], []⟩ >>= _) _ _ s
  refine wpAny_bind (wpAny_notOrdered_dict hm.typeIs ?_)
  show wpAny _ _ (dictSet d key v >>= _) _ _ s
  exact wpAny_bind (set_nk hu hk h8 hm few fun h' a b => wpAny_pure ⟨.none, rfl, wpAny_pure (q h' a b)⟩)
theorem DictN.new (h : Heap) : DictN w (h.push { cls := .type "dict", data := .dict #[] }) h.objs.size [] :=
  ⟨_, #[], 0, Heap.get?_push_size _ rfl, ⟨rfl, rfl, rfl⟩, rfl, rfl, fun _ z => (nomatch z), fun _ z => (nomatch z), List.nodup_nil⟩
end
end Sb

/-! Sb, part M: mirrors. A def's body is walked once by rules whose readings are plain functions of data: what is left of a def is a function. -/
namespace Sb
open PySem PySem.Spec PyProof.Rows L2

/-! ### data -/
instance : Inhabited D := ⟨.non⟩
mutual
/-- the data as a key, up to == -/
def nkOf : D → Option NestedKey
  | .non => some .none
  | .bl b => some (.num (if b = true then 1 else 0))
  | .int i => some (.num i)
  | .str x => some (.text x)
  | .tup xs => (nksOf xs).map .tup
  | .scr _ | .list _ | .ins _ _ | .cls _ | .dict _ _ => none
def nksOf : List D → Option (List NestedKey)
  | [] => some []
  | d :: ds => (nkOf d).bind fun k => (nksOf ds).map (k :: ·)
end
def ObjO (a : Addr) (o : Obj) : HO := .ext fun h => h.get? a = some o
structure DctOk (a : Addr) (o : Obj) (es : List (Int × V × V)) : Prop where
  few : es.length ≤ sizeLine
  sys : (a == sysModules) = false
  ex : o.ExactDict
  at_ : ∃ xs ep, o.data = .dict xs ep ∧ Paired (fun (e : Int × V × V) (x : DictEntry) => e.1 = x.hash ∧ RelV e.2.1 x.key ∧ RelV e.2.2 x.val) es xs.toList
mutual
/-- the value v is the data d, by the objects of F -/
inductive Rep (K : PySem.W.Frag) (F : Hp) : V → D → Prop
  | non : Rep K F .non .non
  | bl (b : Bool) : Rep K F (.bl b) (.bl b)
  | int (i : Int) : Rep K F (.int i) (.int i)
  | str (x : Str) : Rep K F (.str x) (.str x)
  | scr {a : Addr} {ns : List Int} : SqL K F a (ns.map V.int) → Rep K F (.ref a) (.scr ns)
  | list {a : Addr} {vs : List V} {ds : List D} : F a = some (.lst vs) → Reps K F vs ds → Rep K F (.ref a) (.list ds)
  | tup {a : Addr} {vs : List V} {ds : List D} : SqT K F a vs → Reps K F vs ds → Rep K F (.ref a) (.tup ds)
  | ins {a dx : Addr} {fs : List (Str × V)} {c : Str} {ds : List (Str × D)} : F a = some (.ins (He.ga K c) dx fs) → RepF K F fs ds → Rep K F (.ref a) (.ins c ds)
  | cls (c : Str) : Rep K F (.ref (He.ga K c)) (.cls c)
  | dict {a : Addr} {o : Obj} {es : List (Int × V × V)} {w : World} {kvs : List (D × D)} : F a = some (ObjO a o) → DctOk a o es → RepD K F w es kvs → (kvs.map fun p => nkOf p.1).Nodup → Rep K F (.ref a) (.dict w kvs)
inductive Reps (K : PySem.W.Frag) (F : Hp) : List V → List D → Prop
  | nil : Reps K F [] []
  | cons {v : V} {vs : List V} {d : D} {ds : List D} : Rep K F v d → Reps K F vs ds → Reps K F (v :: vs) (d :: ds)
inductive RepF (K : PySem.W.Frag) (F : Hp) : List (Str × V) → List (Str × D) → Prop
  | nil : RepF K F [] []
  | cons {n : Str} {v : V} {fs : List (Str × V)} {d : D} {ds : List (Str × D)} : Rep K F v d → RepF K F fs ds → RepF K F ((n, v) :: fs) ((n, d) :: ds)
inductive RepD (K : PySem.W.Frag) (F : Hp) : World → List (Int × V × V) → List (D × D) → Prop
  | nil {w : World} : RepD K F w [] []
  | cons {w : World} {i : Int} {v u : V} {es : List (Int × V × V)} {d e : D} {kvs : List (D × D)} {k : NestedKey} : nkOf d = some k → k.depth ≤ 8 → i = k.hash w → Rep K F v d → Rep K F u e → RepD K F w es kvs → RepD K F w ((i, v, u) :: es) ((d, e) :: kvs)
end

section
variable {K : PySem.W.Frag} {F F' : Hp}
mutual
theorem Rep.same (e : Same F F') : ∀ (d : D) (v : V), Rep K F v d → Rep K F' v d
  | _, _, .non => .non
  | _, _, .bl b => .bl b
  | _, _, .int i => .int i
  | _, _, .str x => .str x
  | _, _, .scr h => .scr (e.seq h)
  | .list ds, _, .list h hs => .list (e _ _ h) (Reps.same e ds _ hs)
  | .tup ds, _, .tup h hs => .tup (seqT_same e h) (Reps.same e ds _ hs)
  | .ins c fs, _, .ins h hs => .ins (e _ _ h) (RepF.same e fs _ hs)
  | _, _, .cls c => .cls c
  | .dict w kvs, _, .dict h k hs n => .dict (e _ _ h) k (RepD.same e kvs _ hs) n
theorem Reps.same (e : Same F F') : ∀ (ds : List D) (vs : List V), Reps K F vs ds → Reps K F' vs ds
  | [], _, .nil => .nil
  | d :: ds, _, .cons h hs => .cons (Rep.same e d _ h) (Reps.same e ds _ hs)
theorem RepF.same (e : Same F F') : ∀ (ds : List (Str × D)) (vs : List (Str × V)), RepF K F vs ds → RepF K F' vs ds
  | [], _, .nil => .nil
  | (_, d) :: ds, _, .cons h hs => .cons (Rep.same e d _ h) (RepF.same e ds _ hs)
theorem RepD.same (e : Same F F') {w : World} : ∀ (ds : List (D × D)) (vs : List (Int × V × V)), RepD K F w vs ds → RepD K F' w vs ds
  | [], _, .nil => .nil
  | (d, c) :: ds, _, .cons h1 h2 h3 h4 h5 hs => .cons h1 h2 h3 (Rep.same e d _ h4) (Rep.same e c _ h5) (RepD.same e ds _ hs)
end
theorem Rep.up {v : V} {d : D} (h : Rep K F v d) (e : Same F F') : Rep K F' v d := Rep.same e d v h
theorem Reps.up {vs : List V} {ds : List D} (h : Reps K F vs ds) (e : Same F F') : Reps K F' vs ds := Reps.same e ds vs h
theorem Reps.length : ∀ {vs : List V} {ds : List D}, Reps K F vs ds → vs.length = ds.length
  | _, _, .nil => rfl
  | _, _, .cons _ t => congrArg (· + 1) (Reps.length t)
theorem Reps.get : ∀ {vs : List V} {ds : List D} {i : Nat} {d : D}, Reps K F vs ds → ds[i]? = some d → ∃ v, vs[i]? = some v ∧ Rep K F v d
  | _, _, _, _, .nil, e => by simp at e
  | _, _, 0, _, .cons r _, e => by simp at e; subst e; exact ⟨_, rfl, r⟩
  | _, _, i + 1, d, .cons _ t, e => by
    obtain ⟨u, h1, h2⟩ := Reps.get (i := i) (d := d) t (by simpa using e)
    exact ⟨u, by simpa using h1, h2⟩
theorem Reps.append : ∀ {xs ys : List V} {us ws : List D}, Reps K F xs us → Reps K F ys ws → Reps K F (xs ++ ys) (us ++ ws)
  | _, _, _, _, .nil, s => s
  | _, _, _, _, .cons r t, s => .cons r (Reps.append t s)
theorem Reps.take : ∀ {xs : List V} {us : List D} (n : Nat), Reps K F xs us → Reps K F (xs.take n) (us.take n)
  | _, _, 0, _ => .nil
  | _, _, _ + 1, .nil => .nil
  | _, _, n + 1, .cons r t => .cons r (Reps.take n t)
theorem Reps.drop : ∀ {xs : List V} {us : List D} (n : Nat), Reps K F xs us → Reps K F (xs.drop n) (us.drop n)
  | _, _, 0, r => r
  | _, _, _ + 1, .nil => .nil
  | _, _, n + 1, .cons _ t => Reps.drop n t
theorem Reps.set {x : V} {u : D} (r : Rep K F x u) : ∀ {xs : List V} {us : List D} (i : Nat), Reps K F xs us → Reps K F (xs.set i x) (us.set i u)
  | _, _, _, .nil => .nil
  | _, _, 0, .cons _ t => .cons r t
  | _, _, i + 1, .cons q t => .cons q (Reps.set r i t)
theorem Reps.reverse : ∀ {xs : List V} {us : List D}, Reps K F xs us → Reps K F xs.reverse us.reverse
  | _, _, .nil => .nil
  | _, _, .cons r t => by
    rw [List.reverse_cons, List.reverse_cons]
    exact (Reps.reverse t).append (.cons r .nil)
theorem Reps.cut {xs : List V} {us : List D} (r : Reps K F xs us) (lo hi : Option Int) :
    Reps K F (cutV xs lo hi) ((us.drop (HT.sIx us.length 0 lo)).take (HT.sIx us.length us.length hi - HT.sIx us.length 0 lo)) := by
  unfold cutV
  rw [r.length]
  exact (r.drop _).take _
theorem Reps.at_ {vs : List V} {ds : List D} {i : Int} {d : D} (r : Reps K F vs ds) (h : atI ds i = some d) : ∃ v, atI vs i = some v ∧ Rep K F v d := by
  unfold atI at h ⊢
  rw [r.length]
  cases e : ixN ds.length i with
  | none => rw [e] at h; cases h
  | some j =>
    rw [e] at h
    exact r.get h
theorem Reps.ints : ∀ {vs : List V} {ns : List Int}, Reps K F vs (ns.map D.int) → vs = ns.map V.int
  | _, [], .nil => rfl
  | _, n :: ns, .cons r t => by
    cases r
    rw [Reps.ints (ns := ns) t]
    rfl
theorem Reps.of_ints : ∀ (ns : List Int), Reps K F (ns.map V.int) (ns.map D.int)
  | [] => .nil
  | n :: ns => .cons (.int n) (Reps.of_ints ns)
theorem RepF.get : ∀ {fs : List (Str × V)} {ds : List (Str × D)} {n : Str} {d : D}, RepF K F fs ds → ds.lookup n = some d → ∃ v, fs.lookup n = some v ∧ Rep K F v d
  | _, _, _, _, .nil, e => by simp at e
  | _, _, n, d, .cons (n := m) r t, e => by
    rw [List.lookup_cons] at e ⊢
    cases hb : n == m with
    | true =>
      rw [hb] at e
      cases e
      exact ⟨_, rfl, r⟩
    | false =>
      rw [hb] at e
      exact RepF.get t e
theorem RepF.none_ : ∀ {fs : List (Str × V)} {ds : List (Str × D)} {n : Str}, RepF K F fs ds → ds.lookup n = none → fs.lookup n = none
  | _, _, _, .nil, _ => rfl
  | _, _, n, .cons (n := m) r t, e => by
    rw [List.lookup_cons] at e ⊢
    cases hb : n == m with
    | true => rw [hb] at e; cases e
    | false =>
      rw [hb] at e
      exact RepF.none_ t e
end

/-! ### the state of a body -/
inductive O where
  | lst (xs : List D) | ins (c : Str) (fs : List (Str × D)) | dct (w : World) (kvs : List (D × D))
def O.toD : O → D
  | .lst xs => .list xs
  | .ins c fs => .ins c fs
  | .dct w kvs => .dict w kvs
def OwH (K : PySem.W.Frag) (F : Hp) (p : Addr) (h : HO) : O → Prop
  | .lst xs => ∃ vs, h = .lst vs ∧ Reps K F vs xs
  | .ins c fs => ∃ dx gs, h = .ins (He.ga K c) dx gs ∧ RepF K F gs fs
  | .dct w kvs => ∃ ob es, h = ObjO p ob ∧ DctOk p ob es ∧ RepD K F w es kvs ∧ (kvs.map fun p => nkOf p.1).Nodup
theorem OwH.up {K : PySem.W.Frag} {F F' : Hp} {p : Addr} {h : HO} {o : O} (a : OwH K F p h o) (e : Same F F') : OwH K F' p h o := by
  cases o with
  | lst xs =>
    obtain ⟨vs, rfl, r⟩ := a
    exact ⟨vs, rfl, r.up e⟩
  | ins c fs =>
    obtain ⟨dx, gs, rfl, r⟩ := a
    exact ⟨dx, gs, rfl, RepF.same e fs gs r⟩
  | dct w kvs =>
    obtain ⟨ob, es, rfl, k, r, n⟩ := a
    exact ⟨ob, es, rfl, k, RepD.same e kvs es r, n⟩
theorem OwH.rep {K : PySem.W.Frag} {F : Hp} {h : HO} {o : O} {p : Addr} (a : OwH K F p h o) (e : F p = some h) : Rep K F (.ref p) o.toD := by
  cases o with
  | lst xs =>
    obtain ⟨vs, rfl, r⟩ := a
    exact .list e r
  | ins c fs =>
    obtain ⟨dx, gs, rfl, r⟩ := a
    exact .ins e r
  | dct w kvs =>
    obtain ⟨ob, es, rfl, k, r, n⟩ := a
    exact .dict e k r n
inductive Sl where
  | fr (d : D) | ow (o : O)
def Sl.toD : Sl → D
  | .fr d => d
  | .ow o => o.toD
abbrev Ld := List (Option Sl)
structure MC where
  K : PySem.W.Frag
  F0 : Hp
  H0 : Hp
  ps : List (Nat × Addr)
def SlOk (M : MC) (F H : Hp) (i : Nat) (v : V) : Sl → Prop
  | .fr d => Rep M.K F v d
  | .ow o => ∃ p h, v = .ref p ∧ H p = some h ∧ F p = none ∧ OwH M.K F p h o ∧ (M.H0 p = none ∨ (i, p) ∈ M.ps)
structure StM (M : MC) (F : Hp) (σ : L2.St) (H : Hp) (l : Ld) : Prop where
  sub : Same F H
  len : σ.length = l.length
  slot : ∀ (i : Nat) (s : Sl), l[i]? = some (some s) → ∃ v, σ[i]? = some (some v) ∧ SlOk M F H i v s
  inj : ∀ (i j : Nat) (xs ys : O) (v : V), l[i]? = some (some (.ow xs)) → l[j]? = some (some (.ow ys)) → σ[i]? = some (some v) → σ[j]? = some (some v) → i = j
  keepF : Same M.F0 F
  newF : ∀ a o, M.H0 a = some o → M.F0 a = none → a ∉ M.ps.map (·.2) → F a = none
  keepH : ∀ a o, M.H0 a = some o → a ∉ M.ps.map (·.2) → H a = some o
  domH : ∀ a, H a = none → M.H0 a = none
  pars : ∀ q ∈ M.ps, σ[q.1]? = some (some (.ref q.2))
def Own (σ : L2.St) (l : Ld) (p : Addr) : Prop := ∃ (i : Nat) (xs : O), l[i]? = some (some (.ow xs)) ∧ σ[i]? = some (some (.ref p))
structure Gr (σ : L2.St) (l l' : Ld) (F H F' H' : Hp) : Prop where
  ext : Same F F'
  own : ∀ p, Own σ l' p → Own σ l p
  frn : ∀ p o, H p = some o → F p = none → ¬ Own σ l p → F' p = none ∧ H' p = some o
  dom : ∀ a, H' a = none → H a = none
theorem Gr.refl (σ : L2.St) (l : Ld) (F H : Hp) : Gr σ l l F H F H := ⟨Same.refl _, fun _ h => h, fun _ _ a b _ => ⟨b, a⟩, fun _ h => h⟩
theorem Gr.trans {σ : L2.St} {l l1 l2 : Ld} {F H F1 H1 F2 H2 : Hp} (a : Gr σ l l1 F H F1 H1) (b : Gr σ l1 l2 F1 H1 F2 H2) : Gr σ l l2 F H F2 H2 where
  ext := a.ext.trans b.ext
  own := fun p h => a.own p (b.own p h)
  frn := fun p o h f n => by
    obtain ⟨f1, h1⟩ := a.frn p o h f n
    exact b.frn p o h1 f1 fun z => n (a.own p z)
  dom := fun p h => a.dom p (b.dom p h)

/-! ### results -/
inductive Res (α : Type) where
  | ok (a : α) (l : Ld)
  | err (c f : Str) (d : D) (l : Ld)
  | stuck
def Res.bind {α β : Type} : Res α → (α → Ld → Res β) → Res β
  | .ok a l, f => f a l
  | .err c f d l, _ => .err c f d l
  | .stuck, _ => .stuck
def Res.lift {α : Type} : Option α → Ld → Res α
  | some a, l => .ok a l
  | none, _ => .stuck
def wR {α : Type} (M : MC) (E : L2.St → XK) (σ : L2.St) (F H : Hp) (l : Ld) (P : α → Ld → Hp → Hp → Prop) : Res α → Prop
  | .ok a l' => ∀ F' H', Gr σ l l' F H F' H' → StM M F' σ H' l' → P a l' F' H'
  | .err c f d l' => ∀ v dd F' H', Gr σ l l' F H F' H' → StM M F' σ H' l' → H' dd = some (.xd [(f, v)]) → F' dd = none → H dd = none → Rep M.K F' v d → E σ (.ref (He.ga M.K c)) (some dd) H'
  | .stuck => False
section
variable {α β : Type} {M : MC} {E : L2.St → XK} {σ : L2.St} {F H F1 H1 : Hp} {l l1 : Ld} {P P' : α → Ld → Hp → Hp → Prop} {R : β → Ld → Hp → Hp → Prop} {r : Res α}
theorem wR.mono (h : wR M E σ F H l P r) (k : ∀ a l1 F1 H1, Gr σ l l1 F H F1 H1 → StM M F1 σ H1 l1 → P a l1 F1 H1 → P' a l1 F1 H1) : wR M E σ F H l P' r := by
  cases r with
  | ok a l' => exact fun F' H' g s => k _ _ _ _ g s (h F' H' g s)
  | err c f d l' => exact h
  | stuck => exact h
theorem wR.later (g : Gr σ l l1 F H F1 H1) (h : wR M E σ F H l P r) : wR M E σ F1 H1 l1 P r := by
  cases r with
  | ok a l' => exact fun F' H' g' s => h F' H' (g.trans g') s
  | err c f d l' => exact fun v dd F' H' g' s a b c => h v dd F' H' (g.trans g') s a b (g.dom _ c)
  | stuck => exact h
theorem wR.bind {f : α → Ld → Res β} (h : wR M E σ F H l R (r.bind f)) : wR M E σ F H l (fun a l1 F1 H1 => wR M E σ F1 H1 l1 R (f a l1)) r := by
  cases r with
  | ok a l' => exact fun F' H' g s => wR.later g h
  | err c f d l' => exact h
  | stuck => exact h
end

/-! ### readings -/
abbrev ME := Ld → Res D
abbrev MT := Ld → Res Bool
abbrev ML := Ld → Res (List D)
section
variable (M : MC) (E : L2.St → XK)
def mE (g : ME) : TE := fun σ H Q => ∃ F l, StM M F σ H l ∧ wR M E σ F H l (fun d _ F' H' => ∀ v, Rep M.K F' v d → Q v H') (g l)
def mT (g : MT) : TT := fun σ H Q => ∃ F l, StM M F σ H l ∧ wR M E σ F H l (fun b _ _ H' => Q b H') (g l)
def mL (g : ML) : TE := fun σ H Q => ∃ F l, StM M F σ H l ∧ wR M E σ F H l (fun xs l' F' H' => ∀ p vs, H' p = some (.lst vs) → F' p = none → M.H0 p = none → H p = none → ¬ Own σ l' p → Reps M.K F' vs xs → Q (.ref p) H') (g l)
end

/-! ### new objects -/
structure Nw (F H F' H' : Hp) : Prop where
  f : Same F F'
  h : Same H H'
  s : Same F' H'
  n : ∀ a o, H a = some o → F a = none → F' a = none
theorem Nw.refl {F H : Hp} (s : Same F H) : Nw F H F H := ⟨Same.refl _, Same.refl _, s, fun _ _ _ h => h⟩
theorem Nw.trans {F H F1 H1 F2 H2 : Hp} (a : Nw F H F1 H1) (b : Nw F1 H1 F2 H2) : Nw F H F2 H2 :=
  ⟨a.f.trans b.f, a.h.trans b.h, b.s, fun p o h f => b.n p o (a.h p o h) (a.n p o h f)⟩
theorem new_same {H : Hp} {q : Addr} {o : HO} (h : H q = none) : Same H (L2.upd H q o) := fun b x e => by
  rw [upd_ne (ne_of_none e h)]
  exact e
theorem Nw.add {F H : Hp} {p : Addr} {o : HO} (s : Same F H) (n : H p = none) : Nw F H (upd F p o) (upd H p o) where
  f := new_same (s.free n)
  h := new_same n
  s := fun b x e => by
    by_cases hb : b = p
    · subst hb
      rw [upd_same] at e ⊢
      exact e
    · rw [upd_ne hb] at e ⊢
      exact s _ _ e
  n := fun a x h f => by
    have ne : a ≠ p := ne_of_none h n
    rw [upd_ne ne]
    exact f
theorem Nw.beside {F H : Hp} {p : Addr} {o : HO} (s : Same F H) (n : H p = none) : Nw F H F (upd H p o) :=
  ⟨Same.refl _, new_same n, s.trans (new_same n), fun _ _ _ h => h⟩
section
variable {M : MC} {σ : L2.St} {F H F' H' : Hp} {l : Ld}
theorem SlOk.up {i : Nat} {v : V} {s : Sl} (h : SlOk M F H i v s) (nw : Nw F H F' H') : SlOk M F' H' i v s := by
  cases s with
  | fr d => exact Rep.up (show Rep M.K F v d from h) nw.f
  | ow xs =>
    obtain ⟨p, vs, e, a, b, c, d⟩ := h
    exact ⟨p, vs, e, nw.h _ _ a, nw.n _ _ a b, c.up nw.f, d⟩
theorem StM.new (st : StM M F σ H l) (nw : Nw F H F' H') : StM M F' σ H' l where
  sub := nw.s
  len := st.len
  slot := fun i s e => by
    obtain ⟨v, e1, ok⟩ := st.slot i s e
    exact ⟨v, e1, ok.up nw⟩
  inj := st.inj
  keepF := st.keepF.trans nw.f
  newF := fun a o h f n => nw.n a o (st.keepH a o h n) (st.newF a o h f n)
  keepH := fun a o h n => nw.h _ _ (st.keepH a o h n)
  domH := fun a h => st.domH a (nw.h.free h)
  pars := st.pars
theorem StM.gr (st : StM M F σ H l) (nw : Nw F H F' H') : Gr σ l l F H F' H' where
  ext := nw.f
  own := fun _ h => h
  frn := fun p o h f _ => ⟨nw.n p o h f, nw.h p o h⟩
  dom := fun a h => nw.h.free h
theorem StM.ownH (st : StM M F σ H l) {p : Addr} (h : Own σ l p) : (∃ vs, H p = some vs) ∧ F p = none := by
  obtain ⟨i, xs, a, b⟩ := h
  obtain ⟨v, e, ok⟩ := st.slot i _ a
  rw [b] at e
  cases e
  obtain ⟨q, vs, e1, h1, h2, _⟩ := ok
  cases e1
  exact ⟨⟨vs, h1⟩, h2⟩
theorem StM.give {P : D → Ld → Hp → Hp → Prop} {E : L2.St → XK} {d : D} (st : StM M F σ H l) (w : wR M E σ F H l P (.ok d l)) (nw : Nw F H F' H') : P d l F' H' :=
  w F' H' (st.gr nw) (st.new nw)
end

/-! ### values' operations by data -/
abbrev R2 := V → V → Hp → VK → Prop
def rD2 (K : PySem.W.Frag) (f : D → D → Option D) : R2 := fun x y H Q => ∃ F d e r, Same F H ∧ Rep K F x d ∧ Rep K F y e ∧ f d e = some r ∧ ∀ v F' H', Nw F H F' H' → Rep K F' v r → Q v H'
def rD2L (K : PySem.W.Frag) (f : D → D → Option (List D)) : R2 := fun x y H Q => ∃ F d e r, Same F H ∧ Rep K F x d ∧ Rep K F y e ∧ f d e = some r ∧ ∀ p vs, H p = none → Reps K F vs r → Q (.ref p) (upd H p (.lst vs))
def rD1 (K : PySem.W.Frag) (f : D → Option D) : V → Hp → VK → Prop := fun x H Q => ∃ F d r, Same F H ∧ Rep K F x d ∧ f d = some r ∧ ∀ v F' H', Nw F H F' H' → Rep K F' v r → Q v H'
def rDn (K : PySem.W.Frag) (f : List D → Option D) : List V → Hp → VK → Prop := fun xs H Q => ∃ F ds r, Same F H ∧ Reps K F xs ds ∧ f ds = some r ∧ ∀ v F' H', Nw F H F' H' → Rep K F' v r → Q v H'
def rDnL (K : PySem.W.Frag) (f : List D → Option (List D)) : List V → Hp → VK → Prop := fun xs H Q => ∃ F ds r, Same F H ∧ Reps K F xs ds ∧ f ds = some r ∧ ∀ p vs, H p = none → Reps K F vs r → Q (.ref p) (upd H p (.lst vs))

def bin2 (f : D → D → Option D) (a b : ME) : ME := fun l => (a l).bind fun d l1 => (b l1).bind fun e l2 => Res.lift (f d e) l2
def bin2L (f : D → D → Option (List D)) (a b : ME) : ML := fun l => (a l).bind fun d l1 => (b l1).bind fun e l2 => Res.lift (f d e) l2
section
variable {M : MC} {E : L2.St → XK} {ga gb : ME}
theorem mE_bin {f : D → D → Option D} {σ : L2.St} {H : Hp} {Q : VK} (h : mE M E (bin2 f ga gb) σ H Q) : tOp (rD2 M.K f) (mE M E ga) (mE M E gb) σ H Q := by
  obtain ⟨F, l, st, w⟩ := h
  refine ⟨F, l, st, (wR.bind w).mono fun d l1 F1 H1 g1 st1 w1 v rv => ?_⟩
  refine ⟨F1, l1, st1, (wR.bind w1).mono fun e l2 F2 H2 g2 st2 w2 u ru => ?_⟩
  cases hf : f d e with
  | none => rw [hf] at w2; exact w2.elim
  | some r =>
    rw [hf] at w2
    exact ⟨F2, d, e, r, st2.sub, rv.up g2.ext, ru, hf, fun v F' H' nw rr => st2.give w2 nw v rr⟩
theorem mL_bin {f : D → D → Option (List D)} {σ : L2.St} {H : Hp} {Q : VK} (h : mL M E (bin2L f ga gb) σ H Q) : tOp (rD2L M.K f) (mE M E ga) (mE M E gb) σ H Q := by
  obtain ⟨F, l, st, w⟩ := h
  refine ⟨F, l, st, (wR.bind w).mono fun d l1 F1 H1 g1 st1 w1 v rv => ?_⟩
  refine ⟨F1, l1, st1, (wR.bind w1).mono fun e l2 F2 H2 g2 st2 w2 u ru => ?_⟩
  cases hf : f d e with
  | none => rw [hf] at w2; exact w2.elim
  | some r =>
    rw [hf] at w2
    refine ⟨F2, d, e, r, st2.sub, rv.up g2.ext, ru, hf, fun p vs np rr => ?_⟩
    have nw := Nw.beside (o := .lst vs) st2.sub np
    refine w2 F2 _ (st2.gr nw) (st2.new nw) p vs upd_same (st2.sub.free np) (st2.domH p np) (g1.dom _ (g2.dom _ np)) (fun o => ?_) rr
    obtain ⟨⟨ws, z⟩, _⟩ := st2.ownH o
    rw [np] at z
    cases z
end
section
variable {X : Cx} {M : MC} {E : L2.St → XK} {a b : Expr} {ga gb : ME} {pos : Pos}
theorem me_op {op : Operator} {f : D → D → Option D} (ho : OpR X (binaryOp op) (rD2 M.K f)) (ha : PE X a (mE M E ga)) (hb : PE X b (mE M E gb)) : PE X (.BinOp a op b pos) (mE M E (bin2 f ga gb)) :=
  pe_imp (pe_op ho ha hb) fun _ _ _ h => mE_bin h
theorem ml_op {op : Operator} {f : D → D → Option (List D)} (ho : OpR X (binaryOp op) (rD2L M.K f)) (ha : PE X a (mE M E ga)) (hb : PE X b (mE M E gb)) : PE X (.BinOp a op b pos) (mL M E (bin2L f ga gb)) :=
  pe_imp (pe_op ho ha hb) fun _ _ _ h => mL_bin h
theorem me_cmp {op : CmpOp} {f : D → D → Option D} (ho : OpR X (compareOp op) (rD2 M.K f)) (ha : PE X a (mE M E ga)) (hb : PE X b (mE M E gb)) (hm : behindInMarks op b = false) : PE X (.Compare a [op] [b] pos) (mE M E (bin2 f ga gb)) :=
  pe_imp (pe_cmpR ho ha hb hm) fun _ _ _ h => mE_bin h
end
end Sb

namespace Sb
open PySem PySem.Spec PyProof.Rows L2
def visB (sc : Scope) (x : Str) : Bool := match sc.names.lookup x with
  | some .local | some .cell | some .free => true
  | _ => false
theorem vz {sc : Scope} {x : Str} (h : visB sc x = true) : Vis sc x := by
  unfold visB at h
  unfold Vis
  cases e : sc.names.lookup x with
  | none => rw [e] at h; cases h
  | some k => rw [e] at h; cases k <;> first | exact .inl rfl | exact .inr (.inl rfl) | exact .inr (.inr rfl) | cases h
def locB (sc : Scope) (x : Str) : Bool := match sc.names.lookup x with
  | some .local | some .cell => true
  | _ => false
theorem lz {sc : Scope} {x : Str} (h : locB sc x = true) : L2.Loc sc x := by
  unfold locB at h
  unfold L2.Loc
  cases e : sc.names.lookup x with
  | none => rw [e] at h; cases h
  | some k => rw [e] at h; cases k <;> first | exact .inl rfl | exact .inr rfl | cases h

/-! ### slots -/
section
variable {M : MC} {σ : L2.St} {F H F' H' : Hp} {l : Ld}
theorem get_set {α : Type} {l : List α} {i j : Nat} {x y : α} (h : (l.set i x)[j]? = some y) : (i = j ∧ y = x) ∨ (i ≠ j ∧ l[j]? = some y) := by
  rw [List.getElem?_set] at h
  split at h
  · rename_i e
    split at h
    · exact .inl ⟨e, (Option.some.inj h).symm⟩
    · cases h
  · rename_i e
    exact .inr ⟨e, h⟩
theorem get_lt {α : Type} {l : List α} {i : Nat} {x : α} (h : l[i]? = some x) : i < l.length := by
  rw [List.getElem?_eq_some_iff] at h
  exact h.1
theorem StM.freeze {i : Nat} {xs : O} (st : StM M F σ H l) (e : l[i]? = some (some (.ow xs))) :
    ∃ p vs, σ[i]? = some (some (.ref p)) ∧ H p = some vs ∧ OwH M.K F p vs xs ∧ StM M (upd F p vs) σ H (l.set i (some (.fr xs.toD))) ∧ Gr σ l (l.set i (some (.fr xs.toD))) F H (upd F p vs) H ∧ Rep M.K (upd F p vs) (.ref p) xs.toD := by
  obtain ⟨v, ev, p, vs, rfl, hp, fp, rs, own⟩ := st.slot i _ e
  have ext : Same F (upd F p vs) := new_same fp
  have rep : Rep M.K (upd F p vs) (.ref p) xs.toD := (rs.up ext).rep upd_same
  have oth : ∀ (j : Nat) (ys : O), i ≠ j → l[j]? = some (some (.ow ys)) → ∀ q, σ[j]? = some (some (.ref q)) → q ≠ p := by
    intro j ys ne ej q eq z
    subst z
    exact ne (st.inj i j xs ys _ e ej ev eq)
  refine ⟨p, vs, ev, hp, rs, ?_, ?_, rep⟩
  · refine ⟨?_, ?_, ?_, ?_, st.keepF.trans ext, ?_, st.keepH, st.domH, st.pars⟩
    · intro b x z
      by_cases hb : b = p
      · subst hb
        rw [upd_same] at z
        cases z
        exact hp
      · rw [upd_ne hb] at z
        exact st.sub _ _ z
    · rw [List.length_set]
      exact st.len
    · intro j s ej
      rcases get_set ej with ⟨rfl, q⟩ | ⟨ne, q⟩
      · cases q
        exact ⟨_, ev, rep⟩
      · obtain ⟨v, e1, ok⟩ := st.slot j s q
        refine ⟨v, e1, ?_⟩
        cases s with
        | fr d => exact Rep.up (show Rep M.K F v d from ok) ext
        | ow ys =>
          obtain ⟨q', ws, rfl, h1, h2, h3, h4⟩ := ok
          exact ⟨q', ws, rfl, h1, by rw [upd_ne (oth j ys ne q q' e1)]; exact h2, h3.up ext, h4⟩
    · intro j k ys zs v a b
      rcases get_set a with ⟨_, q⟩ | ⟨_, q⟩
      · cases q
      · rcases get_set b with ⟨_, q'⟩ | ⟨_, q'⟩
        · cases q'
        · exact st.inj j k ys zs v q q'
    · intro a o h f n
      have ne : a ≠ p := by
        rintro rfl
        rcases own with z | z
        · rw [z] at h; cases h
        · exact n (List.mem_map.mpr ⟨_, z, rfl⟩)
      rw [upd_ne ne]
      exact st.newF a o h f n
  · refine ⟨ext, ?_, ?_, fun _ h => h⟩
    · rintro q ⟨j, ys, a, b⟩
      rcases get_set a with ⟨_, z⟩ | ⟨_, z⟩
      · cases z
      · exact ⟨j, ys, z, b⟩
    · intro q o h f n
      have ne : q ≠ p := by
        rintro rfl
        exact n ⟨i, xs, e, ev⟩
      rw [upd_ne ne]
      exact ⟨f, h⟩
theorem StM.setFr {i : Nat} {v : V} {d : D} (st : StM M F σ H l) (hi : i < l.length) (np : ∀ q ∈ M.ps, q.1 ≠ i) (r : Rep M.K F v d) : StM M F (σ.set i (some v)) H (l.set i (some (.fr d))) := by
  refine ⟨st.sub, by rw [List.length_set, List.length_set]; exact st.len, ?_, ?_, st.keepF, st.newF, st.keepH, st.domH, ?_⟩
  · intro j s e
    rcases get_set e with ⟨rfl, q⟩ | ⟨ne, q⟩
    · cases q
      exact ⟨v, by rw [List.getElem?_set_self (by rw [st.len]; exact hi)], r⟩
    · rw [List.getElem?_set_ne ne]
      exact st.slot j s q
  · intro j k ys zs u a b c d
    rcases get_set a with ⟨_, q⟩ | ⟨n1, q⟩
    · cases q
    · rcases get_set b with ⟨_, q'⟩ | ⟨n2, q'⟩
      · cases q'
      · rw [List.getElem?_set_ne n1] at c
        rw [List.getElem?_set_ne n2] at d
        exact st.inj j k ys zs u q q' c d
  · intro q hq
    rw [List.getElem?_set_ne (fun z => np q hq z.symm)]
    exact st.pars q hq
theorem StM.setOw {i : Nat} {p : Addr} {vs : HO} {xs : O} (st : StM M F σ H l) (hi : i < l.length) (np : ∀ q ∈ M.ps, q.1 ≠ i) (hp : H p = some vs) (fp : F p = none) (h0 : M.H0 p = none) (no : ¬ Own σ l p) (r : OwH M.K F p vs xs) :
    StM M F (σ.set i (some (.ref p))) H (l.set i (some (.ow xs))) := by
  refine ⟨st.sub, by rw [List.length_set, List.length_set]; exact st.len, ?_, ?_, st.keepF, st.newF, st.keepH, st.domH, ?_⟩
  · intro j s e
    rcases get_set e with ⟨rfl, q⟩ | ⟨ne, q⟩
    · cases q
      exact ⟨.ref p, by rw [List.getElem?_set_self (by rw [st.len]; exact hi)], p, vs, rfl, hp, fp, r, .inl h0⟩
    · rw [List.getElem?_set_ne ne]
      exact st.slot j s q
  · intro j k ys zs u a b c d
    rcases get_set a with ⟨e1, q⟩ | ⟨n1, q⟩
    · rcases get_set b with ⟨e2, q'⟩ | ⟨n2, q'⟩
      · exact e1.symm.trans e2
      · subst e1
        rw [List.getElem?_set_self (by rw [st.len]; exact hi)] at c
        cases c
        rw [List.getElem?_set_ne n2] at d
        exact (no ⟨k, zs, q', d⟩).elim
    · rcases get_set b with ⟨e2, q'⟩ | ⟨n2, q'⟩
      · subst e2
        rw [List.getElem?_set_self (by rw [st.len]; exact hi)] at d
        cases d
        rw [List.getElem?_set_ne n1] at c
        exact (no ⟨j, ys, q, c⟩).elim
      · rw [List.getElem?_set_ne n1] at c
        rw [List.getElem?_set_ne n2] at d
        exact st.inj j k ys zs u q q' c d
  · intro q hq
    rw [List.getElem?_set_ne (fun z => np q hq z.symm)]
    exact st.pars q hq
theorem StM.put {i : Nat} {p : Addr} {vs : HO} {xs ys : O} (st : StM M F σ H l) (e : l[i]? = some (some (.ow xs))) (ep : σ[i]? = some (some (.ref p))) (r : OwH M.K F p vs ys) :
    StM M F σ (upd H p vs) (l.set i (some (.ow ys))) ∧ Gr σ l (l.set i (some (.ow ys))) F H F (upd H p vs) := by
  obtain ⟨v, ev, q, ws, rfl, hp, fp, rs, own⟩ := st.slot i _ e
  rw [ep] at ev
  cases ev
  have hi := get_lt e
  have out : ∀ a, (∃ o, M.H0 a = some o) → a ∉ M.ps.map (·.2) → a ≠ p := by
    rintro a ⟨o, h⟩ n rfl
    rcases own with z | z
    · rw [z] at h; cases h
    · exact n (List.mem_map.mpr ⟨_, z, rfl⟩)
  refine ⟨⟨?_, by rw [List.length_set]; exact st.len, ?_, ?_, st.keepF, st.newF, ?_, ?_, st.pars⟩, ⟨Same.refl _, ?_, ?_, ?_⟩⟩
  · intro b x z
    rw [upd_ne (ne_of_none z fp)]
    exact st.sub _ _ z
  · intro j s ej
    rcases get_set ej with ⟨rfl, z⟩ | ⟨ne, z⟩
    · cases z
      exact ⟨.ref p, ep, p, vs, rfl, upd_same, fp, r, own⟩
    · obtain ⟨v, e1, ok⟩ := st.slot j s z
      refine ⟨v, e1, ?_⟩
      cases s with
      | fr d => exact ok
      | ow zs =>
        obtain ⟨q', us, rfl, h1, h2⟩ := ok
        have : q' ≠ p := by
          rintro rfl
          exact ne (st.inj i j xs zs _ e z ep e1)
        exact ⟨q', us, rfl, by rw [upd_ne this]; exact h1, h2⟩
  · intro j k as bs v a b c d
    have f : ∀ (j : Nat) (as : O), (l.set i (some (.ow ys)))[j]? = some (some (.ow as)) → ∃ cs, l[j]? = some (some (.ow cs)) := by
      intro j as a
      rcases get_set a with ⟨rfl, _⟩ | ⟨_, q⟩
      · exact ⟨xs, e⟩
      · exact ⟨as, q⟩
    obtain ⟨as', a'⟩ := f j as a
    obtain ⟨bs', b'⟩ := f k bs b
    exact st.inj j k as' bs' v a' b' c d
  · intro a o h n
    rw [upd_ne (out a ⟨o, h⟩ n)]
    exact st.keepH a o h n
  · intro a h
    by_cases z : a = p
    · subst z
      rw [upd_same] at h
      cases h
    · rw [upd_ne z] at h
      exact st.domH a h
  · rintro q ⟨j, as, a, b⟩
    rcases get_set a with ⟨rfl, z⟩ | ⟨_, z⟩
    · exact ⟨_, xs, e, b⟩
    · exact ⟨j, as, z, b⟩
  · intro q o h f n
    have : q ≠ p := by
      rintro rfl
      exact n ⟨i, xs, e, ep⟩
    rw [upd_ne this]
    exact ⟨f, h⟩
  · intro a h
    by_cases z : a = p
    · subst z
      rw [upd_same] at h
      cases h
    · rwa [upd_ne z] at h
end

/-! ### expressions -/
def rd (i : Nat) : ME := fun l => match l[i]? with
  | some (some (.fr d)) => .ok d l
  | some (some (.ow xs)) => .ok xs.toD (l.set i (some (.fr xs.toD)))
  | _ => .stuck
def cst (d : D) : ME := fun l => .ok d l
section
variable {X : Cx} {M : MC} {E : L2.St → XK} {a b e : Expr} {ga gb gc : ME} {pos : Pos}
theorem mE_rd {i : Nat} {σ : L2.St} {H : Hp} {Q : VK} (h : mE M E (rd i) σ H Q) : tVar i σ H Q := by
  obtain ⟨F, l, st, w⟩ := h
  unfold rd at w
  split at w
  · rename_i d e
    obtain ⟨v, ev, ok⟩ := st.slot i _ e
    exact ⟨v, ev, w F H (Gr.refl _ _ _ _) st v ok⟩
  · rename_i xs e
    obtain ⟨p, vs, ev, hp, rs, st', g, rep⟩ := st.freeze e
    exact ⟨.ref p, ev, w _ H g st' _ rep⟩
  · exact w.elim
theorem me_var {i : Nat} {x : Str} (hN : X.N[i]? = some x) (hv : Vis X.env.scope x) (hd : (x == ("__debug__" : Str)) = false := by decide) (hcd : (x == ("__classdict__" : Str)) = false := by decide) : PE X (.Name x pos) (mE M E (rd i)) :=
  pe_imp (pe_var hN hv hd hcd) fun _ _ _ h => mE_rd h
theorem mE_cst {v : V} {d : D} (r : ∀ F, Rep M.K F v d) {σ : L2.St} {H : Hp} {Q : VK} (h : mE M E (cst d) σ H Q) : tC v σ H Q := by
  obtain ⟨F, l, st, w⟩ := h
  exact w F H (Gr.refl _ _ _ _) st v (r F)
theorem me_cst {v : V} {d : D} (he : PE X e (tC v)) (r : ∀ F, Rep M.K F v d) : PE X e (mE M E (cst d)) := pe_imp he fun _ _ _ h => mE_cst r h
theorem me_int {i j} : PE X (.Constant (.int i) j pos) (mE M E (cst (.int i))) := me_cst pe_int fun _ => .int i
theorem me_bl {i j} : PE X (.Constant (.bool i) j pos) (mE M E (cst (.bl i))) := me_cst pe_bl fun _ => .bl i
def un1 (f : D → Option D) (a : ME) : ME := fun l => (a l).bind fun d l1 => Res.lift (f d) l1
theorem me_un {op : UnaryOp} {f : D → Option D} (ho : UnR X (unaryOp op) (rD1 M.K f)) (ha : PE X a (mE M E ga)) : PE X (.UnaryOp op a pos) (mE M E (un1 f ga)) :=
  pe_imp (pe_un ho ha) fun σ H Q h => by
    obtain ⟨F, l, st, w⟩ := h
    refine ⟨F, l, st, (wR.bind w).mono fun d l1 F1 H1 g1 st1 w1 v rv => ?_⟩
    cases hf : f d with
    | none => rw [hf] at w1; exact w1.elim
    | some r =>
      rw [hf] at w1
      exact ⟨F1, d, r, st1.sub, rv, hf, fun v F' H' nw rr => st1.give w1 nw v rr⟩

/-! ### a new list becomes data -/
def frz (g : ML) : ME := fun l => (g l).bind fun xs l1 => .ok (.list xs) l1
theorem StM.adopt {p : Addr} {vs : HO} {σ : L2.St} {F H : Hp} {l : Ld} (st : StM M F σ H l) (hp : H p = some vs) (fp : F p = none) (h0 : M.H0 p = none) (no : ¬ Own σ l p) : StM M (upd F p vs) σ H l := by
  have ext : Same F (upd F p vs) := new_same fp
  refine ⟨?_, st.len, ?_, st.inj, st.keepF.trans ext, ?_, st.keepH, st.domH, st.pars⟩
  · intro b x z
    by_cases hb : b = p
    · subst hb
      rw [upd_same] at z
      cases z
      exact hp
    · rw [upd_ne hb] at z
      exact st.sub _ _ z
  · intro j s ej
    obtain ⟨v, e1, ok⟩ := st.slot j s ej
    refine ⟨v, e1, ?_⟩
    cases s with
    | fr d => exact Rep.up (show Rep M.K F v d from ok) ext
    | ow ys =>
      obtain ⟨q, ws, rfl, h1, h2, h3, h4⟩ := ok
      have ne : q ≠ p := by
        rintro rfl
        exact no ⟨j, ys, ej, e1⟩
      exact ⟨q, ws, rfl, h1, by rw [upd_ne ne]; exact h2, h3.up ext, h4⟩
  · intro a o h f n
    have ne : a ≠ p := by
      rintro rfl
      rw [h0] at h
      cases h
    rw [upd_ne ne]
    exact st.newF a o h f n
theorem mE_frz {g : ML} {σ : L2.St} {H : Hp} {Q : VK} (h : mE M E (frz g) σ H Q) : mL M E g σ H Q := by
  obtain ⟨F, l, st, w⟩ := h
  refine ⟨F, l, st, ?_⟩
  unfold frz at w
  cases hg : g l with
  | stuck => rw [hg] at w; exact w
  | err c f d l' => rw [hg] at w; exact w
  | ok xs l1 =>
    rw [hg] at w
    intro F1 H1 g1 st1 p vs hp fp h0 hH no rs
    have ext : Same F1 (upd F1 p (.lst vs)) := new_same fp
    refine w (upd F1 p (.lst vs)) H1 ⟨g1.ext.trans ext, g1.own, fun q o h f n => ?_, g1.dom⟩ (st1.adopt hp fp h0 no) _ (.list upd_same (rs.up ext))
    obtain ⟨a, b⟩ := g1.frn q o h f n
    rw [upd_ne (ne_of_none h hH)]
    exact ⟨a, b⟩
theorem me_frz {g : ML} (h : PE X e (mL M E g)) : PE X e (mE M E (frz g)) := pe_imp h fun _ _ _ z => mE_frz z

/-! ### tests -/
def asB (g : ME) : MT := fun l => (g l).bind fun d l1 => match d with | .bl b => .ok b l1 | _ => .stuck
theorem mT_asB {g : ME} {σ : L2.St} {H : Hp} {Q : Bool → Hp → Prop} (h : mT M E (asB g) σ H Q) : tTest (mE M E g) σ H Q := by
  obtain ⟨F, l, st, w⟩ := h
  refine ⟨F, l, st, (wR.bind w).mono fun d l1 F1 H1 g1 st1 w1 v rv => ?_⟩
  cases d with
  | bl b =>
    cases rv
    exact ⟨b, rfl, w1 F1 H1 (Gr.refl _ _ _ _) st1⟩
  | _ => exact w1.elim
theorem mt_cmp {op : CmpOp} {f : D → D → Option D} (ho : OpR X (compareOp op) (rD2 M.K f)) (ha : PE X a (mE M E ga)) (hb : PE X b (mE M E gb)) (hm : behindInMarks op b = false) : PT X (.Compare a [op] [b] pos) (mT M E (asB (bin2 f ga gb))) := by
  refine pt_imp (pt_cmpR ho ha hb hm) fun σ H Q h => ?_
  obtain ⟨F, l, st, w⟩ := mT_asB h
  exact mE_bin ⟨F, l, st, w⟩
def truD : D → Option Bool
  | .non => some false
  | .bl b => some b
  | .int i => some (i != 0)
  | .str y => if y.length ≤ sizeLine then some ((y.length : Int) != 0) else none
  | .scr ns => some !ns.isEmpty
  | .list xs => some !xs.isEmpty
  | .tup xs => some !xs.isEmpty
  | _ => none
def tru (g : ME) : MT := fun l => (g l).bind fun d l1 => Res.lift (truD d) l1
theorem Reps.isEmpty {K : PySem.W.Frag} {F : Hp} {vs : List V} {ds : List D} (r : Reps K F vs ds) : vs.isEmpty = ds.isEmpty := by cases r <;> rfl
theorem truD_ok {K : PySem.W.Frag} {F H : Hp} {v : V} {d : D} {k : Bool} (s : Same F H) (r : Rep K F v d) (h : truD d = some k) : TruV K v H k := by
  cases r with
  | non => cases h; rfl
  | bl b => cases h; rfl
  | int i => cases h; rfl
  | str x =>
    have h : (if x.length ≤ sizeLine then some ((x.length : Int) != 0) else none) = some k := h
    split at h
    · cases h
      exact ⟨by assumption, rfl⟩
    · cases h
  | scr q => cases h; exact .inl ⟨_, s.seq q, by rw [List.isEmpty_map]⟩
  | list q rs => cases h; exact .inl ⟨_, SqL.of (s _ _ q), by rw [rs.isEmpty]⟩
  | tup q rs => cases h; exact .inr (.inl ⟨_, seqT_same s q, by rw [rs.isEmpty]⟩)
  | ins q rs => cases h
  | cls c => cases h
  | dict q k rs n => cases h
theorem mt_truth {g : ME} (eK : X.K = M.K) (h : PE X e (mE M E g)) (he : ∀ whole, isTrue e X.env whole = (do let v ← whole; standAt e.pos; holding [v] (truthy v)) := by intro _; rfl) : PT X e (mT M E (tru g)) := by
  refine pt_imp (pt_truth h he) fun σ H Q z => ?_
  obtain ⟨F, l, st, w⟩ := z
  refine ⟨F, l, st, (wR.bind w).mono fun d l1 F1 H1 g1 st1 w1 v rv => ?_⟩
  cases hk : truD d with
  | none => rw [hk] at w1; exact w1.elim
  | some k =>
    rw [hk] at w1
    exact ⟨k, by rw [eK]; exact truD_ok st1.sub rv hk, w1 F1 H1 (Gr.refl _ _ _ _) st1⟩
def andT (a b : MT) : MT := fun l => (a l).bind fun c l1 => if c = true then b l1 else .ok false l1
def orT (a b : MT) : MT := fun l => (a l).bind fun c l1 => if c = true then .ok true l1 else b l1
def notT (a : MT) : MT := fun l => (a l).bind fun c l1 => .ok (!c) l1
section
variable {ta tb : MT} {rest : List Expr}
theorem pw_imp {t t' : TT} (h : PW X e t) (imp : ∀ σ H Q, t' σ H Q → t σ H Q) : PW X e t' := ⟨fun wh pins s σ H Q I z => h.run wh pins s σ H Q I (imp _ _ _ z)⟩
theorem mw_and1 (ha : PT X a (mT M E ta)) : PW X (.BoolOp .And [a] pos) (mT M E ta) := pw_and1 ha
theorem mw_or1 (ha : PT X a (mT M E ta)) : PW X (.BoolOp .Or [a] pos) (mT M E ta) := pw_or1 ha
theorem mw_and (ha : PT X a (mT M E ta)) (hb : PW X (.BoolOp .And (b :: rest) pos) (mT M E tb)) : PW X (.BoolOp .And (a :: b :: rest) pos) (mT M E (andT ta tb)) := by
  refine pw_imp (pw_and ha hb) fun σ H Q z => ?_
  obtain ⟨F, l, st, w⟩ := z
  refine ⟨F, l, st, (wR.bind w).mono fun c l1 F1 H1 g1 st1 w1 => ?_⟩
  cases c with
  | true => exact ⟨F1, l1, st1, w1⟩
  | false => exact w1 F1 H1 (Gr.refl _ _ _ _) st1
theorem mw_or (ha : PT X a (mT M E ta)) (hb : PW X (.BoolOp .Or (b :: rest) pos) (mT M E tb)) : PW X (.BoolOp .Or (a :: b :: rest) pos) (mT M E (orT ta tb)) := by
  refine pw_imp (pw_or ha hb) fun σ H Q z => ?_
  obtain ⟨F, l, st, w⟩ := z
  refine ⟨F, l, st, (wR.bind w).mono fun c l1 F1 H1 g1 st1 w1 => ?_⟩
  cases c with
  | false => exact ⟨F1, l1, st1, w1⟩
  | true => exact w1 F1 H1 (Gr.refl _ _ _ _) st1
theorem mt_not (ha : PT X a (mT M E ta)) : PT X (.UnaryOp .Not a pos) (mT M E (notT ta)) := by
  refine pt_imp (pt_not ha) fun σ H Q z => ?_
  obtain ⟨F, l, st, w⟩ := z
  exact ⟨F, l, st, (wR.bind w).mono fun c l1 F1 H1 g1 st1 w1 => w1 F1 H1 (Gr.refl _ _ _ _) st1⟩
/-! and, or, not as values (of truth values) -/
def andE (a b : ME) : ME := fun l => (asB a l).bind fun c l1 => if c = true then b l1 else .ok (.bl false) l1
def orE (a b : ME) : ME := fun l => (asB a l).bind fun c l1 => if c = true then .ok (.bl true) l1 else b l1
def notE (a : ME) : ME := fun l => (asB a l).bind fun c l1 => .ok (.bl !c) l1
theorem asB_bind {g : ME} {σ : L2.St} {F H : Hp} {l : Ld} {β : Type} {R : β → Ld → Hp → Hp → Prop} {k : Bool → Ld → Res β} (w : wR M E σ F H l R ((asB g l).bind k)) :
    wR M E σ F H l (fun d l1 F1 H1 => ∀ v, Rep M.K F1 v d → ∃ c, v = .bl c ∧ wR M E σ F1 H1 l1 R (k c l1)) (g l) := by
  unfold asB at w
  cases hg : g l with
  | stuck => rw [hg] at w; exact w
  | err c f d l' => rw [hg] at w; exact w
  | ok d l1 =>
    rw [hg] at w
    intro F' H' g' st' v rv
    cases d with
    | bl b => cases rv; exact ⟨b, rfl, wR.later g' w⟩
    | _ => exact w.elim
theorem me_one {op} (h : PE X a (mE M E ga)) : PE X (.BoolOp op [a] pos) (mE M E ga) := pe_one h
theorem me_and (ha : PE X a (mE M E ga)) (hb : PE X (.BoolOp .And (b :: rest) pos) (mE M E gb)) : PE X (.BoolOp .And (a :: b :: rest) pos) (mE M E (andE ga gb)) := by
  refine pe_imp (pe_and ha hb) fun σ H Q z => ?_
  obtain ⟨F, l, st, w⟩ := z
  refine ⟨F, l, st, (asB_bind w).mono fun d l1 F1 H1 g1 st1 w1 v rv => ?_⟩
  obtain ⟨c, rfl, w2⟩ := w1 v rv
  refine ⟨c, rfl, ?_⟩
  cases c with
  | true => exact ⟨F1, l1, st1, w2⟩
  | false => exact w2 F1 H1 (Gr.refl _ _ _ _) st1 _ (.bl false)
theorem me_or (ha : PE X a (mE M E ga)) (hb : PE X (.BoolOp .Or (b :: rest) pos) (mE M E gb)) : PE X (.BoolOp .Or (a :: b :: rest) pos) (mE M E (orE ga gb)) := by
  refine pe_imp (pe_or ha hb) fun σ H Q z => ?_
  obtain ⟨F, l, st, w⟩ := z
  refine ⟨F, l, st, (asB_bind w).mono fun d l1 F1 H1 g1 st1 w1 v rv => ?_⟩
  obtain ⟨c, rfl, w2⟩ := w1 v rv
  refine ⟨c, rfl, ?_⟩
  cases c with
  | false => exact ⟨F1, l1, st1, w2⟩
  | true => exact w2 F1 H1 (Gr.refl _ _ _ _) st1 _ (.bl true)
theorem me_not (ha : PE X a (mE M E ga)) : PE X (.UnaryOp .Not a pos) (mE M E (notE ga)) := by
  refine pe_imp (pe_not ha) fun σ H Q z => ?_
  obtain ⟨F, l, st, w⟩ := z
  refine ⟨F, l, st, (asB_bind w).mono fun d l1 F1 H1 g1 st1 w1 v rv => ?_⟩
  obtain ⟨c, rfl, w2⟩ := w1 v rv
  exact ⟨c, rfl, w2 F1 H1 (Gr.refl _ _ _ _) st1 _ (.bl _)⟩
def ifE (t : MT) (a b : ME) : ME := fun l => (t l).bind fun c l1 => if c = true then a l1 else b l1
theorem me_if {c : Expr} (hc : PT X c (mT M E ta)) (ha : PE X a (mE M E ga)) (hb : PE X b (mE M E gb)) : PE X (.IfExp c a b pos) (mE M E (ifE ta ga gb)) := by
  refine pe_imp (pe_ifExp hc ha hb) fun σ H Q z => ?_
  obtain ⟨F, l, st, w⟩ := z
  refine ⟨F, l, st, (wR.bind w).mono fun c l1 F1 H1 g1 st1 w1 => ?_⟩
  cases c with
  | true => exact ⟨F1, l1, st1, w1⟩
  | false => exact ⟨F1, l1, st1, w1⟩
end
/-! a < b < c -/
def chn (f g : D → D → Option D) (a b c : ME) : ME := fun l => (a l).bind fun d l1 => (b l1).bind fun e l2 => match f d e with
  | some (.bl true) => (c l2).bind fun h l3 => Res.lift (g e h) l3
  | some (.bl false) => .ok (.bl false) l2
  | _ => .stuck
theorem mE_chn {f g : D → D → Option D} {σ : L2.St} {H : Hp} {Q : VK} (h : mE M E (chn f g ga gb gc) σ H Q) : tChain (rD2 M.K f) (rD2 M.K g) (mE M E ga) (mE M E gb) (mE M E gc) σ H Q := by
  obtain ⟨F, l, st, w⟩ := h
  refine ⟨F, l, st, (wR.bind w).mono fun d l1 F1 H1 g1 st1 w1 v rv => ?_⟩
  refine ⟨F1, l1, st1, (wR.bind w1).mono fun e l2 F2 H2 g2 st2 w2 u ru => ?_⟩
  cases hf : f d e with
  | none => rw [hf] at w2; exact w2.elim
  | some r =>
    rw [hf] at w2
    refine ⟨F2, d, e, r, st2.sub, rv.up g2.ext, ru, hf, fun z F' H' nw rr => ?_⟩
    cases r with
    | bl k =>
      cases rr
      refine ⟨k, rfl, ?_⟩
      have st3 := st2.new nw
      cases k with
      | true =>
        have w3 := wR.later (st2.gr nw) w2
        refine ⟨F', l2, st3, (wR.bind w3).mono fun h l4 F4 H4 g4 st4 w4 x rx => ?_⟩
        cases hg : g e h with
        | none => rw [hg] at w4; exact w4.elim
        | some r =>
          rw [hg] at w4
          exact ⟨F4, e, h, r, st4.sub, (ru.up nw.f).up g4.ext, rx, hg, fun v F' H' nw rr => st4.give w4 nw v rr⟩
      | false => exact w2 F' H' (st2.gr nw) st3 _ (.bl false)
    | _ => exact w2.elim
end
end Sb

namespace Sb
open PySem PySem.Spec PyProof.Rows L2

/-! ### lists of values -/
def mV (M : MC) (E : L2.St → XK) (g : ML) : TA := fun σ H Q => ∃ F l, StM M F σ H l ∧ wR M E σ F H l (fun ds _ F' H' => ∀ vs, Reps M.K F' vs ds → Q vs H') (g l)
def vNil : ML := fun l => .ok [] l
def vCons (a : ME) (b : ML) : ML := fun l => (a l).bind fun d l1 => (b l1).bind fun ds l2 => .ok (d :: ds) l2
section
variable {X : Cx} {M : MC} {E : L2.St → XK} {a b e : Expr} {es : List Expr} {ga gb gc : ME} {gl gm : ML} {pos p : Pos}
theorem pa_imp {t t' : TA} (h : PA X es t) (imp : ∀ σ H Q, t' σ H Q → t σ H Q) : PA X es t' := ⟨fun pos pins s σ H Q I z => h.run pos pins s σ H Q I (imp _ _ _ z)⟩
theorem mv_nil : PA X [] (mV M E vNil) := pa_imp pa_nil fun σ H Q z => by
  obtain ⟨F, l, st, w⟩ := z
  exact w F H (Gr.refl _ _ _ _) st [] .nil
theorem mv_cons (ha : PE X e (mE M E ga)) (hr : PA X es (mV M E gl)) (hs : starEach (e :: es) X.env = (false, eval e X.env) :: starEach es X.env := by rfl) : PA X (e :: es) (mV M E (vCons ga gl)) :=
  pa_imp (pa_cons ha hr hs) fun σ H Q z => by
    obtain ⟨F, l, st, w⟩ := z
    refine ⟨F, l, st, (wR.bind w).mono fun d l1 F1 H1 g1 st1 w1 v rv => ?_⟩
    refine ⟨F1, l1, st1, (wR.bind w1).mono fun ds l2 F2 H2 g2 st2 w2 vs rs => ?_⟩
    exact w2 F2 H2 (Gr.refl _ _ _ _) st2 _ (.cons (rv.up g2.ext) rs)
/-! displays -/
def tupE (g : ML) : ME := fun l => (g l).bind fun ds l1 => if ds.length ≤ sizeLine then .ok (.tup ds) l1 else .stuck
def lstL (g : ML) : ML := fun l => (g l).bind fun ds l1 => if ds.length ≤ sizeLine then .ok ds l1 else .stuck
theorem me_tup {x1} (h : PA X es (mV M E gl)) : PE X (.Tuple es x1 pos) (mE M E (tupE gl)) := pe_imp (pe_tup h) fun σ H Q z => by
  obtain ⟨F, l, st, w⟩ := z
  refine ⟨F, l, st, (wR.bind w).mono fun ds l1 F1 H1 g1 st1 w1 vs rs => ?_⟩
  split at w1
  · rename_i hz
    refine ⟨by rw [rs.length]; exact hz, fun p np => ?_⟩
    have nw := Nw.add (o := .tup vs) st1.sub np
    exact st1.give w1 nw _ (.tup (SqT.of upd_same) (rs.up nw.f))
  · exact w1.elim
theorem ml_lst (h : PA X es (mV M E gl)) : PE X (.List es pos) (mL M E (lstL gl)) := pe_imp (pe_lst h) fun σ H Q z => by
  obtain ⟨F, l, st, w⟩ := z
  refine ⟨F, l, st, (wR.bind w).mono fun ds l1 F1 H1 g1 st1 w1 vs rs => ?_⟩
  split at w1
  · rename_i hz
    refine ⟨by rw [rs.length]; exact hz, fun p np => ?_⟩
    have nw := Nw.beside (o := .lst vs) st1.sub np
    refine w1 F1 _ (st1.gr nw) (st1.new nw) p vs upd_same (st1.sub.free np) (st1.domH p np) (g1.dom _ np) (fun o => ?_) rs
    obtain ⟨⟨ws, z⟩, _⟩ := st1.ownH o
    rw [np] at z
    cases z
  · exact w1.elim
/-! built-ins called -/
def calB (f : List D → Option D) (g : ML) : ME := fun l => (g l).bind fun ds l1 => Res.lift (f ds) l1
def calL (f : List D → Option (List D)) (g : ML) : ML := fun l => (g l).bind fun ds l1 => Res.lift (f ds) l1
theorem mE_calB {f : List D → Option D} {σ : L2.St} {H : Hp} {Q : VK} (h : mE M E (calB f gl) σ H Q) : tCB (rDn M.K f) (mV M E gl) σ H Q := by
  obtain ⟨F, l, st, w⟩ := h
  refine ⟨F, l, st, (wR.bind w).mono fun ds l1 F1 H1 g1 st1 w1 vs rs => ?_⟩
  cases hf : f ds with
  | none => rw [hf] at w1; exact w1.elim
  | some r =>
    rw [hf] at w1
    exact ⟨F1, ds, r, st1.sub, rs, hf, fun v F' H' nw rr => st1.give w1 nw v rr⟩
theorem mL_calL {f : List D → Option (List D)} {σ : L2.St} {H : Hp} {Q : VK} (h : mL M E (calL f gl) σ H Q) : tCB (rDnL M.K f) (mV M E gl) σ H Q := by
  obtain ⟨F, l, st, w⟩ := h
  refine ⟨F, l, st, (wR.bind w).mono fun ds l1 F1 H1 g1 st1 w1 vs rs => ?_⟩
  cases hf : f ds with
  | none => rw [hf] at w1; exact w1.elim
  | some r =>
    rw [hf] at w1
    refine ⟨F1, ds, r, st1.sub, rs, hf, fun p vs np rr => ?_⟩
    have nw := Nw.beside (o := .lst vs) st1.sub np
    refine w1 F1 _ (st1.gr nw) (st1.new nw) p vs upd_same (st1.sub.free np) (st1.domH p np) (g1.dom _ np) (fun o => ?_) rr
    obtain ⟨⟨ws, z⟩, _⟩ := st1.ownH o
    rw [np] at z
    cases z
theorem me_callB {id : String} {x : Str} {f : List D → Option D} (hc : CallR X (.builtin id) (rDn M.K f)) (hg : Gl X x) (hm : X.mg x = none) (hv : bootBuiltins x = some (.builtin id)) (ha : PA X (e :: es) (mV M E gl)) (hn : x ≠ "__name__" := by decide) (hdb : (x == ("__debug__" : Str)) = false := by decide)
    (he : starEach (e :: es) X.env = (false, eval e X.env) :: starEach es X.env := by rfl) (hpl : (backTo pos (starEach es X.env)).any (·.1) = false := by rfl) : PE X (.Call (.Name x p) (e :: es) [] pos) (mE M E (calB f gl)) :=
  pe_imp (pe_callB hc hg hm hv ha hn hdb he hpl) fun _ _ _ z => mE_calB z
theorem me_callTy {T : String} {x : Str} {f : List D → Option D} (hc : CallR X (.type T) (rDn M.K f)) (hg : Gl X x) (hm : X.mg x = none) (hv : bootBuiltins x = some (.type T)) (ha : PA X (e :: es) (mV M E gl)) (hn : x ≠ "__name__" := by decide) (hdb : (x == ("__debug__" : Str)) = false := by decide)
    (he : starEach (e :: es) X.env = (false, eval e X.env) :: starEach es X.env := by rfl) (hpl : (backTo pos (starEach es X.env)).any (·.1) = false := by rfl) : PE X (.Call (.Name x p) (e :: es) [] pos) (mE M E (calB f gl)) :=
  pe_imp (pe_callTy hc hg hm hv ha hn hdb he hpl) fun _ _ _ z => mE_calB z
theorem ml_callTy {T : String} {x : Str} {f : List D → Option (List D)} (hc : CallR X (.type T) (rDnL M.K f)) (hg : Gl X x) (hm : X.mg x = none) (hv : bootBuiltins x = some (.type T)) (ha : PA X (e :: es) (mV M E gl)) (hn : x ≠ "__name__" := by decide) (hdb : (x == ("__debug__" : Str)) = false := by decide)
    (he : starEach (e :: es) X.env = (false, eval e X.env) :: starEach es X.env := by rfl) (hpl : (backTo pos (starEach es X.env)).any (·.1) = false := by rfl) : PE X (.Call (.Name x p) (e :: es) [] pos) (mL M E (calL f gl)) :=
  pe_imp (pe_callTy hc hg hm hv ha hn hdb he hpl) fun _ _ _ z => mL_calL z
/-! subscripts -/
def ixD : D → D → Option D
  | .list xs, .int i => atI xs i
  | .tup xs, .int i => atI xs i
  | .scr ns, .int i => (atI ns i).map .int
  | .str z, .int i => if z.length ≤ sizeLine then (atI z.cps.toList i).map fun c => .str ⟨#[c]⟩ else none
  | _, _ => none
theorem atI_map {α β : Type} (f : α → β) (xs : List α) (i : Int) : atI (xs.map f) i = (atI xs i).map f := by
  unfold atI
  rw [List.length_map]
  cases ixN xs.length i with
  | none => rfl
  | some j => exact List.getElem?_map
theorem ixD_ok {K : PySem.W.Frag} {F H : Hp} {x y : V} {d e r : D} {Q : VK} (s : Same F H) (rx : Rep K F x d) (ry : Rep K F y e) (h : ixD d e = some r) (q : ∀ v, Rep K F v r → Q v H) : rIx K x y H Q := by
  cases ry with
  | int i =>
    cases rx with
    | list hl rs =>
      obtain ⟨v, e1, rv⟩ := rs.at_ h
      exact .inl ⟨_, _, i, v, rfl, rfl, SqL.of (s _ _ hl), e1, q v rv⟩
    | tup hl rs =>
      obtain ⟨v, e1, rv⟩ := rs.at_ h
      exact .inr (.inl ⟨_, _, i, v, rfl, rfl, seqT_same s hl, e1, q v rv⟩)
    | scr hl =>
      obtain ⟨n, e1, rfl⟩ := Option.map_eq_some_iff.mp h
      exact .inl ⟨_, _, i, .int n, rfl, rfl, s.seq hl, by rw [atI_map, e1]; rfl, q _ (.int n)⟩
    | str z =>
      have h : (if z.length ≤ sizeLine then (atI z.cps.toList i).map fun c => D.str ⟨#[c]⟩ else none) = some r := h
      split at h
      · rename_i hz
        obtain ⟨c, e1, rfl⟩ := Option.map_eq_some_iff.mp h
        exact .inr (.inr ⟨z, i, c, rfl, rfl, hz, e1, q _ (.str _)⟩)
      · cases h
    | _ => cases h
  | _ => cases rx <;> cases h
theorem me_ix (eK : X.K = M.K) (ha : PE X a (mE M E ga)) (hb : PE X b (mE M E gb)) (hs : PlainIx b := by exact fun _ _ => rfl) : PE X (.Subscript a b pos) (mE M E (bin2 ixD ga gb)) :=
  pe_imp (pe_ix ix_seq ha hb hs) fun σ H Q z => by
    obtain ⟨F, l, st, w⟩ := z
    refine ⟨F, l, st, (wR.bind w).mono fun d l1 F1 H1 g1 st1 w1 v rv => ?_⟩
    refine ⟨F1, l1, st1, (wR.bind w1).mono fun e l2 F2 H2 g2 st2 w2 u ru => ?_⟩
    cases hf : ixD d e with
    | none => rw [hf] at w2; exact w2.elim
    | some r =>
      rw [hf] at w2
      rw [eK]
      exact ixD_ok st2.sub (rv.up g2.ext) ru hf fun v rv => w2 F2 H2 (Gr.refl _ _ _ _) st2 v rv
def has? (i : Nat) (l : Ld) : Bool := match l[i]? with | some (some _) => true | _ => false
theorem has_some {i : Nat} {l : Ld} (h : has? i l = true) : ∃ s, l[i]? = some (some s) := by
  unfold has? at h
  split at h
  · exact ⟨_, by assumption⟩
  · cases h
def ixSl (i : Nat) (b : ME) : ME := fun l => if has? i l = true then (b l).bind fun e l2 => match l2[i]? with
  | some (some s) => Res.lift (ixD s.toD e) l2
  | _ => .stuck else .stuck
theorem StM.peek {σ : L2.St} {F H : Hp} {l : Ld} {i : Nat} {s : Sl} {v : V} (st : StM M F σ H l) (e : l[i]? = some (some s)) (ev : σ[i]? = some (some v)) : ∃ F', Same F F' ∧ Same F' H ∧ Rep M.K F' v s.toD := by
  obtain ⟨u, eu, ok⟩ := st.slot i _ e
  rw [ev] at eu
  cases eu
  cases s with
  | fr d => exact ⟨F, Same.refl _, st.sub, ok⟩
  | ow xs =>
    obtain ⟨p, vs, rfl, hp, fp, rs, _⟩ := ok
    have ext : Same F (upd F p vs) := new_same fp
    refine ⟨upd F p vs, ext, ?_, (rs.up ext).rep upd_same⟩
    intro b x z
    by_cases hb : b = p
    · subst hb
      rw [upd_same] at z
      cases z
      exact hp
    · rw [upd_ne hb] at z
      exact st.sub _ _ z
theorem ixS_ok {σ : L2.St} {F H : Hp} {l : Ld} {i : Nat} {s : Sl} {v y : V} {e r : D} {Q : VK} (st : StM M F σ H l) (hl : l[i]? = some (some s)) (ev : σ[i]? = some (some v)) (ry : Rep M.K F y e) (h : ixD s.toD e = some r) (q : ∀ v, Rep M.K F v r → Q v H) : rIx M.K v y H Q := by
  obtain ⟨u, eu, ok⟩ := st.slot i _ hl
  rw [ev] at eu
  cases eu
  cases s with
  | fr d => exact ixD_ok st.sub ok ry h q
  | ow xs =>
    obtain ⟨p, vs, rfl, hp, fp, rs, _⟩ := ok
    cases xs with
    | lst xs =>
      obtain ⟨vs, rfl, rs⟩ := rs
      cases ry with
      | int j =>
        obtain ⟨v, e1, rv⟩ := rs.at_ h
        exact .inl ⟨_, _, j, v, rfl, rfl, SqL.of hp, e1, q v rv⟩
      | _ => cases h
    | ins c fs => cases ry <;> cases h
    | dct w kvs => cases ry <;> cases h
theorem me_ixS {i : Nat} {x : Str} {p' : Pos} (eK : X.K = M.K) (hN : X.N[i]? = some x) (hv : Vis X.env.scope x) (hb : PE X b (mE M E gb)) (hs : PlainIx b := by exact fun _ _ => rfl) (hd : (x == ("__debug__" : Str)) = false := by decide) (hcd : (x == ("__classdict__" : Str)) = false := by decide)
    : PE X (.Subscript (.Name x p') b pos) (mE M E (ixSl i gb)) :=
  pe_imp (pe_ix ix_seq (pe_var hN hv hd hcd) hb hs) fun σ H Q z => by
    obtain ⟨F, l, st, w⟩ := z
    unfold ixSl at w
    split at w
    · rename_i hh
      obtain ⟨s, hl⟩ := has_some hh
      obtain ⟨v, ev, _⟩ := st.slot i s hl
      refine ⟨v, ev, F, l, st, (wR.bind w).mono fun e l2 F2 H2 g2 st2 w2 u ru => ?_⟩
      split at w2
      · rename_i s2 hl2
        cases hf : ixD s2.toD e with
        | none => rw [hf] at w2; exact w2.elim
        | some r =>
          rw [hf] at w2
          rw [eK]
          exact ixS_ok st2 hl2 ev ru hf fun v rv => w2 F2 H2 (Gr.refl _ _ _ _) st2 v rv
      · exact w2.elim
    · exact w.elim
/-! len of a slot -/
def lenD : D → Option Nat
  | .list xs => some xs.length
  | .tup xs => some xs.length
  | .scr ns => some ns.length
  | .str z => if z.length ≤ sizeLine then some z.length else none
  | _ => none
def lenSl (i : Nat) : ME := fun l => match l[i]? with
  | some (some s) => Res.lift ((lenD s.toD).map fun n => .int n) l
  | _ => .stuck
theorem lenD_ok {K : PySem.W.Frag} {F H : Hp} {v : V} {d : D} {n : Nat} (s : Same F H) (r : Rep K F v d) (h : lenD d = some n) : LenV K v H n := by
  cases r with
  | list hl rs => cases h; exact .inl ⟨_, SqL.of (s _ _ hl), rs.length.symm⟩
  | tup hl rs => cases h; exact .inr ⟨_, seqT_same s hl, rs.length.symm⟩
  | scr hl => cases h; exact .inl ⟨_, s.seq hl, (List.length_map _).symm⟩
  | str z =>
    have h : (if z.length ≤ sizeLine then some z.length else none) = some n := h
    split at h
    · cases h
      exact ⟨by assumption, rfl⟩
    · cases h
  | _ => cases h
theorem me_lenS {i : Nat} {x : Str} {p' : Pos} (eK : X.K = M.K) (hN : X.N[i]? = some x) (hv : Vis X.env.scope x) (hg : Gl X "len") (hm : X.mg "len" = none) (hd : (x == ("__debug__" : Str)) = false := by decide) (hcd : (x == ("__classdict__" : Str)) = false := by decide)
    (he : starEach [(.Name x p' : Expr)] X.env = (false, eval (.Name x p') X.env) :: starEach [] X.env := by rfl) (hpl : (backTo pos (starEach [] X.env)).any (·.1) = false := by rfl) :
    PE X (.Call (.Name "len" p) [.Name x p'] [] pos) (mE M E (lenSl i)) :=
  pe_imp (pe_callB call_len hg hm PySem.boot_len (pa_cons (pe_var hN hv hd hcd) pa_nil he) (by decide) (by decide) he hpl) fun σ H Q z => by
    obtain ⟨F, l, st, w⟩ := z
    unfold lenSl at w
    split at w
    · rename_i s hl
      obtain ⟨v, ev, _⟩ := st.slot i s hl
      obtain ⟨F', e1, e2, rp⟩ := st.peek hl ev
      cases hn : lenD s.toD with
      | none => rw [hn] at w; exact w.elim
      | some n =>
        rw [hn] at w
        refine ⟨v, ev, v, n, rfl, ?_, w F H (Gr.refl _ _ _ _) st _ (.int n)⟩
        rw [eK]
        exact lenD_ok e2 rp hn
    · exact w.elim
/-! truth of a slot -/
def truSl (i : Nat) : MT := fun l => match l[i]? with
  | some (some s) => Res.lift (truD s.toD) l
  | _ => .stuck
theorem mt_truS {i : Nat} {x : Str} {p' : Pos} (eK : X.K = M.K) (hN : X.N[i]? = some x) (hv : Vis X.env.scope x) (hd : (x == ("__debug__" : Str)) = false := by decide) (hcd : (x == ("__classdict__" : Str)) = false := by decide)
    (he : ∀ whole, isTrue (.Name x p') X.env whole = (do let v ← whole; standAt (Expr.Name x p').pos; holding [v] (truthy v)) := by intro _; rfl) : PT X (.Name x p') (mT M E (truSl i)) := by
  refine pt_imp (pt_truth (pe_var hN hv hd hcd) he) fun σ H Q z => ?_
  obtain ⟨F, l, st, w⟩ := z
  unfold truSl at w
  split at w
  · rename_i s hl
    obtain ⟨v, ev, _⟩ := st.slot i s hl
    obtain ⟨F', e1, e2, rp⟩ := st.peek hl ev
    cases hn : truD s.toD with
    | none => rw [hn] at w; exact w.elim
    | some k =>
      rw [hn] at w
      exact ⟨v, ev, k, by rw [eK]; exact truD_ok e2 rp hn, w F H (Gr.refl _ _ _ _) st⟩
  · exact w.elim
end

/-! ### arguments of defs -/
inductive Arg where
  | sl (i : Nat) | val (d : D)
abbrev MA := Ld → Res (List Arg)
def ArgR (K : PySem.W.Frag) (F : Hp) (σ : L2.St) (v : V) : Arg → Prop
  | .sl i => σ[i]? = some (some v)
  | .val d => Rep K F v d
abbrev ArgsR (K : PySem.W.Frag) (F : Hp) (σ : L2.St) : List V → List Arg → Prop := Paired (ArgR K F σ)
theorem ArgsR.up {K : PySem.W.Frag} {F F' : Hp} {σ : L2.St} (e : Same F F') : ∀ {vs : List V} {as : List Arg}, ArgsR K F σ vs as → ArgsR K F' σ vs as
  | _, _, .nil => .nil
  | _, _, .cons (b := a) r t => .cons (by
      cases a with
      | sl i => exact r
      | val d => exact Rep.up (show Rep K F _ d from r) e) (ArgsR.up e t)
def mA (M : MC) (E : L2.St → XK) (g : MA) : TA := fun σ H Q => ∃ F l, StM M F σ H l ∧ wR M E σ F H l (fun as _ F' H' => ∀ vs, ArgsR M.K F' σ vs as → Q vs H') (g l)
def aNil : MA := fun l => .ok [] l
def aVal (g : ME) (h : MA) : MA := fun l => (g l).bind fun d l1 => (h l1).bind fun as l2 => .ok (.val d :: as) l2
def aSl (i : Nat) (h : MA) : MA := fun l => if has? i l = true then (h l).bind fun as l2 => .ok (.sl i :: as) l2 else .stuck
section
variable {X : Cx} {M : MC} {E : L2.St → XK} {a b e : Expr} {es : List Expr} {ga gb gc : ME} {gl gm : ML} {gA : MA} {pos p : Pos}
theorem ma_nil : PA X [] (mA M E aNil) := pa_imp pa_nil fun σ H Q z => by
  obtain ⟨F, l, st, w⟩ := z
  exact w F H (Gr.refl _ _ _ _) st [] .nil
theorem ma_val (ha : PE X e (mE M E ga)) (hr : PA X es (mA M E gA)) (hs : starEach (e :: es) X.env = (false, eval e X.env) :: starEach es X.env := by rfl) : PA X (e :: es) (mA M E (aVal ga gA)) :=
  pa_imp (pa_cons ha hr hs) fun σ H Q z => by
    obtain ⟨F, l, st, w⟩ := z
    refine ⟨F, l, st, (wR.bind w).mono fun d l1 F1 H1 g1 st1 w1 v rv => ?_⟩
    refine ⟨F1, l1, st1, (wR.bind w1).mono fun ds l2 F2 H2 g2 st2 w2 vs rs => ?_⟩
    exact w2 F2 H2 (Gr.refl _ _ _ _) st2 _ (.cons (rv.up g2.ext) rs)
theorem ma_sl {i : Nat} {x : Str} {p' : Pos} (hN : X.N[i]? = some x) (hv : Vis X.env.scope x) (hr : PA X es (mA M E gA)) (hd : (x == ("__debug__" : Str)) = false := by decide) (hcd : (x == ("__classdict__" : Str)) = false := by decide)
    (hs : starEach (.Name x p' :: es) X.env = (false, eval (.Name x p') X.env) :: starEach es X.env := by rfl) : PA X (.Name x p' :: es) (mA M E (aSl i gA)) :=
  pa_imp (pa_cons (pe_var hN hv hd hcd) hr hs) fun σ H Q z => by
    obtain ⟨F, l, st, w⟩ := z
    unfold aSl at w
    split at w
    · rename_i hh
      obtain ⟨s, hl⟩ := has_some hh
      obtain ⟨v, ev, _⟩ := st.slot i s hl
      refine ⟨v, ev, F, l, st, (wR.bind w).mono fun ds l2 F2 H2 g2 st2 w2 vs rs => ?_⟩
      exact w2 F2 H2 (Gr.refl _ _ _ _) st2 _ (.cons ev rs)
    · exact w.elim
end
end Sb

namespace Sb
open PySem PySem.Spec PyProof.Rows L2

/-! ### contracts by mirrors -/
inductive FRes where
  | ok (r : Sl) (as : List Sl)
  | err (c f : Str) (d : D) (as : List Sl)
  | stuck
abbrev MF := List Sl → FRes
def ArgOk (K : PySem.W.Frag) (F H : Hp) (v : V) : Sl → Prop
  | .fr d => Rep K F v d
  | .ow xs => ∃ p vs, v = .ref p ∧ H p = some vs ∧ F p = none ∧ OwH K F p vs xs
structure ArgsOk (K : PySem.W.Frag) (F H : Hp) (vs : List V) (ss : List Sl) : Prop where
  len : vs.length = ss.length
  at_ : ∀ (i : Nat) (s : Sl), ss[i]? = some s → ∃ v, vs[i]? = some v ∧ ArgOk K F H v s
  inj : ∀ (i j : Nat) (xs ys : O) (v : V), ss[i]? = some (.ow xs) → ss[j]? = some (.ow ys) → vs[i]? = some v → vs[j]? = some v → i = j
def OwnA (vs : List V) (ss : List Sl) (p : Addr) : Prop := ∃ (i : Nat) (xs : O), ss[i]? = some (.ow xs) ∧ vs[i]? = some (.ref p)
structure After (K : PySem.W.Frag) (F H F' H' : Hp) (vs : List V) (ss ss' : List Sl) : Prop where
  ext : Same F F'
  sub : Same F' H'
  frn : ∀ p o, H p = some o → F p = none → ¬ OwnA vs ss p → F' p = none ∧ H' p = some o
  dom : ∀ a, H' a = none → H a = none
  at_ : ∀ (i : Nat) (s' : Sl) (xs : O), ss'[i]? = some s' → ss[i]? = some (.ow xs) → ∃ v, vs[i]? = some v ∧ ArgOk K F' H' v s'
  fr : ∀ (i : Nat) (d : D), ss[i]? = some (.fr d) → ss'[i]? = some (.fr d)
def RetA (K : PySem.W.Frag) (H F' H' : Hp) (v : V) : Sl → Prop
  | .fr d => Rep K F' v d
  | .ow xs => ∃ p vs, v = .ref p ∧ H' p = some vs ∧ F' p = none ∧ H p = none ∧ OwH K F' p vs xs
def wF (K : PySem.W.Frag) (F H : Hp) (vs : List V) (ss : List Sl) (Q : VK) (E : XK) : FRes → Prop
  | .ok r ss' => ∀ v F' H', After K F H F' H' vs ss ss' → RetA K H F' H' v r → Q v H'
  | .err c f d ss' => ∀ v dd F' H', After K F H F' H' vs ss ss' → H' dd = some (.xd [(f, v)]) → F' dd = none → H dd = none → Rep K F' v d → E (.ref (He.ga K c)) (some dd) H'
  | .stuck => False
def spM (K : PySem.W.Frag) (n : Nat) (m : MF) : Sp := fun vs H Q E => ∃ F ss, ss.length = n ∧ Same F H ∧ ArgsOk K F H vs ss ∧ wF K F H vs ss Q E (m ss)

/-! ### a call -/
def resolve (l : Ld) : List Arg → Option (List Sl)
  | [] => some []
  | .sl i :: as => match l[i]? with
    | some (some s) => (resolve l as).map (s :: ·)
    | _ => none
  | .val d :: as => (resolve l as).map (.fr d :: ·)
def putA : List Arg → List Sl → Ld → Ld
  | .sl i :: as, s :: ss, l => putA as ss (l.set i (some s))
  | .val _ :: as, _ :: ss, l => putA as ss l
  | _, _, l => l
def slotsOf : List Arg → List Nat
  | [] => []
  | .sl i :: as => i :: slotsOf as
  | .val _ :: as => slotsOf as
theorem putA_len : ∀ (as : List Arg) (ss : List Sl) (l : Ld), (putA as ss l).length = l.length
  | .sl i :: as, s :: ss, l => by
    show (putA as ss (l.set i (some s))).length = _
    rw [putA_len as ss, List.length_set]
  | .val _ :: as, _ :: ss, l => putA_len as ss l
  | [], _, _ => by rw [putA]
                   all_goals intros; contradiction
  | .sl _ :: _, [], _ => by rw [putA]
                            all_goals intros; contradiction
  | .val _ :: _, [], _ => by rw [putA]
                             all_goals intros; contradiction
theorem putA_get {j : Nat} {s : Sl} : ∀ (as : List Arg) (ss : List Sl) (l : Ld), as.length = ss.length → (putA as ss l)[j]? = some (some s) →
    (∃ k : Nat, as[k]? = some (.sl j) ∧ ss[k]? = some s) ∨ ((∀ k : Nat, as[k]? ≠ some (.sl j)) ∧ l[j]? = some (some s))
  | .sl i :: as, s0 :: ss, l, n, h => by
    have h : (putA as ss (l.set i (some s0)))[j]? = some (some s) := h
    rcases putA_get as ss _ (by simpa using n) h with ⟨k, a, b⟩ | ⟨no, b⟩
    · exact .inl ⟨k + 1, by simpa using a, by simpa using b⟩
    · rcases get_set b with ⟨rfl, q⟩ | ⟨ne, q⟩
      · cases q
        exact .inl ⟨0, rfl, rfl⟩
      · refine .inr ⟨fun k => ?_, q⟩
        cases k with
        | zero => simpa using ne
        | succ k => simpa using no k
  | .val d :: as, s0 :: ss, l, n, h => by
    have h : (putA as ss l)[j]? = some (some s) := h
    rcases putA_get as ss _ (by simpa using n) h with ⟨k, a, b⟩ | ⟨no, b⟩
    · exact .inl ⟨k + 1, by simpa using a, by simpa using b⟩
    · refine .inr ⟨fun k => ?_, b⟩
      cases k with
      | zero => simp
      | succ k => simpa using no k
  | [], [], l, _, h => .inr ⟨by simp, by rw [putA] at h; exact h; all_goals intros; contradiction⟩
theorem resolve_len {l : Ld} : ∀ {as : List Arg} {ss : List Sl}, resolve l as = some ss → ss.length = as.length
  | [], _, h => by cases h; rfl
  | .sl i :: as, ss, h => by
    unfold resolve at h
    split at h
    · obtain ⟨r, e, rfl⟩ := Option.map_eq_some_iff.mp h
      exact congrArg (· + 1) (resolve_len e)
    · cases h
  | .val d :: as, ss, h => by
    obtain ⟨r, e, rfl⟩ := Option.map_eq_some_iff.mp (show (resolve l as).map (.fr d :: ·) = some ss from h)
    exact congrArg (· + 1) (resolve_len e)
theorem resolve_get {l : Ld} : ∀ {as : List Arg} {ss : List Sl} {k : Nat} {s : Sl}, resolve l as = some ss → ss[k]? = some s → (∃ i : Nat, as[k]? = some (.sl i) ∧ l[i]? = some (some s)) ∨ ∃ d, as[k]? = some (.val d) ∧ s = .fr d
  | [], _, _, _, h, e => by cases h; simp at e
  | .sl i :: as, ss, k, s, h, e => by
    unfold resolve at h
    split at h
    · rename_i s1 hl
      obtain ⟨r, e1, rfl⟩ := Option.map_eq_some_iff.mp h
      cases k with
      | zero => cases e; exact .inl ⟨i, rfl, hl⟩
      | succ k => simpa using resolve_get (k := k) (s := s) e1 (by simpa using e)
    · cases h
  | .val d :: as, ss, k, s, h, e => by
    obtain ⟨r, e1, rfl⟩ := Option.map_eq_some_iff.mp (show (resolve l as).map (.fr d :: ·) = some ss from h)
    cases k with
    | zero => cases e; exact .inr ⟨d, rfl, rfl⟩
    | succ k => simpa using resolve_get (k := k) (s := s) e1 (by simpa using e)
theorem slots_uniq : ∀ {as : List Arg} {i j k : Nat}, (slotsOf as).Nodup → as[i]? = some (.sl k) → as[j]? = some (.sl k) → i = j := by
  intro as
  have mem : ∀ (as : List Arg) (i k : Nat), as[i]? = some (.sl k) → k ∈ slotsOf as := by
    intro as
    induction as with
    | nil => intro i k h; simp at h
    | cons a as ih =>
      intro i k h
      cases i with
      | zero =>
        cases h
        exact List.mem_cons_self
      | succ i =>
        have := ih i k (by simpa using h)
        cases a with
        | sl m => exact List.mem_cons_of_mem _ this
        | val d => exact this
  induction as with
  | nil => intro i j k _ h; simp at h
  | cons a as ih =>
    intro i j k nd hi hj
    cases a with
    | sl m =>
      obtain ⟨n1, n2⟩ := List.nodup_cons.mp (show (m :: slotsOf as).Nodup from nd)
      cases i with
      | zero =>
        cases j with
        | zero => rfl
        | succ j =>
          cases hi
          exact (n1 (mem as j k (by simpa using hj))).elim
      | succ i =>
        cases j with
        | zero =>
          cases hj
          exact (n1 (mem as i k (by simpa using hi))).elim
        | succ j => exact congrArg (· + 1) (ih n2 (by simpa using hi) (by simpa using hj))
    | val d =>
      cases i with
      | zero => simp at hi
      | succ i =>
        cases j with
        | zero => simp at hj
        | succ j => exact congrArg (· + 1) (ih (show (slotsOf as).Nodup from nd) (by simpa using hi) (by simpa using hj))
theorem paired_get {α β : Type} {R : α → β → Prop} : ∀ {xs : List α} {ys : List β} {i : Nat} {y : β}, Paired R xs ys → ys[i]? = some y → ∃ x, xs[i]? = some x ∧ R x y
  | _, _, _, _, .nil, e => by simp at e
  | _, _, 0, _, .cons r _, e => by simp at e; subst e; exact ⟨_, rfl, r⟩
  | _, _, i + 1, y, .cons _ t, e => by
    obtain ⟨u, h1, h2⟩ := paired_get (i := i) (y := y) t (by simpa using e)
    exact ⟨u, by simpa using h1, h2⟩
theorem paired_len {α β : Type} {R : α → β → Prop} : ∀ {xs : List α} {ys : List β}, Paired R xs ys → xs.length = ys.length
  | _, _, .nil => rfl
  | _, _, .cons _ t => congrArg (· + 1) (paired_len t)

section
variable {M : MC} {σ : L2.St} {F H F' H' : Hp} {l : Ld} {as : List Arg} {ss ss' : List Sl} {vs : List V}
theorem args_ok (st : StM M F σ H l) (ar : ArgsR M.K F σ vs as) (re : resolve l as = some ss) (nd : (slotsOf as).Nodup) : ArgsOk M.K F H vs ss := by
  refine ⟨by rw [resolve_len re, paired_len ar], fun i s e => ?_, fun i j xs ys v a b c d => ?_⟩
  · rcases resolve_get re e with ⟨k, ea, el⟩ | ⟨d, ea, rfl⟩
    · obtain ⟨v, ev, r⟩ := paired_get ar ea
      obtain ⟨u, eu, ok⟩ := st.slot k s el
      have r : σ[k]? = some (some v) := r
      rw [r] at eu
      cases eu
      refine ⟨v, ev, ?_⟩
      cases s with
      | fr d => exact ok
      | ow xs =>
        obtain ⟨p, ws, h1, h2, h3, h4, _⟩ := ok
        exact ⟨p, ws, h1, h2, h3, h4⟩
    · obtain ⟨v, ev, r⟩ := paired_get ar ea
      exact ⟨v, ev, r⟩
  · rcases resolve_get re a with ⟨k, ea, el⟩ | ⟨d, _, z⟩
    · rcases resolve_get re b with ⟨m, eb, em⟩ | ⟨d, _, z⟩
      · obtain ⟨v1, e1, r1⟩ := paired_get ar ea
        obtain ⟨v2, e2, r2⟩ := paired_get ar eb
        rw [c] at e1
        rw [d] at e2
        cases e1
        cases e2
        have := st.inj k m xs ys v el em r1 r2
        subst this
        exact slots_uniq nd ea eb
      · cases z
    · cases z
theorem own_args (ar : ArgsR M.K F σ vs as) (re : resolve l as = some ss) {p : Addr} (h : OwnA vs ss p) : ∃ (k i : Nat) (xs : O), as[k]? = some (.sl i) ∧ ss[k]? = some (.ow xs) ∧ l[i]? = some (some (.ow xs)) ∧ σ[i]? = some (some (.ref p)) := by
  obtain ⟨k, xs, a, b⟩ := h
  rcases resolve_get re a with ⟨i, ea, el⟩ | ⟨d, _, z⟩
  · obtain ⟨v, ev, r⟩ := paired_get ar ea
    rw [b] at ev
    cases ev
    exact ⟨k, i, xs, ea, a, el, r⟩
  · cases z
theorem after_ok (st : StM M F σ H l) (ar : ArgsR M.K F σ vs as) (re : resolve l as = some ss) (nd : (slotsOf as).Nodup) (hl : ss'.length = ss.length) (af : After M.K F H F' H' vs ss ss') :
    StM M F' σ H' (putA as ss' l) ∧ Gr σ l (putA as ss' l) F H F' H' := by
  have lens : as.length = ss'.length := by rw [hl, resolve_len re]
  -- what was the body's own before
  have old : ∀ (j : Nat) (xs : O), (putA as ss' l)[j]? = some (some (.ow xs)) → ∃ ys, l[j]? = some (some (.ow ys)) := by
    intro j xs e
    rcases putA_get as ss' l lens e with ⟨k, a, b⟩ | ⟨no, b⟩
    · have hk : k < ss.length := by rw [← hl]; exact get_lt b
      rcases resolve_get re (List.getElem?_eq_getElem hk) with ⟨i, ea, el⟩ | ⟨d, ea, z⟩
      · rw [a] at ea
        cases ea
        cases hs : ss[k] with
        | ow ys => exact ⟨ys, by rw [el, hs]⟩
        | fr d =>
          have := af.fr k d (by rw [List.getElem?_eq_getElem hk, hs])
          rw [b] at this
          cases this
      · rw [a] at ea
        cases ea
    · exact ⟨xs, b⟩
  have nownA : ∀ p, ¬ Own σ l p → ¬ OwnA vs ss p := fun p n h => by
    obtain ⟨k, i, xs, _, _, el, e⟩ := own_args ar re h
    exact n ⟨i, xs, el, e⟩
  have out : ∀ a o, M.H0 a = some o → a ∉ M.ps.map (·.2) → ¬ OwnA vs ss a := by
    intro a o h n z
    obtain ⟨k, i, xs, _, _, el, e⟩ := own_args ar re z
    obtain ⟨v, ev, p, ws, rfl, _, _, _, ow⟩ := st.slot i _ el
    rw [e] at ev
    cases ev
    rcases ow with z | z
    · rw [z] at h; cases h
    · exact n (List.mem_map.mpr ⟨_, z, rfl⟩)
  refine ⟨⟨af.sub, by rw [putA_len]; exact st.len, ?_, ?_, st.keepF.trans af.ext, ?_, ?_, fun a h => st.domH a (af.dom a h), st.pars⟩, ⟨af.ext, ?_, fun p o h f n => af.frn p o h f (nownA p n), af.dom⟩⟩
  · intro j s e
    rcases putA_get as ss' l lens e with ⟨k, a, b⟩ | ⟨no, b⟩
    · have hk : k < ss.length := by rw [← hl]; exact get_lt b
      rcases resolve_get re (List.getElem?_eq_getElem hk) with ⟨i, ea, el⟩ | ⟨d, ea, z⟩
      · rw [a] at ea
        cases ea
        obtain ⟨v, ev, ok⟩ := st.slot _ _ el
        cases hs : ss[k] with
        | fr d =>
          have := af.fr k d (by rw [List.getElem?_eq_getElem hk, hs])
          rw [b] at this
          cases this
          rw [hs] at ok
          exact ⟨v, ev, Rep.up (show Rep M.K F v d from ok) af.ext⟩
        | ow ys =>
          obtain ⟨u, eu, oku⟩ := af.at_ k s ys b (by rw [List.getElem?_eq_getElem hk, hs])
          obtain ⟨u', eu', r'⟩ := paired_get ar a
          rw [eu] at eu'
          cases eu'
          have r' : σ[j]? = some (some u) := r'
          rw [ev] at r'
          cases r'
          refine ⟨v, ev, ?_⟩
          cases s with
          | fr d => exact oku
          | ow zs =>
            obtain ⟨p, ws, rfl, h1, h2, h3⟩ := oku
            rw [hs] at ok
            obtain ⟨p', ws', z, _, _, _, ow⟩ := ok
            cases z
            exact ⟨p, ws, rfl, h1, h2, h3, ow⟩
      · rw [a] at ea
        cases ea
    · obtain ⟨v, ev, ok⟩ := st.slot j s b
      refine ⟨v, ev, ?_⟩
      cases s with
      | fr d => exact Rep.up (show Rep M.K F v d from ok) af.ext
      | ow xs =>
        obtain ⟨p, ws, rfl, h1, h2, h3, h4⟩ := ok
        have no' : ¬ OwnA vs ss p := fun z => by
          obtain ⟨k, i, ys, ea, _, el, e⟩ := own_args ar re z
          have := st.inj j i xs ys _ b el ev e
          subst this
          exact no k ea
        obtain ⟨f1, h1'⟩ := af.frn p _ h1 h2 no'
        exact ⟨p, ws, rfl, h1', f1, h3.up af.ext, h4⟩
  · intro i j xs ys v a b c d
    obtain ⟨xs', a'⟩ := old i xs a
    obtain ⟨ys', b'⟩ := old j ys b
    exact st.inj i j xs' ys' v a' b' c d
  · intro a o h f n
    exact (af.frn a o (st.keepH a o h n) (st.newF a o h f n) (out a o h n)).1
  · intro a o h n
    have ha := st.keepH a o h n
    cases hf : F a with
    | none => exact (af.frn a o ha hf (out a o h n)).2
    | some o' =>
      have := st.sub _ _ hf
      rw [ha] at this
      cases this
      exact af.sub _ _ (af.ext _ _ hf)
  · rintro p ⟨i, xs, a, b⟩
    obtain ⟨ys, a'⟩ := old i xs a
    exact ⟨i, ys, a', b⟩
end

def appE (m : MF) (dd : List D) (as : List Arg) (l : Ld) : Res D := match resolve l as with
  | none => .stuck
  | some ss => if (slotsOf as).Nodup then (match m (ss ++ dd.map .fr) with
    | .ok r ss' => if ss'.length = ss.length + dd.length then .ok r.toD (putA as (ss'.take ss.length) l) else .stuck
    | .err c f d ss' => if ss'.length = ss.length + dd.length then .err c f d (putA as (ss'.take ss.length) l) else .stuck
    | .stuck => .stuck) else .stuck
def appL (m : MF) (dd : List D) (as : List Arg) (l : Ld) : Res (List D) := match resolve l as with
  | none => .stuck
  | some ss => if (slotsOf as).Nodup then (match m (ss ++ dd.map .fr) with
    | .ok (.ow (.lst xs)) ss' => if ss'.length = ss.length + dd.length then .ok xs (putA as (ss'.take ss.length) l) else .stuck
    | .err c f d ss' => if ss'.length = ss.length + dd.length then .err c f d (putA as (ss'.take ss.length) l) else .stuck
    | _ => .stuck) else .stuck
def callE (m : MF) (dd : List D) (g : MA) : ME := fun l => (g l).bind fun as l1 => appE m dd as l1
def callL (m : MF) (dd : List D) (g : MA) : ML := fun l => (g l).bind fun as l1 => appL m dd as l1
section
variable {M : MC} {E : L2.St → XK} {σ : L2.St} {F H F' H' : Hp} {l : Ld} {as : List Arg} {ss ss' : List Sl} {vs dvs : List V} {dd : List D}
theorem take_get {α : Type} {l : List α} {n i : Nat} {x : α} (h : (l.take n)[i]? = some x) : l[i]? = some x ∧ i < n := by
  rw [List.getElem?_take] at h
  split at h
  · exact ⟨h, by assumption⟩
  · cases h
theorem args_dd (ok : ArgsOk M.K F H vs ss) (rd : Reps M.K F dvs dd) : ArgsOk M.K F H (vs ++ dvs) (ss ++ dd.map .fr) := by
  have sh : ∀ (i : Nat) (xs : O), (ss ++ dd.map Sl.fr)[i]? = some (.ow xs) → ss[i]? = some (.ow xs) := by
    intro i xs e
    rw [List.getElem?_append] at e
    split at e
    · exact e
    · rw [List.getElem?_map] at e
      obtain ⟨d, _, z⟩ := Option.map_eq_some_iff.mp e
      cases z
  refine ⟨by rw [List.length_append, List.length_append, List.length_map, ok.len, rd.length], fun i s e => ?_, fun i j xs ys v a b c d => ?_⟩
  · rw [List.getElem?_append] at e ⊢
    rw [ok.len]
    split at e
    · rename_i hi
      rw [if_pos hi]
      exact ok.at_ i s e
    · rename_i hi
      rw [if_neg hi]
      rw [List.getElem?_map] at e
      obtain ⟨d, e1, rfl⟩ := Option.map_eq_some_iff.mp e
      exact rd.get e1
  · have a' := sh i xs a
    have b' := sh j ys b
    have hi : i < vs.length := by rw [ok.len]; exact get_lt a'
    have hj : j < vs.length := by rw [ok.len]; exact get_lt b'
    rw [List.getElem?_append_left hi] at c
    rw [List.getElem?_append_left hj] at d
    exact ok.inj i j xs ys v a' b' c d
theorem after_dd (ok : ArgsOk M.K F H vs ss) (rd : Reps M.K F dvs dd) (af : After M.K F H F' H' (vs ++ dvs) (ss ++ dd.map .fr) ss') : After M.K F H F' H' vs ss (ss'.take ss.length) := by
  refine ⟨af.ext, af.sub, fun p o h f n => af.frn p o h f fun z => n ?_, af.dom, fun i s' xs a b => ?_, fun i d a => ?_⟩
  · obtain ⟨i, xs, a, b⟩ := z
    rw [List.getElem?_append] at a b
    split at a
    · rename_i hi
      rw [ok.len, if_pos hi] at b
      exact ⟨i, xs, a, b⟩
    · rw [List.getElem?_map] at a
      obtain ⟨d, _, z⟩ := Option.map_eq_some_iff.mp a
      cases z
  · obtain ⟨a1, hi⟩ := take_get a
    obtain ⟨v, e, r⟩ := af.at_ i s' xs a1 (by rw [List.getElem?_append_left hi]; exact b)
    rw [List.getElem?_append_left (by rw [ok.len]; exact hi)] at e
    exact ⟨v, e, r⟩
  · have hi := get_lt a
    have := af.fr i d (by rw [List.getElem?_append_left hi]; exact a)
    rw [List.getElem?_take, if_pos hi]
    exact this
theorem call_core {m : MF} {n : Nat} {Q : VK} (st : StM M F σ H l) (ar : ArgsR M.K F σ vs as) (dr : Reps M.K F dvs dd) (hn : as.length + dd.length = n)
    (w : wR M E σ F H l (fun d _ F' H' => ∀ v, Rep M.K F' v d → Q v H') (appE m dd as l)) : spM M.K n m (vs ++ dvs) H Q (E σ) := by
  unfold appE at w
  split at w
  · exact w.elim
  · rename_i ss re
    split at w
    · rename_i nd
      have ok := args_ok st ar re nd
      refine ⟨F, ss ++ dd.map .fr, by rw [List.length_append, List.length_map, resolve_len re]; exact hn, st.sub, args_dd ok dr, ?_⟩
      split at w
      · rename_i r ss' hm
        rw [hm]
        split at w
        · rename_i hl
          intro v F' H' af rv
          have hl' : (ss'.take ss.length).length = ss.length := by rw [List.length_take]; omega
          obtain ⟨st', gr⟩ := after_ok st ar re nd hl' (after_dd ok dr af)
          cases r with
          | fr d => exact w F' H' gr st' v rv
          | ow xs =>
            obtain ⟨p, ws, rfl, hp, fp, h0, rs⟩ := rv
            have ext : Same F' (upd F' p ws) := new_same fp
            have no : ¬ Own σ (putA as (ss'.take ss.length) l) p := fun o => by
              obtain ⟨⟨ws, z⟩, _⟩ := st.ownH (gr.own _ o)
              rw [h0] at z
              cases z
            refine w (upd F' p ws) H' ⟨gr.ext.trans ext, gr.own, fun q o h f n => ?_, gr.dom⟩ (st'.adopt hp fp (st.domH p h0) no) _ ((rs.up ext).rep upd_same)
            obtain ⟨a, b⟩ := gr.frn q o h f n
            rw [upd_ne (ne_of_none h h0)]
            exact ⟨a, b⟩
        · exact w.elim
      · rename_i c f d ss' hm
        rw [hm]
        split at w
        · rename_i hl
          intro v x F' H' af hx fx h0 rv
          have hl' : (ss'.take ss.length).length = ss.length := by rw [List.length_take]; omega
          obtain ⟨st', gr⟩ := after_ok st ar re nd hl' (after_dd ok dr af)
          exact w v x F' H' gr st' hx fx h0 rv
        · exact w.elim
      · exact w.elim
    · exact w.elim
theorem call_coreL {m : MF} {n : Nat} {Q : VK} (st : StM M F σ H l) (ar : ArgsR M.K F σ vs as) (dr : Reps M.K F dvs dd) (hn : as.length + dd.length = n)
    (w : wR M E σ F H l (fun xs l' F' H' => ∀ p vs, H' p = some (.lst vs) → F' p = none → M.H0 p = none → H p = none → ¬ Own σ l' p → Reps M.K F' vs xs → Q (.ref p) H') (appL m dd as l)) : spM M.K n m (vs ++ dvs) H Q (E σ) := by
  unfold appL at w
  split at w
  · exact w.elim
  · rename_i ss re
    split at w
    · rename_i nd
      have ok := args_ok st ar re nd
      refine ⟨F, ss ++ dd.map .fr, by rw [List.length_append, List.length_map, resolve_len re]; exact hn, st.sub, args_dd ok dr, ?_⟩
      split at w
      · rename_i xs ss' hm
        rw [hm]
        split at w
        · rename_i hl
          intro v F' H' af rv
          have hl' : (ss'.take ss.length).length = ss.length := by rw [List.length_take]; omega
          obtain ⟨st', gr⟩ := after_ok st ar re nd hl' (after_dd ok dr af)
          obtain ⟨p, _, rfl, hp, fp, h0, ws, rfl, rs⟩ := rv
          refine w F' H' gr st' p ws hp fp (st.domH p h0) h0 (fun o => ?_) rs
          obtain ⟨⟨ws, z⟩, _⟩ := st.ownH (gr.own _ o)
          rw [h0] at z
          cases z
        · exact w.elim
      · rename_i c f d ss' hm
        rw [hm]
        split at w
        · rename_i hl
          intro v x F' H' af hx fx h0 rv
          have hl' : (ss'.take ss.length).length = ss.length := by rw [List.length_take]; omega
          obtain ⟨st', gr⟩ := after_ok st ar re nd hl' (after_dd ok dr af)
          exact w v x F' H' gr st' hx fx h0 rv
        · exact w.elim
      · exact w.elim
    · exact w.elim
end
section
variable {X : Cx} {M : MC} {E : L2.St → XK} {k n : Nat} {ps : List Str} {m : MF} {dvs : List V} {dd : List D} {x : Str} {p pos : Pos} {e : Expr} {es : List Expr} {g : MA}
theorem me_call (C : Has X.prog X.w X.K X.mg X.base (L2.CX X.prog X.w) k x ps dvs (spM X.K n m)) (eK : X.K = M.K) (dr : ∀ F, Reps M.K F dvs dd) (hn : (e :: es).length + dd.length = n) (px : ∀ σ, PassesAt (L2.CX X.prog X.w) X σ (E σ)) (sl : Still X.A) (room : Room k X.A) (gl : Gl X x) (as : PA X (e :: es) (mA M E g))
    (al : ∀ l bs l1, g l = .ok bs l1 → bs.length = (e :: es).length)
    (nd : (x == ("__debug__" : Str)) = false := by decide) (st : starEach (e :: es) X.env = (false, eval e X.env) :: starEach es X.env := by rfl) (pl : (backTo pos (starEach es X.env)).any (·.1) = false := by rfl) :
    PE X (.Call (.Name x p) (e :: es) [] pos) (mE M E (callE m dd g)) :=
  pe_imp (pe_fnS C px sl room gl as nd st pl) fun σ H Q z => by
    obtain ⟨F, l, st, w⟩ := z
    refine ⟨F, l, st, ?_⟩
    cases hg : g l with
    | stuck => unfold callE at w; rw [hg] at w; exact w.elim
    | err c f d l' => unfold callE at w; rw [hg] at w; exact w
    | ok bs l1 =>
      unfold callE at w
      rw [hg] at w
      intro F1 H1 g1 st1 vs ar
      rw [eK]
      exact call_core st1 ar (dr F1) (by rw [al _ _ _ hg]; exact hn) (wR.later g1 w)
theorem ml_call (C : Has X.prog X.w X.K X.mg X.base (L2.CX X.prog X.w) k x ps dvs (spM X.K n m)) (eK : X.K = M.K) (dr : ∀ F, Reps M.K F dvs dd) (hn : (e :: es).length + dd.length = n) (px : ∀ σ, PassesAt (L2.CX X.prog X.w) X σ (E σ)) (sl : Still X.A) (room : Room k X.A) (gl : Gl X x) (as : PA X (e :: es) (mA M E g))
    (al : ∀ l bs l1, g l = .ok bs l1 → bs.length = (e :: es).length)
    (nd : (x == ("__debug__" : Str)) = false := by decide) (st : starEach (e :: es) X.env = (false, eval e X.env) :: starEach es X.env := by rfl) (pl : (backTo pos (starEach es X.env)).any (·.1) = false := by rfl) :
    PE X (.Call (.Name x p) (e :: es) [] pos) (mL M E (callL m dd g)) :=
  pe_imp (pe_fnS C px sl room gl as nd st pl) fun σ H Q z => by
    obtain ⟨F, l, st, w⟩ := z
    refine ⟨F, l, st, ?_⟩
    cases hg : g l with
    | stuck => unfold callL at w; rw [hg] at w; exact w.elim
    | err c f d l' => unfold callL at w; rw [hg] at w; exact w
    | ok bs l1 =>
      unfold callL at w
      rw [hg] at w
      intro F1 H1 g1 st1 vs ar
      rw [eK]
      refine call_coreL st1 ar (dr F1) (by rw [al _ _ _ hg]; exact hn) ((wR.later g1 w).mono fun xs l' F' H' g' st' w' p vs hp fp h0 hH no rs => w' p vs hp fp h0 (g1.dom _ hH) no rs)
end
end Sb

namespace Sb
open PySem PySem.Spec PyProof.Rows L2

def ALen (g : MA) (n : Nat) : Prop := ∀ l bs l1, g l = .ok bs l1 → bs.length = n
theorem bind_ok {α β : Type} {r : Res α} {f : α → Ld → Res β} {b : β} {l : Ld} (h : r.bind f = .ok b l) : ∃ a l1, r = .ok a l1 ∧ f a l1 = .ok b l := by
  cases r with
  | ok a l1 => exact ⟨a, l1, rfl, h⟩
  | err c f d l1 => cases h
  | stuck => cases h
theorem al0 : ALen aNil 0 := fun l bs l1 h => by cases h; rfl
theorem alV {g : ME} {h : MA} {n : Nat} (a : ALen h n) : ALen (aVal g h) (n + 1) := fun l bs l1 e => by
  obtain ⟨d, l2, _, e2⟩ := bind_ok e
  obtain ⟨as, l3, e3, e4⟩ := bind_ok e2
  cases e4
  exact congrArg (· + 1) (a _ _ _ e3)
theorem alS {i : Nat} {h : MA} {n : Nat} (a : ALen h n) : ALen (aSl i h) (n + 1) := fun l bs l1 e => by
  unfold aSl at e
  split at e
  · obtain ⟨as, l3, e3, e4⟩ := bind_ok e
    cases e4
    exact congrArg (· + 1) (a _ _ _ e3)
  · cases e

/-! ### statements -/
inductive SRes where
  | nx (l : Ld) | rt (s : Sl) (l : Ld) | bk (l : Ld) | ct (l : Ld) | err (c f : Str) (d : D) (l : Ld) | stuck
abbrev MS := Ld → SRes
def RetOk (M : MC) (F H : Hp) (v : V) : Sl → Prop
  | .fr d => Rep M.K F v d
  | .ow xs => ∃ p vs, v = .ref p ∧ H p = some vs ∧ F p = none ∧ M.H0 p = none ∧ OwH M.K F p vs xs
def wS (M : MC) (E : L2.St → XK) (F : Hp) (Dn : Ends) : SRes → Prop
  | .nx l' => ∀ σ' F' H', Same F F' → StM M F' σ' H' l' → Dn.nx σ' H'
  | .rt s l' => ∀ v σ' F' H', Same F F' → StM M F' σ' H' l' → RetOk M F' H' v s → Dn.rt v H'
  | .bk l' => ∀ σ' F' H', Same F F' → StM M F' σ' H' l' → Dn.bk σ' H'
  | .ct l' => ∀ σ' F' H', Same F F' → StM M F' σ' H' l' → Dn.ct σ' H'
  | .err c f d l' => ∀ v dd σ' F' H', Same F F' → StM M F' σ' H' l' → H' dd = some (.xd [(f, v)]) → F' dd = none → M.H0 dd = none → Rep M.K F' v d → E σ' (.ref (He.ga M.K c)) (some dd) H'
  | .stuck => False
def mS (M : MC) (E : L2.St → XK) (g : MS) : TS := fun Dn σ H => ∃ F l, StM M F σ H l ∧ wS M E F Dn (g l)
def Res.thn {α : Type} : Res α → (α → Ld → SRes) → SRes
  | .ok a l, f => f a l
  | .err c f d l, _ => .err c f d l
  | .stuck, _ => .stuck
def SRes.seq : SRes → MS → SRes
  | .nx l, f => f l
  | r, _ => r
section
variable {M : MC} {E : L2.St → XK} {Dn : Ends} {σ : L2.St} {F H : Hp} {l : Ld}
theorem wS.later {F' : Hp} {r : SRes} (e : Same F F') (w : wS M E F Dn r) : wS M E F' Dn r := by
  cases r with
  | nx l1 => exact fun σ' F1 H' e1 => w σ' F1 H' (e.trans e1)
  | rt s l1 => exact fun v σ' F1 H' e1 => w v σ' F1 H' (e.trans e1)
  | bk l1 => exact fun σ' F1 H' e1 => w σ' F1 H' (e.trans e1)
  | ct l1 => exact fun σ' F1 H' e1 => w σ' F1 H' (e.trans e1)
  | err c f d l1 => exact fun v dd σ' F1 H' e1 => w v dd σ' F1 H' (e.trans e1)
  | stuck => exact w
theorem wS.thn {α : Type} {r : Res α} {f : α → Ld → SRes} (st : StM M F σ H l) (w : wS M E F Dn (r.thn f)) : wR M E σ F H l (fun a l1 F1 _ => wS M E F1 Dn (f a l1)) r := by
  cases r with
  | ok a l1 => exact fun F' H' g s => w.later g.ext
  | err c f d l1 => exact fun v dd F' H' g s a b n r => w v dd σ F' H' g.ext s a b (st.domH _ n) r
  | stuck => exact w
theorem wS.seq {r : SRes} {f : MS} (w : wS M E F Dn (r.seq f)) : wS M E F { Dn with nx := mS M E f Dn } r := by
  cases r with
  | nx l1 => exact fun σ' F' H' e s => ⟨F', l1, s, wS.later e w⟩
  | rt s l1 => exact w
  | bk l1 => exact w
  | ct l1 => exact w
  | err c f d l1 => exact w
  | stuck => exact w
end
def sNil : MS := fun l => .nx l
def sSeq (g h : MS) : MS := fun l => (g l).seq h
def sEx (g : ME) : MS := fun l => (g l).thn fun _ l1 => .nx l1
def sSet (i : Nat) (g : ME) : MS := fun l => (g l).thn fun d l1 => .nx (l1.set i (some (.fr d)))
def sSetL (i : Nat) (g : ML) : MS := fun l => (g l).thn fun xs l1 => .nx (l1.set i (some (.ow (.lst xs))))
def sRet (g : ME) : MS := fun l => (g l).thn fun d l1 => .rt (.fr d) l1
def sRetL (g : ML) : MS := fun l => (g l).thn fun xs l1 => .rt (.ow (.lst xs)) l1
def sRetS (i : Nat) : MS := fun l => match l[i]? with
  | some (some s) => .rt s l
  | _ => .stuck
def sIf (t : MT) (a b : MS) : MS := fun l => (t l).thn fun c l1 => if c = true then a l1 else b l1
def sRaise (c f : Str) (g : ME) : MS := fun l => (g l).thn fun d l1 => .err c f d l1
abbrev NoPar (M : MC) (i : Nat) : Prop := ∀ q ∈ M.ps, q.1 ≠ i
section
variable {X : Cx} {M : MC} {E : L2.St → XK} {a b e : Expr} {st : Stmt} {sts rest : List Stmt} {ga gb : ME} {gl : ML} {gt : MT} {g h : MS} {pos pos' : Pos} {i : Nat} {x : Str}
theorem pss_imp {t t' : TS} (h : PSs X sts t) (imp : ∀ D σ H, t' D σ H → t D σ H) : PSs X sts t' := ⟨fun pins s σ H D I z => h.run pins s σ H D I (imp _ _ _ z)⟩
theorem ms_nil : PSs X [] (mS M E sNil) := pss_imp pss_nil fun Dn σ H z => by
  obtain ⟨F, l, st, w⟩ := z
  exact w σ F H (Same.refl _) st
theorem ms_cons (h1 : PS X st (mS M E g)) (h2 : PSs X rest (mS M E h)) : PSs X (st :: rest) (mS M E (sSeq g h)) := pss_imp (pss_cons h1 h2) fun Dn σ H z => by
  obtain ⟨F, l, st, w⟩ := z
  exact ⟨F, l, st, w.seq⟩
theorem ms_one (h1 : PS X st (mS M E g)) : PSs X [st] (mS M E g) := pss_one h1
theorem ms_expr (he : PE X e (mE M E ga)) (hs : swapsWith e none pos.line X.env = pure false := by rfl) : PS X (.Expr e pos) (mS M E (sEx ga)) := ps_imp (ps_expr he hs) fun Dn σ H z => by
  obtain ⟨F, l, st, w⟩ := z
  exact ⟨F, l, st, (wS.thn st w).mono fun d l1 F1 H1 g1 st1 w1 v _ => w1 σ F1 H1 (Same.refl _) st1⟩
theorem StM.setFr' {σ : L2.St} {F H : Hp} {l : Ld} {v : V} {d : D} (st : StM M F σ H l) (np : NoPar M i) (r : Rep M.K F v d) : StM M F (σ.set i (some v)) H (l.set i (some (.fr d))) := by
  by_cases hi : i < l.length
  · exact st.setFr hi np r
  · have e := st.len
    rw [List.set_eq_of_length_le (by omega), List.set_eq_of_length_le (by omega)]
    exact st
theorem StM.setOw' {σ : L2.St} {F H : Hp} {l : Ld} {p : Addr} {vs : HO} {xs : O} (st : StM M F σ H l) (np : NoPar M i) (hp : H p = some vs) (fp : F p = none) (h0 : M.H0 p = none) (no : ¬ Own σ l p) (r : OwH M.K F p vs xs) :
    StM M F (σ.set i (some (.ref p))) H (l.set i (some (.ow xs))) := by
  by_cases hi : i < l.length
  · exact st.setOw hi np hp fp h0 no r
  · have e := st.len
    rw [List.set_eq_of_length_le (by omega), List.set_eq_of_length_le (by omega)]
    exact st
theorem ms_set (np : NoPar M i) (hN : X.N.Nodup) (hi : X.N[i]? = some x) (hx : Loc X.env.scope x) (he : PE X e (mE M E ga)) (hs : swapsWith e (some (.Name x pos')) pos.line X.env = pure false := by rfl) (hf : X.fn x = true ∨ X.env.scope.names.lookup x = some .local := by first | exact .inl rfl | exact .inr rfl | assumption) :
    PS X (.Assign [.Name x pos'] e pos) (mS M E (sSet i ga)) := ps_imp (ps_set hN hi hx he hs hf) fun Dn σ H z => by
  obtain ⟨F, l, st, w⟩ := z
  exact ⟨F, l, st, (wS.thn st w).mono fun d l1 F1 H1 g1 st1 w1 v rv => w1 _ F1 H1 (Same.refl _) (st1.setFr' np rv)⟩
theorem ms_setL (np : NoPar M i) (hN : X.N.Nodup) (hi : X.N[i]? = some x) (hx : Loc X.env.scope x) (he : PE X e (mL M E gl)) (hs : swapsWith e (some (.Name x pos')) pos.line X.env = pure false := by rfl) (hf : X.fn x = true ∨ X.env.scope.names.lookup x = some .local := by first | exact .inl rfl | exact .inr rfl | assumption) :
    PS X (.Assign [.Name x pos'] e pos) (mS M E (sSetL i gl)) := ps_imp (ps_set hN hi hx he hs hf) fun Dn σ H z => by
  obtain ⟨F, l, st, w⟩ := z
  exact ⟨F, l, st, (wS.thn st w).mono fun d l1 F1 H1 g1 st1 w1 p vs hp fp h0 _ no rs => w1 _ F1 H1 (Same.refl _) (st1.setOw' np hp fp h0 no ⟨_, rfl, rs⟩)⟩
theorem ms_ret (he : PE X e (mE M E ga)) : PS X (.Return (some e) pos) (mS M E (sRet ga)) := ps_imp (ps_ret he) fun Dn σ H z => by
  obtain ⟨F, l, st, w⟩ := z
  exact ⟨F, l, st, (wS.thn st w).mono fun d l1 F1 H1 g1 st1 w1 v rv => w1 v σ F1 H1 (Same.refl _) st1 rv⟩
theorem ms_retL (he : PE X e (mL M E gl)) : PS X (.Return (some e) pos) (mS M E (sRetL gl)) := ps_imp (ps_ret he) fun Dn σ H z => by
  obtain ⟨F, l, st, w⟩ := z
  exact ⟨F, l, st, (wS.thn st w).mono fun d l1 F1 H1 g1 st1 w1 p vs hp fp h0 _ no rs => w1 _ σ F1 H1 (Same.refl _) st1 ⟨p, _, rfl, hp, fp, h0, vs, rfl, rs⟩⟩
theorem ms_retS (np : NoPar M i) (hN : X.N[i]? = some x) (hv : Vis X.env.scope x) (hd : (x == ("__debug__" : Str)) = false := by decide) (hcd : (x == ("__classdict__" : Str)) = false := by decide) : PS X (.Return (some (.Name x pos')) pos) (mS M E (sRetS i)) := ps_imp (ps_ret (pe_var hN hv hd hcd)) fun Dn σ H z => by
  obtain ⟨F, l, st, w⟩ := z
  unfold sRetS at w
  split at w
  · rename_i s hl
    obtain ⟨v, ev, ok⟩ := st.slot i s hl
    refine ⟨v, ev, w v σ F H (Same.refl _) st ?_⟩
    cases s with
    | fr d => exact ok
    | ow xs =>
      obtain ⟨p, vs, rfl, h1, h2, h3, h4 | h4⟩ := ok
      · exact ⟨p, vs, rfl, h1, h2, h4, h3⟩
      · exact (np _ h4 rfl).elim
  · exact w.elim
theorem ms_if {c : Expr} {as bs : List Stmt} (hc : PT X c (mT M E gt)) (ha : PSs X as (mS M E g)) (hb : PSs X bs (mS M E h)) : PS X (.If c as bs pos) (mS M E (sIf gt g h)) := ps_imp (ps_if hc ha hb) fun Dn σ H z => by
  obtain ⟨F, l, st, w⟩ := z
  refine ⟨F, l, st, (wS.thn st w).mono fun c l1 F1 H1 g1 st1 w1 => ?_⟩
  cases c with
  | true => exact ⟨F1, l1, st1, w1⟩
  | false => exact ⟨F1, l1, st1, w1⟩
theorem ms_raise {k : Nat} {W : WX} {f : Str} {p pos2 : Pos} (M' : Err X.prog X.w X.K X.mg X.base x f) (eK : X.K = M.K) (calm : X.calm = true) (tk : Takes X W) (room : Room (k + 2) X.A) (gl : Gl X x) (he : PE X e (mE M (WE W) ga))
    (nd : (x == ("__debug__" : Str)) = false := by decide) (st : starEach [e] X.env = (false, eval e X.env) :: starEach [] X.env := by rfl) (pl : (backTo pos (starEach [] X.env)).any (·.1) = false := by rfl) :
    PS X (.Raise (some (.Call (.Name x p) [e] [] pos)) none pos2) (mS M (WE W) (sRaise x f ga)) := ps_imp (ps_err M' calm tk room gl he nd st pl) fun Dn σ H z => by
  obtain ⟨F, l, st, w⟩ := z
  refine ⟨F, l, st, (wS.thn st w).mono fun d l1 F1 H1 g1 st1 w1 v rv dd nd => ?_⟩
  have nw := Nw.beside (o := .xd [(f, v)]) st1.sub nd
  rw [eK]
  exact w1 v dd σ F1 _ (Same.refl _) (st1.new nw) upd_same (st1.sub.free nd) (st1.domH _ nd) rv

/-! ### loops -/
def loopR (r : SRes) (k : MS) : SRes := match r with
  | .nx l' => k l'
  | .ct l' => k l'
  | .bk l' => .nx l'
  | r => r
theorem wS.loop {F : Hp} {r : SRes} {k : MS} {Dn : Ends} {N : L2.St → Hp → Prop} (w : wS M E F Dn (loopR r k)) (hN : ∀ σ F' H l, Same F F' → StM M F' σ H l → wS M E F' Dn (k l) → N σ H) : wS M E F { Dn with nx := N, ct := N, bk := Dn.nx } r := by
  cases r with
  | nx l' => exact fun σ F' H e st => hN σ F' H l' e st (wS.later e w)
  | ct l' => exact fun σ F' H e st => hN σ F' H l' e st (wS.later e w)
  | bk l' => exact w
  | rt s l' => exact w
  | err c f d l' => exact w
  | stuck => exact w
def rng1 (g : ML) : ML := fun l => (g l).bind fun ds l1 => match ds with
  | [.int j] => if -(2 ^ 62) ≤ j ∧ j < 2 ^ 62 then .ok ((List.range j.toNat).map fun (k : Nat) => .int k) l1 else .stuck
  | _ => .stuck
theorem drop_cons {α : Type} {xs : List α} {i : Nat} {x : α} (h : xs[i]? = some x) : xs.drop i = x :: xs.drop (i + 1) := by
  obtain ⟨hi, rfl⟩ := List.getElem?_eq_some_iff.mp h
  exact List.drop_eq_getElem_cons hi
end
end Sb

namespace Sb
open PySem PySem.Spec PyProof.Rows L2

/-! ### while -/
def whileN (c : MT) (b : MS) : Nat → MS
  | 0, _ => .stuck
  | n + 1, l => (c l).thn fun k l1 => if k = true then loopR (b l1) (whileN c b n) else .nx l1
open Classical in
noncomputable def whileM (c : MT) (b : MS) : MS := fun l => if h : ∃ n, whileN c b n l ≠ .stuck then whileN c b h.choose l else .stuck
theorem whileN_up {c : MT} {b : MS} : ∀ (n : Nat) (l : Ld), whileN c b n l ≠ .stuck → whileN c b (n + 1) l = whileN c b n l
  | 0, l, h => (h rfl).elim
  | n + 1, l, h => by
    rw [whileN] at h
    rw [whileN, whileN]
    cases hc : c l with
    | stuck => rfl
    | err a f d l1 => rfl
    | ok k l1 =>
      rw [hc] at h
      cases k with
      | false => rfl
      | true =>
        show loopR (b l1) (whileN c b (n + 1)) = loopR (b l1) (whileN c b n)
        have h : loopR (b l1) (whileN c b n) ≠ .stuck := h
        cases hb : b l1 with
        | nx l2 => rw [hb] at h; exact whileN_up n l2 h
        | ct l2 => rw [hb] at h; exact whileN_up n l2 h
        | _ => rfl
theorem whileN_add {c : MT} {b : MS} {n : Nat} {l : Ld} (h : whileN c b n l ≠ .stuck) : ∀ k, whileN c b (n + k) l = whileN c b n l
  | 0 => rfl
  | k + 1 => by
    have := whileN_add h k
    rw [← Nat.add_assoc, whileN_up _ _ (by rw [this]; exact h), this]
theorem whileM_of {c : MT} {b : MS} {n : Nat} {l : Ld} {r : SRes} (h : whileN c b n l = r) (ne : r ≠ .stuck) : whileM c b l = r := by
  have ex : ∃ n, whileN c b n l ≠ .stuck := ⟨n, by rw [h]; exact ne⟩
  unfold whileM
  rw [dif_pos ex]
  have h1 := whileN_add ex.choose_spec n
  have h2 := whileN_add (by rw [h]; exact ne : whileN c b n l ≠ .stuck) ex.choose
  rw [Nat.add_comm] at h1
  rw [← h1, h2, h]
theorem whileM_some {c : MT} {b : MS} {l : Ld} (h : whileM c b l ≠ .stuck) : ∃ n, whileN c b n l = whileM c b l := by
  by_cases ex : ∃ n, whileN c b n l ≠ .stuck
  · exact ⟨ex.choose, by unfold whileM; rw [dif_pos ex]⟩
  · unfold whileM at h
    rw [dif_neg ex] at h
    exact (h rfl).elim
theorem whileM_eq (c : MT) (b : MS) (l : Ld) : whileM c b l = (c l).thn fun k l1 => if k = true then loopR (b l1) (whileM c b) else .nx l1 := by
  -- from a tail
  have tail : ∀ (l1 : Ld) (n : Nat), loopR (b l1) (whileN c b n) ≠ .stuck → loopR (b l1) (whileN c b n) = loopR (b l1) (whileM c b) := by
    intro l1 n h
    cases hb : b l1 with
    | nx l2 => rw [hb] at h; exact (whileM_of rfl h).symm
    | ct l2 => rw [hb] at h; exact (whileM_of rfl h).symm
    | _ => rfl
  by_cases ex : whileM c b l = .stuck
  · rw [ex]
    cases hc : c l with
    | stuck => rfl
    | err a f d l1 =>
      have : whileN c b 1 l = .err a f d l1 := by rw [whileN, hc]; rfl
      rw [whileM_of this (by intro z; cases z)] at ex
      cases ex
    | ok k l1 =>
      cases k with
      | false =>
        have : whileN c b 1 l = .nx l1 := by rw [whileN, hc]; rfl
        rw [whileM_of this (by intro z; cases z)] at ex
        cases ex
      | true =>
        show SRes.stuck = loopR (b l1) (whileM c b)
        have back : ∀ n, loopR (b l1) (whileN c b n) = .stuck := by
          intro n
          apply Classical.byContradiction
          intro h
          have : whileN c b (n + 1) l = loopR (b l1) (whileN c b n) := by rw [whileN, hc]; rfl
          rw [whileM_of this h] at ex
          exact h ex
        cases hb : b l1 with
        | nx l2 =>
          apply Classical.byContradiction
          intro h
          obtain ⟨n, hn⟩ := whileM_some (c := c) (b := b) (l := l2) (fun z => h (by show SRes.stuck = whileM c b l2; rw [z]))
          have := back n
          rw [hb] at this
          have this : whileN c b n l2 = .stuck := this
          rw [hn] at this
          exact h (by show SRes.stuck = whileM c b l2; rw [this])
        | ct l2 =>
          apply Classical.byContradiction
          intro h
          obtain ⟨n, hn⟩ := whileM_some (c := c) (b := b) (l := l2) (fun z => h (by show SRes.stuck = whileM c b l2; rw [z]))
          have := back n
          rw [hb] at this
          have this : whileN c b n l2 = .stuck := this
          rw [hn] at this
          exact h (by show SRes.stuck = whileM c b l2; rw [this])
        | bk l2 => have := back 0; rw [hb] at this; cases this
        | rt s l2 => have := back 0; rw [hb] at this; cases this
        | err a f d l2 => have := back 0; rw [hb] at this; cases this
        | stuck => rfl
  · obtain ⟨n, hn⟩ := whileM_some ex
    cases n with
    | zero => rw [whileN] at hn; exact (ex hn.symm).elim
    | succ n =>
      rw [← hn] at ex ⊢
      rw [whileN] at ex ⊢
      cases hc : c l with
      | stuck => rfl
      | err a f d l1 => rfl
      | ok k l1 =>
        rw [hc] at ex
        cases k with
        | false => rfl
        | true => exact tail l1 n ex

section
variable {X : Cx} {M : MC} {E : L2.St → XK} {a b e : Expr} {st : Stmt} {sts rest : List Stmt} {ga gb : ME} {gl : ML} {gt : MT} {g h : MS} {pos pos' : Pos} {i : Nat} {x : Str}
theorem ms_while {c : Expr} {body : List Stmt} (hp : PassesOwn (model X.prog X.w) X.A X.env X.xe) (hc : PT X c (mT M E gt)) (hb : PSs X body (mS M E g)) : PS X (.While c body [] pos) (mS M E (whileM gt g)) := by
  refine ps_imp (ps_while hp hc hb) fun Dn σ H z => ?_
  obtain ⟨F, l, st, w⟩ := z
  have ne : whileM gt g l ≠ .stuck := fun z => by rw [z] at w; exact w
  obtain ⟨n, hn⟩ := whileM_some ne
  rw [← hn] at w
  refine ⟨fun m σ H => ∃ F l, StM M F σ H l ∧ wS M E F Dn (whileN gt g m l), ⟨n, F, l, st, w⟩, ?_⟩
  rintro m σ H ⟨F, l, st, w⟩
  cases m with
  | zero => exact w.elim
  | succ m =>
    refine ⟨F, l, st, (wS.thn st w).mono fun k l1 F1 H1 g1 st1 w1 => ?_⟩
    cases k with
    | true => exact ⟨_, fun σ' H' z => ⟨m, Nat.lt_succ_self m, z⟩, F1, l1, st1, wS.loop w1 fun σ F' H l _ st w => ⟨F', l, st, w⟩⟩
    | false => exact w1 σ F1 H1 (Same.refl _) st1

/-! ### targets -/
abbrev MG := D → Ld → Option Ld
structure SameOff (ts : List Nat) (σ σ' : L2.St) : Prop where
  len : σ'.length = σ.length
  off : ∀ j, j ∉ ts → σ'[j]? = σ[j]?
def mG (M : MC) (ts : List Nat) (t : MG) : TG := fun v σ H Q => ∃ F l d, StM M F σ H l ∧ Rep M.K F v d ∧ ∃ l', t d l = some l' ∧ ∀ σ', StM M F σ' H l' → SameOff ts σ σ' → Q σ' H
def tName (i : Nat) : MG := fun d l => some (l.set i (some (.fr d)))
def tNil : List D → Ld → Option Ld
  | [], l => some l
  | _, _ => none
theorem pg_imp {tg : Expr} {t t' : TG} (h : PG X tg t) (imp : ∀ v σ H Q, t' v σ H Q → t v σ H Q) : PG X tg t' := ⟨fun pins s σ H x u Q I r z => h.run pins s σ H x u Q I r (imp _ _ _ _ z)⟩
theorem mg_name (np : NoPar M i) (hN : X.N.Nodup) (hi : X.N[i]? = some x) (hx : Loc X.env.scope x) (hf : X.fn x = true ∨ X.env.scope.names.lookup x = some .local := by first | exact .inl rfl | exact .inr rfl | assumption) : PG X (.Name x pos) (mG M [i] (tName i)) :=
  pg_imp (pg_name hN hi hx hf) fun v σ H Q z => by
    obtain ⟨F, l, d, st, r, l', e, q⟩ := z
    cases e
    refine q _ (st.setFr' np r) ⟨List.length_set, fun j hj => List.getElem?_set_ne fun z => hj (by rw [z]; exact List.mem_cons_self)⟩
theorem SameOff.refl (ts : List Nat) (σ : L2.St) : SameOff ts σ σ := ⟨rfl, fun _ _ => rfl⟩
theorem SameOff.more {ts us : List Nat} {σ σ' : L2.St} (h : SameOff ts σ σ') (s : ∀ j ∈ ts, j ∈ us) : SameOff us σ σ' := ⟨h.len, fun j hj => h.off j fun z => hj (s j z)⟩
theorem SameOff.trans {ts : List Nat} {σ σ1 σ2 : L2.St} (h : SameOff ts σ σ1) (h' : SameOff ts σ1 σ2) : SameOff ts σ σ2 := ⟨h'.len.trans h.len, fun j hj => (h'.off j hj).trans (h.off j hj)⟩
/-! ### what is walked -/
structure WalkD (M : MC) (J : It) (xs : List D) (F : Hp) : Prop where
  ex : ∃ (G : Hp → Prop) (Y : Nat → Hp → V → Hp → Prop), Walk J xs.length G Y ∧ (∀ F' H, Same F F' → Same F' H → G H) ∧
    ∀ i H x H' F', Same F F' → Same F' H → Y i H x H' → ∃ F'' d, Nw F' H F'' H' ∧ xs[i]? = some d ∧ Rep M.K F'' x d
def mI (M : MC) (E : L2.St → XK) (g : ML) : TI := fun σ H R => ∃ F l, StM M F σ H l ∧ wR M E σ F H l (fun xs _ F1 H1 => ∀ J, WalkD M J xs F1 → R J H1) (g l)
theorem pi_imp {tg : Expr} {t t' : TI} (h : PI X tg e t) (imp : ∀ σ H R, t' σ H R → t σ H R) : PI X tg e t' := ⟨fun pins s σ H R I z => h.run pins s σ H R I (imp _ _ _ z)⟩
theorem pi_or {tg : Expr} {t t' : TI} (h : PI X tg e t) (h' : PI X tg e t') : PI X tg e (fun σ H R => t σ H R ∨ t' σ H R) := ⟨fun pins s σ H R I z => z.elim (h.run pins s σ H R I) (h'.run pins s σ H R I)⟩
def chars (z : Str) : List D := z.cps.toList.map fun c => .str ⟨#[c]⟩
def walkD : D → Option (List D)
  | .list xs => some xs
  | .tup xs => some xs
  | .scr ns => some (ns.map .int)
  | .str z => some (chars z)
  | .dict _ kvs => some (kvs.map (·.1))
  | _ => none
def itE (g : ME) : ML := fun l => (g l).bind fun d l1 => Res.lift (walkD d) l1
theorem walkD_list {a : Addr} {vs : List V} {xs : List D} {F : Hp} (h : F a = some (.lst vs)) (rs : Reps M.K F vs xs) : WalkD M (Itl M.K a) xs F := by
  refine ⟨_, _, rs.length ▸ walk_list (K := M.K) (a := a) (xs := vs), fun F' H e s => SqL.of (s _ _ (e _ _ h)), fun i H x H' F' e s y => ?_⟩
  obtain ⟨rfl, y⟩ := y
  have hi : i < xs.length := by rw [← rs.length]; exact get_lt y
  obtain ⟨v, e1, r⟩ := rs.get (List.getElem?_eq_getElem hi)
  rw [y] at e1
  cases e1
  exact ⟨F', _, Nw.refl s, List.getElem?_eq_getElem hi, r.up e⟩
theorem walkD_scr {a : Addr} {ns : List Int} {F : Hp} (h : SqL M.K F a (ns.map V.int)) : WalkD M (Itl M.K a) (ns.map .int) F := by
  have hl : (ns.map V.int).length = (ns.map D.int).length := by rw [List.length_map, List.length_map]
  refine ⟨_, _, hl ▸ walk_list (K := M.K) (a := a) (xs := ns.map V.int), fun F' H e s => s.seq (e.seq h), fun i H x H' F' e s y => ?_⟩
  obtain ⟨rfl, y⟩ := y
  rw [List.getElem?_map] at y
  obtain ⟨n, e1, rfl⟩ := Option.map_eq_some_iff.mp y
  exact ⟨F', .int n, Nw.refl s, by rw [List.getElem?_map, e1]; rfl, .int n⟩
theorem walkD_tup {a : Addr} {vs : List V} {xs : List D} {F : Hp} (h : SqT M.K F a vs) (rs : Reps M.K F vs xs) : WalkD M (Itt M.K a) xs F := by
  refine ⟨_, _, rs.length ▸ walk_tup (K := M.K) (a := a) (xs := vs), fun F' H e s => seqT_same s (seqT_same e h), fun i H x H' F' e s y => ?_⟩
  obtain ⟨rfl, y⟩ := y
  have hi : i < xs.length := by rw [← rs.length]; exact get_lt y
  obtain ⟨v, e1, r⟩ := rs.get (List.getElem?_eq_getElem hi)
  rw [y] at e1
  cases e1
  exact ⟨F', _, Nw.refl s, List.getElem?_eq_getElem hi, r.up e⟩
theorem walkD_str {z : Str} {F : Hp} : WalkD M (Its z) (chars z) F := by
  have hl : z.cps.size = (chars z).length := by rw [chars, List.length_map, Array.length_toList]
  refine ⟨_, _, hl ▸ walk_str (z := z), fun _ _ _ _ => trivial, fun i H x H' F' e s y => ?_⟩
  obtain ⟨rfl, c, y, rfl⟩ := y
  refine ⟨F', .str ⟨#[c]⟩, Nw.refl s, ?_, .str _⟩
  rw [chars, List.getElem?_map, Array.getElem?_toList, y]
  rfl
def Itd (a : Addr) (o : Obj) (es : List (Int × V × V)) : It :=
  ⟨fun i H => H a = some (ObjO a o) ∧ i < es.length, fun i H x H' => H' = H ∧ ∃ e, es[i]? = some e ∧ x = e.2.1, fun i H => H a = some (ObjO a o) ∧ es.length ≤ i⟩
theorem objO_at {P : Program} {w : World} {H : Hp} {h : Heap} {a : Addr} {o : Obj} (k : HOk P w H h) (e : H a = some (ObjO a o)) : h.get? a = some o := (show ObjOk P w H h a (ObjO a o) from k a _ e).1
theorem turn_dct {P : Program} {w : World} {K : PySem.W.Frag} {tg : Expr} {a it : Addr} {o : Obj} {es : List (Int × V × V)} (k : DctOk a o es) {xs : Array DictEntry} {ep : Nat} (hd : o.data = .dict xs ep)
    (pr : Paired (fun (e : Int × V × V) (x : DictEntry) => e.1 = x.hash ∧ RelV e.2.1 x.key ∧ RelV e.2.2 x.val) es xs.toList) : Turn P w K tg (Itd a o es) [it] it (fun i h => h.IsKeyIter it a i xs.size ep) where
  mem := by simp
  obj := fun i h st b hb => by
    have e : b = it := by simpa using hb
    subst e
    obtain ⟨o, e, c, d⟩ := st
    exact ⟨o, e, fun v z => by rw [d] at z; cases z⟩
  keep := fun i h h' st k => st.at fun o e => k it (by simp) o e
  item := by
    intro X hP hw hK hc i pins s σ H E I hf st hg
    subst hP hw hK
    obtain ⟨ha, hi⟩ := hg
    have raw : s.heap.DictRaw a xs ep := ⟨o, objO_at I.hok ha, k.ex, hd⟩
    obtain ⟨f0, f1, f2, f3, f4, f5⟩ := hf it (by simp)
    have hl : es.length = xs.size := by rw [Paired.length pr, Array.length_toList]
    have hx : i < xs.size := by omega
    refine wpAny_pyNext_keys_item_raw st raw hx fun h' st' sb => ?_
    have I1 : Inv X pins σ H { s with heap := h' } := I.turned (t' := s.toks) (fun b o hb e => (sb.2 b hb).trans e) f0 f1 f3 f4 f5
    obtain ⟨ob, e, c, d⟩ := id st'
    have at_ : ∃ e, es[i]? = some e ∧ RelV e.2.1 xs[i].key := by
      have g : ∀ {es : List (Int × V × V)} {ys : List DictEntry} {i : Nat} {y : DictEntry}, Paired (fun (e : Int × V × V) (x : DictEntry) => e.1 = x.hash ∧ RelV e.2.1 x.key ∧ RelV e.2.2 x.val) es ys → ys[i]? = some y → ∃ e, es[i]? = some e ∧ RelV e.2.1 y.key := by
        intro es ys i y p
        induction p generalizing i with
        | nil => intro z; simp at z
        | cons r t ih =>
          intro z
          cases i with
          | zero => cases z; exact ⟨_, rfl, r.2.1⟩
          | succ i => simpa using ih (by simpa using z)
      exact g pr (by simp [hx])
    obtain ⟨e1, he1, r1⟩ := at_
    exact ⟨_, rfl, go_of (s := { s with heap := h' }) e c d (by decide) ⟨e1.2.1, H, I1, r1, ⟨rfl, e1, he1, rfl⟩, st', fun b hb => (hf b hb).1⟩⟩
  done := by
    intro X hP hw hK hc i pins s σ H E I hf st hg
    subst hP hw hK
    obtain ⟨ha, hi⟩ := hg
    have raw : s.heap.DictRaw a xs ep := ⟨o, objO_at I.hok ha, k.ex, hd⟩
    obtain ⟨f0, f1, f2, f3, f4, f5⟩ := hf it (by simp)
    have hl : es.length = xs.size := by rw [Paired.length pr, Array.length_toList]
    exact wpAny_pyNext_keys_end_raw (I.ok.hd hc) st raw (by omega) fun h' eb => ⟨rfl, I.turned (t' := s.toks) (fun b o hb e => eb b o hb e) f0 f1 f3 f4 f5⟩
  self := fun _ _ _ _ _ st h => wpAny_pyIter_keyiter st h
def iDct (tl : TE) : TI := fun σ H R => tl σ H fun x H1 => ∃ a o es, x = .ref a ∧ H1 a = some (ObjO a o) ∧ DctOk a o es ∧ R (Itd a o es) H1
theorem pi_dct {X : Cx} {tg l : Expr} {tl : TE} (hl : PE X l tl) : PI X tg l (iDct tl) := by
  refine ⟨fun pins s σ H R I h => ?_⟩
  refine thn (hl.run pins s σ H _ I h) fun v s1 ⟨x, H1, I1, r1, q1⟩ => ?_
  obtain ⟨a, o, es, e, ha, k, q⟩ := q1
  subst e
  cases r1
  obtain ⟨xs, ep, hd, pr⟩ := k.at_
  refine wpAny_pyIter_dict_raw k.sys ⟨o, objO_at I1.hok ha, k.ex, hd⟩ ?_
  refine ⟨s1.heap.objs.size, [s1.heap.objs.size], _, _, H1, rfl, I1.kept (t' := s1.toks) fun b o e => Heap.get?_push_of_some _ e, turn_dct k hd pr, ⟨_, Heap.get?_push_size _ rfl, rfl, rfl⟩, fun b hb => ?_, q⟩
  have e : b = s1.heap.objs.size := by simpa using hb
  subst e
  exact I1.fpOk (Nat.le_refl _) (I1.hok.fresh (Nat.le_refl _))
theorem RepD.length {K : PySem.W.Frag} {F : Hp} {w : World} : ∀ {es : List (Int × V × V)} {kvs : List (D × D)}, RepD K F w es kvs → es.length = kvs.length
  | _, _, .nil => rfl
  | _, _, .cons _ _ _ _ _ t => congrArg (· + 1) (RepD.length t)
theorem RepD.key {K : PySem.W.Frag} {F : Hp} {w : World} : ∀ {es : List (Int × V × V)} {kvs : List (D × D)} {i : Nat} {e : Int × V × V}, RepD K F w es kvs → es[i]? = some e → ∃ p, kvs[i]? = some p ∧ Rep K F e.2.1 p.1
  | _, _, _, _, .nil, h => by simp at h
  | _, _, 0, _, .cons _ _ _ r _ _, h => by cases h; exact ⟨_, rfl, r⟩
  | _, _, i + 1, e, .cons _ _ _ _ _ t, h => by
    obtain ⟨p, a, b⟩ := RepD.key (i := i) (e := e) t (by simpa using h)
    exact ⟨p, by simpa using a, b⟩
theorem walkD_dct {a : Addr} {o : Obj} {es : List (Int × V × V)} {w : World} {kvs : List (D × D)} {F : Hp} (h : F a = some (ObjO a o)) (k : DctOk a o es) (r : RepD M.K F w es kvs) : WalkD M (Itd a o es) (kvs.map (·.1)) F := by
  have hl : es.length = (kvs.map (·.1)).length := by rw [List.length_map, r.length]
  have wk : Walk (Itd a o es) (kvs.map (·.1)).length (fun H => H a = some (ObjO a o)) (fun i H x H' => H' = H ∧ ∃ e, es[i]? = some e ∧ x = e.2.1) := by
    rw [← hl]
    exact ⟨fun i H hi g => ⟨g, hi⟩, fun H g => ⟨g, Nat.le_refl _⟩, fun i H x H' _ _ y => y⟩
  refine ⟨_, _, wk, fun F' H e s => s _ _ (e _ _ h), fun i H x H' F' e s y => ?_⟩
  obtain ⟨rfl, e1, he1, rfl⟩ := y
  obtain ⟨p, hp, rp⟩ := r.key he1
  exact ⟨F', p.1, Nw.refl s, by rw [List.getElem?_map, hp]; rfl, rp.up e⟩
theorem mi_data {tg : Expr} (eK : X.K = M.K) (he : PE X e (mE M E ga)) : PI X tg e (mI M E (itE ga)) := by
  refine pi_imp (pi_or (pi_list he) (pi_or (pi_tup he) (pi_or (pi_str he) (pi_dct he)))) fun σ H R z => ?_
  obtain ⟨F, l, st, w⟩ := z
  have w1 := wR.bind (r := ga l) w
  cases hg : ga l with
  | stuck => rw [hg] at w1; exact w1.elim
  | err c f d l1 => rw [hg] at w1; exact .inl ⟨F, l, st, by rw [hg]; exact w1⟩
  | ok d l1 =>
    rw [hg] at w1
    have go : ∀ F1 H1, Gr σ l l1 F H F1 H1 → StM M F1 σ H1 l1 → ∀ xs, walkD d = some xs → ∀ J, WalkD M J xs F1 → R J H1 := by
      intro F1 H1 g1 st1 xs hx
      have w2 : wR M E σ F1 H1 l1 (fun xs _ F1 H1 => ∀ J, WalkD M J xs F1 → R J H1) (Res.lift (walkD d) l1) := w1 F1 H1 g1 st1
      rw [hx] at w2
      exact w2 F1 H1 (Gr.refl _ _ _ _) st1
    cases d with
    | list xs =>
      refine .inl ⟨F, l, st, ?_⟩
      rw [hg]
      intro F1 H1 g1 st1 v rv
      cases rv with
      | list h rs =>
        refine ⟨_, rfl, ⟨_, SqL.of (st1.sub _ _ h)⟩, ?_⟩
        rw [eK]
        exact go F1 H1 g1 st1 _ rfl _ (walkD_list h rs)
    | scr ns =>
      refine .inl ⟨F, l, st, ?_⟩
      rw [hg]
      intro F1 H1 g1 st1 v rv
      cases rv with
      | scr h =>
        rw [eK]
        exact ⟨_, rfl, ⟨_, st1.sub.seq h⟩, go F1 H1 g1 st1 _ rfl _ (walkD_scr h)⟩
    | tup xs =>
      refine .inr (.inl ⟨F, l, st, ?_⟩)
      rw [hg]
      intro F1 H1 g1 st1 v rv
      cases rv with
      | tup h rs =>
        rw [eK]
        exact ⟨_, rfl, ⟨_, seqT_same st1.sub h⟩, go F1 H1 g1 st1 _ rfl _ (walkD_tup h rs)⟩
    | str z =>
      refine .inr (.inr (.inl ⟨F, l, st, ?_⟩))
      rw [hg]
      intro F1 H1 g1 st1 v rv
      cases rv with
      | str _ => exact ⟨z, rfl, go F1 H1 g1 st1 _ rfl _ walkD_str⟩
    | dict w kvs =>
      refine .inr (.inr (.inr ⟨F, l, st, ?_⟩))
      rw [hg]
      intro F1 H1 g1 st1 v rv
      cases rv with
      | dict h k r n => exact ⟨_, _, _, rfl, st1.sub _ _ h, k, go F1 H1 g1 st1 _ rfl _ (walkD_dct h k r)⟩
    | _ =>
      refine .inl ⟨F, l, st, ?_⟩
      rw [hg]
      intro F1 H1 g1 st1
      exact (w1 F1 H1 g1 st1).elim
theorem walkD_range {lo : Int} {n : Nat} {F : Hp} : WalkD M (Itr lo n) ((List.range n).map fun (k : Nat) => D.int (lo + k)) F := by
  have wk : Walk (Itr lo n) ((List.range n).map fun (k : Nat) => D.int (lo + k)).length (fun _ => True) (fun i H x H' => i < n ∧ YFn (fun i => .int (lo + i)) i H x H') := by
    rw [List.length_map, List.length_range]
    exact ⟨fun _ _ hi _ => hi, fun _ _ => Nat.le_refl _, fun i _ _ _ hi _ y => ⟨hi, y⟩⟩
  refine ⟨_, _, wk, fun _ _ _ _ => trivial, fun i H x H' F' e s y => ?_⟩
  obtain ⟨hi, rfl, rfl⟩ := y
  refine ⟨F', .int (lo + i), Nw.refl s, ?_, .int _⟩
  rw [List.getElem?_map, List.getElem?_range hi]
  rfl
theorem mi_range1 {tg : Expr} {p : Pos} (hg : Gl X "range") (hm : X.mg "range" = none) (ha : PA X [e] (mV M E gl)) (hs : starEach [e] X.env = [(false, eval e X.env)] := by rfl) : PI X tg (.Call (.Name "range" p) [e] [] pos) (mI M E (rng1 gl)) := by
  refine pi_imp (pi_range1 hg hm ha hs) fun σ H R z => ?_
  obtain ⟨F, l, st, w⟩ := z
  refine ⟨F, l, st, (wR.bind w).mono fun ds l1 F1 H1 g1 st1 w1 vs rs => ?_⟩
  match ds, rs, w1 with
  | [.int j], .cons (.int _) .nil, w1 =>
    dsimp only at w1
    split at w1
    · rename_i hj
      refine ⟨j, rfl, hj.1, hj.2, w1 F1 H1 (Gr.refl _ _ _ _) st1 _ ?_⟩
      have : ((List.range j.toNat).map fun (k : Nat) => D.int (0 + (k : Int))) = (List.range j.toNat).map fun (k : Nat) => D.int (k : Int) := by
        apply List.map_congr_left
        intro k _
        rw [Int.zero_add]
      rw [← this]
      exact walkD_range
    · exact w1.elim
/-! for -/
def forT (t : MG) (b : MS) : List D → MS
  | [], l => .nx l
  | x :: xs, l => match t x l with
    | some l1 => loopR (b l1) (forT t b xs)
    | none => .stuck
def sForT (t : MG) (g : ML) (b : MS) : MS := fun l => (g l).thn fun xs l1 => forT t b xs l1
theorem ms_for {iter tg : Expr} {body : List Stmt} {ts : List Nat} {t : MG} {tb : MS} (hp : PassesOwn (model X.prog X.w) X.A X.env X.xe) (hc : X.calm = true) (hi : PI X tg iter (mI M E gl)) (hg : PG X tg (mG M ts t)) (hb : PSs X body (mS M E tb))
    (hs : ∀ x, foldedSetIterable iter X.env x = pure x := by intro _; rfl) : PS X (.For tg iter body [] pos) (mS M E (sForT t gl tb)) := by
  refine ps_imp (ps_for hp hc hi hg hb hs) fun Dn σ H z => ?_
  obtain ⟨F, l, st, w⟩ := z
  refine ⟨F, l, st, (wS.thn st w).mono fun xs l1 F1 H1 g1 st1 w1 J wd => ?_⟩
  obtain ⟨G, Y, wk, gG, gY⟩ := wd.ex
  refine for_it wk (fun k σ H => ∃ F l, Same F1 F ∧ StM M F σ H l ∧ wS M E F Dn (forT t tb (xs.drop k) l)) ⟨F1, l1, Same.refl _, st1, w1⟩ ?_ ?_ ?_
  · rintro k σ H _ ⟨F, l, e, st, _⟩
    exact gG F H e st.sub
  · rintro k x σ H H' hk ⟨F, l, e, st, w⟩ y
    obtain ⟨F2, d, nw, ed, rd⟩ := gY k H x H' F e st.sub y
    rw [drop_cons ed] at w
    have st2 := st.new nw
    cases ht : t d l with
    | none => rw [forT, ht] at w; exact w.elim
    | some l2 =>
      rw [forT, ht] at w
      have w : wS M E F Dn (loopR (tb l2) (forT t tb (xs.drop (k + 1)))) := w
      refine ⟨F2, l, d, st2, rd, l2, ht, fun σ' st' _ => ⟨F2, l2, st', (w.later nw.f).loop fun σ F' H l e' st w => ⟨F', l, (e.trans nw.f).trans e', st, w⟩⟩⟩
  · rintro σ H ⟨F, l, e, st, w⟩
    rw [List.drop_eq_nil_of_le (Nat.le_refl _)] at w
    exact w σ F H (Same.refl _) st
end
end Sb

namespace Sb
open PySem PySem.Spec PyProof.Rows L2

/-! ### comprehensions -/
def clr : List Nat → Ld → Ld
  | [], l => l
  | i :: is, l => (clr is l).set i none
def lcM (vs : List Nat) (t : MG) (c : MT) (e : ME) : List D → List D → Ld → Res (List D)
  | [], acc, l => .ok acc l
  | x :: xs, acc, l => match t x l with
    | none => .stuck
    | some l1 => match c l1 with
      | .ok true l2 => (match e l2 with
        | .ok d l3 => if acc.length < sizeLine then lcM vs t c e xs (acc ++ [d]) (clr vs l3) else .stuck
        | _ => .stuck)
      | .ok false l2 => lcM vs t c e xs acc (clr vs l2)
      | _ => .stuck
def emp (vs : List Nat) (l : Ld) : Bool := vs.all fun i => match l[i]? with | some (some _) => false | _ => true
def lcL (vs : List Nat) (t : MG) (c : MT) (e : ME) (g : ML) : ML := fun l => (g l).bind fun xs l1 => if emp vs l1 = true then lcM vs t c e xs [] l1 else .stuck
def yes : MT := fun l => .ok true l
theorem clr_len (vs : List Nat) (l : Ld) : (clr vs l).length = l.length := by
  induction vs with
  | nil => rfl
  | cons i is ih => rw [clr, List.length_set, ih]
theorem clr_get {vs : List Nat} {l : Ld} {j : Nat} {s : Sl} (h : (clr vs l)[j]? = some (some s)) : j ∉ vs ∧ l[j]? = some (some s) := by
  induction vs with
  | nil => exact ⟨by simp, h⟩
  | cons i is ih =>
    rcases get_set (show ((clr is l).set i none)[j]? = some (some s) from h) with ⟨_, z⟩ | ⟨ne, z⟩
    · cases z
    · obtain ⟨a, b⟩ := ih z
      exact ⟨by simp only [List.mem_cons, not_or]; exact ⟨fun z => ne z.symm, a⟩, b⟩
theorem emp_get {vs : List Nat} {l : Ld} (h : emp vs l = true) {i : Nat} {s : Sl} (hi : l[i]? = some (some s)) : i ∉ vs := by
  intro m
  have := List.all_eq_true.mp h i m
  rw [hi] at this
  cases this
theorem wipe_off {σ : L2.St} {j : Nat} {vs : List Nat} (h : j ∉ vs) : (wipe σ vs)[j]? = σ[j]? := by
  induction vs with
  | nil => rfl
  | cons i is ih =>
    simp only [List.mem_cons, not_or] at h
    rw [wipe, List.getElem?_set_ne (fun z => h.1 z.symm), ih h.2]
theorem wipe_in {σ : L2.St} {j : Nat} {vs : List Nat} (h : j ∈ vs) (hj : j < σ.length) : (wipe σ vs)[j]? = some none := by
  induction vs with
  | nil => cases h
  | cons i is ih =>
    rw [wipe]
    by_cases e : i = j
    · subst e
      rw [List.getElem?_set_self (by rw [wipe_length]; exact hj)]
    · rw [List.getElem?_set_ne e]
      exact ih ((List.mem_cons.mp h).resolve_left fun z => e z.symm)
theorem wipe_eq {σ σ2 : L2.St} {ts vs : List Nat} (so : SameOff ts (wipe σ vs) σ2) (sub : ∀ j ∈ ts, j ∈ vs) : wipe σ2 vs = wipe σ vs := by
  apply List.ext_getElem?
  intro j
  by_cases hj : j ∈ vs
  · by_cases hl : j < σ.length
    · rw [wipe_in hj hl, wipe_in hj (by rw [so.len, wipe_length]; exact hl)]
    · rw [List.getElem?_eq_none (by rw [wipe_length, so.len, wipe_length]; omega), List.getElem?_eq_none (by rw [wipe_length]; omega)]
  · rw [wipe_off hj, so.off j fun z => hj (sub j z)]
section
variable {M : MC} {σ σ2 : L2.St} {F H : Hp} {l : Ld} {vs : List Nat}
theorem StM.wipe_ (st : StM M F σ H l) (e : emp vs l = true) (np : ∀ i ∈ vs, NoPar M i) : StM M F (wipe σ vs) H l := by
  have same : ∀ (i : Nat) (s : Sl), l[i]? = some (some s) → (wipe σ vs)[i]? = σ[i]? := fun i s h => wipe_off (emp_get e h)
  refine ⟨st.sub, by rw [wipe_length]; exact st.len, fun i s h => by rw [same i s h]; exact st.slot i s h, fun i j xs ys v a b c d => ?_, st.keepF, st.newF, st.keepH, st.domH, fun q hq => ?_⟩
  · rw [same i _ a] at c
    rw [same j _ b] at d
    exact st.inj i j xs ys v a b c d
  · rw [wipe_off fun z => np q.1 z q hq rfl]
    exact st.pars q hq
theorem StM.clr_ {σ' : L2.St} (st : StM M F σ' H l) (len : σ.length = σ'.length) (off : ∀ j, j ∉ vs → σ[j]? = σ'[j]?) (np : ∀ i ∈ vs, NoPar M i) : StM M F σ H (clr vs l) := by
  refine ⟨st.sub, by rw [clr_len]; exact len.trans st.len, fun i s h => ?_, fun i j xs ys v a b c d => ?_, st.keepF, st.newF, st.keepH, st.domH, fun q hq => ?_⟩
  · obtain ⟨n, h⟩ := clr_get h
    rw [off i n]
    exact st.slot i s h
  · obtain ⟨n1, a⟩ := clr_get a
    obtain ⟨n2, b⟩ := clr_get b
    rw [off i n1] at c
    rw [off j n2] at d
    exact st.inj i j xs ys v a b c d
  · rw [off _ fun z => np q.1 z q hq rfl]
    exact st.pars q hq
end
structure LcSt (M : MC) (σ : L2.St) (vs : List Nat) (F0 H0 : Hp) (l0 : Ld) (Da : Addr) (F H : Hp) (l : Ld) (acc : List D) : Prop where
  st : StM M F (wipe σ vs) H l
  em : emp vs l = true
  gr : Gr σ l0 l F0 H0 F H
  fd : F Da = none
  hd : ∃ av, H Da = some (.lst av) ∧ Reps M.K F av acc
  no : ¬ Own σ l Da
theorem emp_clr (vs : List Nat) (l : Ld) : emp vs (clr vs l) = true := by
  unfold emp
  rw [List.all_eq_true]
  intro i hi
  cases h : (clr vs l)[i]? with
  | none => rfl
  | some o =>
    cases o with
    | none => rfl
    | some s => exact ((clr_get h).1 hi).elim
theorem own_wipe {σ : L2.St} {vs : List Nat} {l : Ld} (e : emp vs l = true) {p : Addr} : Own (wipe σ vs) l p ↔ Own σ l p := by
  constructor
  · rintro ⟨i, xs, a, b⟩
    rw [wipe_off (emp_get e a)] at b
    exact ⟨i, xs, a, b⟩
  · rintro ⟨i, xs, a, b⟩
    exact ⟨i, xs, a, by rw [wipe_off (emp_get e a)]; exact b⟩
abbrev E0 : L2.St → XK := fun _ _ _ _ => False
section
variable {M : MC} {E : L2.St → XK} {gl : ML} {t : MG} {gt : MT} {ge : ME} {ts vs : List Nat}
def TgOk (ts : List Nat) (t : MG) : Prop := ∀ d l l', t d l = some l' → ∀ (i : Nat) (xs : O), l'[i]? = some (some (.ow xs)) → i ∉ ts ∧ l[i]? = some (some (.ow xs))
theorem lc_read {σ : L2.St} {H : Hp} {Q : VK} (np : ∀ i ∈ vs, NoPar M i) (sub : ∀ j ∈ ts, j ∈ vs) (tg : TgOk ts t) (h : mL M E (lcL vs t gt ge gl) σ H Q) : tLc (mI M E gl) (mG M ts t) (mT M E0 gt) (mE M E0 ge) vs σ H Q := by
  obtain ⟨F, l, st, w⟩ := h
  refine ⟨F, l, st, ?_⟩
  cases hg : gl l with
  | stuck => unfold lcL at w; rw [hg] at w; exact w
  | err c f d l1 => unfold lcL at w; rw [hg] at w; exact w
  | ok xs l1 =>
    unfold lcL at w
    rw [hg] at w
    have w : wR M E σ F H l _ (if emp vs l1 = true then lcM vs t gt ge xs [] l1 else .stuck) := w
    split at w
    · rename_i em
      intro F1 H1 g1 st1 J wd Da nD
      obtain ⟨G, Y, wk, gG, gY⟩ := wd.ex
      -- the turns
      refine lc_it wk (fun k H2 => ∃ F2 l2 acc, Same F1 F2 ∧ LcSt M σ vs F H l Da F2 H2 l2 acc ∧ wR M E σ F H l (fun xs l' F' H' => ∀ p vs, H' p = some (.lst vs) → F' p = none → M.H0 p = none → H p = none → ¬ Own σ l' p → Reps M.K F' vs xs → Q (.ref p) H') (lcM vs t gt ge (xs.drop k) acc l2)) ?_ ?_ ?_ ?_
      · have nw := Nw.beside (o := .lst []) st1.sub nD
        have st2 := st1.new nw
        refine ⟨F1, l1, [], Same.refl _, ⟨st2.wipe_ em np, em, g1.trans (st1.gr nw), st1.sub.free nD, ⟨[], upd_same, .nil⟩, fun o => ?_⟩, w⟩
        obtain ⟨⟨ws, z⟩, _⟩ := st1.ownH o
        rw [nD] at z
        cases z
      · rintro k H2 _ ⟨F2, l2, acc, e, ls, _⟩
        exact gG F2 H2 e ls.st.sub
      · rintro k x H2 H3 hk ⟨F2, l2, acc, e, ls, w⟩ y
        obtain ⟨F3, d, nw, ed, rd⟩ := gY k H2 x H3 F2 e ls.st.sub y
        rw [drop_cons ed] at w
        rw [lcM] at w
        have st3 := ls.st.new nw
        have em2 := ls.em
        obtain ⟨av, hav, rav⟩ := ls.hd
        have nD0 : H Da = none := g1.dom _ nD
        have hD0 : M.H0 Da = none := st.domH _ nD0
        cases ht : t d l2 with
        | none => rw [ht] at w; exact w.elim
        | some l3 =>
          rw [ht] at w
          dsimp only at w
          refine ⟨F3, l2, d, st3, rd, l3, ht, fun σ3 st3' so => ⟨wipe_eq so sub, F3, l3, st3', ?_⟩⟩
          -- owned slots through the target
          have own3 : ∀ p, Own σ3 l3 p → Own (wipe σ vs) l2 p := by
            rintro p ⟨i, ys, a, b⟩
            obtain ⟨n1, a'⟩ := tg d l2 l3 ht i ys a
            rw [so.off i n1] at b
            exact ⟨i, ys, a', b⟩
          have offσ : ∀ j, j ∉ vs → (wipe σ vs)[j]? = σ3[j]? := fun j hj => (so.off j fun z => hj (sub j z)).symm
          -- what a later moment of the turn gives
          have turn : ∀ F4 H4 l4, Gr σ3 l3 l4 F3 H3 F4 H4 → StM M F4 σ3 H4 l4 → ∀ (o : HO), Same F1 F4 ∧ StM M F4 (wipe σ vs) H4 (clr vs l4) ∧ Gr σ l (clr vs l4) F H F4 H4 ∧ F4 Da = none ∧ H4 Da = some (.lst av) ∧ Reps M.K F4 av acc ∧ ¬ Own σ (clr vs l4) Da := by
            intro F4 H4 l4 g4 st4 o
            have nO3 : ¬ Own σ3 l3 Da := fun z => ls.no ((own_wipe em2).mp (own3 _ z))
            have hav3 : H3 Da = some (.lst av) := nw.h _ _ hav
            have fd3 : F3 Da = none := nw.n _ _ hav ls.fd
            obtain ⟨fd4, hd4⟩ := g4.frn Da _ hav3 fd3 nO3
            have stc : StM M F4 (wipe σ vs) H4 (clr vs l4) := st4.clr_ (so.len.symm) offσ np
            have own4 : ∀ p, Own σ (clr vs l4) p → Own σ l2 p := by
              intro p z
              rw [← own_wipe (emp_clr vs l4)] at z
              obtain ⟨i, ys, a, b⟩ := z
              obtain ⟨n1, a1⟩ := clr_get a
              rw [offσ i n1] at b
              exact (own_wipe em2).mp (own3 p (g4.own p ⟨i, ys, a1, b⟩))
            refine ⟨(e.trans nw.f).trans g4.ext, stc, ⟨(ls.gr.ext.trans nw.f).trans g4.ext, fun p z => ls.gr.own p (own4 p z), fun p o' hp fp n => ?_, fun a z => ls.gr.dom a (nw.h.free (g4.dom a z))⟩, fd4, hd4, (rav.up nw.f).up g4.ext, fun z => ls.no (own4 _ z)⟩
            obtain ⟨f2, h2⟩ := ls.gr.frn p o' hp fp n
            have f3 := nw.n p o' h2 f2
            have h3 := nw.h p o' h2
            exact g4.frn p o' h3 f3 fun z => n (ls.gr.own p ((own_wipe em2).mp (own3 p z)))
          cases hc : gt l3 with
          | stuck => rw [hc] at w; exact w.elim
          | err c f d l4 => rw [hc] at w; exact w.elim
          | ok b l4 =>
            rw [hc] at w
            intro F4 H4 g4 st4
            cases b with
            | false =>
              obtain ⟨a1, a2, a3, a4, a5, a6, a7⟩ := turn F4 H4 l4 g4 st4 (.lst [])
              exact ⟨F4, _, acc, a1, ⟨a2, emp_clr _ _, a3, a4, ⟨av, a5, a6⟩, a7⟩, w⟩
            | true =>
              refine ⟨F4, l4, st4, ?_⟩
              dsimp only at w
              cases he : ge l4 with
              | stuck => rw [he] at w; exact w.elim
              | err c f d l5 => rw [he] at w; exact w.elim
              | ok y l5 =>
                rw [he] at w
                intro F5 H5 g5 st5 v rv
                obtain ⟨a1, a2, a3, a4, a5, a6, a7⟩ := turn F5 H5 l5 (g4.trans g5) st5 (.lst [])
                dsimp only at w
                split at w
                · rename_i hz
                  refine ⟨av, a5, by rw [a6.length]; exact hz, F5, _, acc ++ [y], a1, ?_, w⟩
                  have rv' : Reps M.K F5 (av ++ [v]) (acc ++ [y]) := a6.append (.cons rv .nil)
                  have neD : ∀ b o, F5 b = some o → b ≠ Da := fun b o z => ne_of_none z a4
                  have st6 : StM M F5 (wipe σ vs) (upd H5 Da (.lst (av ++ [v]))) (clr vs l5) := by
                    refine ⟨fun b o z => ?_, a2.len, fun i s h => ?_, a2.inj, a2.keepF, a2.newF, fun a o h n => ?_, fun a h => ?_, a2.pars⟩
                    · rw [upd_ne (neD b o z)]
                      exact a2.sub _ _ z
                    · obtain ⟨u, eu, ok⟩ := a2.slot i s h
                      refine ⟨u, eu, ?_⟩
                      cases s with
                      | fr d => exact ok
                      | ow zs =>
                        obtain ⟨q, ws, rfl, h1, h2⟩ := ok
                        have : q ≠ Da := by
                          rintro rfl
                          exact a7 ((own_wipe (emp_clr _ _)).mp ⟨i, zs, h, eu⟩)
                        exact ⟨q, ws, rfl, by rw [upd_ne this]; exact h1, h2⟩
                    · have : a ≠ Da := ne_of_none h hD0
                      rw [upd_ne this]
                      exact a2.keepH a o h n
                    · by_cases z : a = Da
                      · subst z
                        rw [upd_same] at h
                        cases h
                      · rw [upd_ne z] at h
                        exact a2.domH a h
                  refine ⟨st6, emp_clr _ _, ⟨a3.ext, a3.own, fun p o' hp fp n => ?_, fun a z => ?_⟩, a4, ⟨_, upd_same, rv'⟩, a7⟩
                  · rw [upd_ne (ne_of_none hp nD0)]
                    exact a3.frn p o' hp fp n
                  · by_cases q : a = Da
                    · subst q
                      exact nD0
                    · rw [upd_ne q] at z
                      exact a3.dom a z
                · exact w.elim
      · rintro H2 ⟨F2, l2, acc, e, ls, w⟩
        rw [List.drop_eq_nil_of_le (Nat.le_refl _), lcM] at w
        obtain ⟨av, hav, rav⟩ := ls.hd
        have nD0 : H Da = none := g1.dom _ nD
        have back : StM M F2 σ H2 l2 := by
          have s := ls.st
          have em2 := ls.em
          refine ⟨s.sub, by rw [← s.len, wipe_length], fun i q h => ?_, fun i j xs ys v a b c d => ?_, s.keepF, s.newF, s.keepH, s.domH, fun q hq => ?_⟩
          · rw [← wipe_off (σ := σ) (emp_get em2 h)]
            exact s.slot i q h
          · rw [← wipe_off (σ := σ) (emp_get em2 a)] at c
            rw [← wipe_off (σ := σ) (emp_get em2 b)] at d
            exact s.inj i j xs ys v a b c d
          · rw [← wipe_off (σ := σ) fun z => np q.1 z q hq rfl]
            exact s.pars q hq
        exact w F2 H2 ls.gr back Da av hav ls.fd (st.domH _ nD0) nD0 ls.no rav
    · exact w.elim
theorem tg_name (i : Nat) : TgOk [i] (tName i) := fun d l l' h j xs e => by
  cases h
  rcases get_set e with ⟨_, z⟩ | ⟨ne, z⟩
  · cases z
  · exact ⟨by simpa using fun z => ne z.symm, z⟩
end
section
variable {X : Cx} {M : MC} {E : L2.St → XK} {gl : ML} {t : MG} {gt : MT} {ge : ME} {ts : List Nat} {pos : Pos}
theorem mts_nil : PTs X [] (mT M E0 yes) := ⟨fun pins s σ H Q I z => (pts_nil (X := X)).run pins s σ H Q I (by
  obtain ⟨F, l, st, w⟩ := z
  exact w F H (Gr.refl _ _ _ _) st)⟩
theorem ml_lc {elt tg iter : Expr} {ifs : List Expr} {scope : Scope} {own : List (Str × Nat)} (np : ∀ i ∈ own.map (·.2), NoPar M i) (sub : ∀ j ∈ ts, j ∈ own.map (·.2)) (tok : TgOk ts t) (hc : X.calm = true) (hN : X.N.Nodup) (hi : PI X tg iter (mI M E gl)) (ok : BlkOk X.N X.env.scope scope own)
    (hg : ∀ (s : Shared) (H : Hp) (C : Addr) (cl : List (Str × Addr)) (fp : List Addr), PG (X.blk s H scope (compEnvC scope cl C X.env) fp) tg (mG M ts t)) (ht : ∀ (s : Shared) (H : Hp) (C : Addr) (cl : List (Str × Addr)) (fp : List Addr), PTs (X.blk s H scope (compEnvC scope cl C X.env) fp) ifs (mT M E0 gt))
    (he : ∀ (s : Shared) (H : Hp) (C : Addr) (cl : List (Str × Addr)) (fp : List Addr), PE (X.blk s H scope (compEnvC scope cl C X.env) fp) elt (mE M E0 ge)) (hs : ∀ x, foldedSetIterable iter X.env x = pure x := by intro _; rfl) :
    PE X (.ListComp elt [⟨tg, iter, ifs, 0⟩] scope pos) (mL M E (lcL (own.map (·.2)) t gt ge gl)) :=
  pe_imp (pe_lc hc hN hi ok hg ht he hs) fun _ _ _ z => lc_read np sub tok z
end
end Sb

namespace Sb
open PySem PySem.Spec PyProof.Rows L2

/-! ### a slot's list changed -/
def sPut (i : Nat) (gb ge : ME) : MS := fun l => (ge l).thn fun d l1 => if has? i l1 = true then (gb l1).thn fun e l2 => match l2[i]?, e with
  | some (some (.ow (.lst xs))), .int k => (match ixN xs.length k with | some j => .nx (l2.set i (some (.ow (.lst (xs.set j d))))) | none => .stuck)
  | _, _ => .stuck else .stuck
def isOw (i : Nat) (l : Ld) : Bool := match l[i]? with | some (some (.ow (.lst _))) => true | _ => false
def mtS (i : Nat) (f : List D → List D → Option (D × List D)) (g : ML) : ME := fun l => if isOw i l = true then (g l).bind fun ds l1 => match l1[i]? with
  | some (some (.ow (.lst xs))) => (match f xs ds with | some (r, ys) => .ok r (l1.set i (some (.ow (.lst ys)))) | none => .stuck)
  | _ => .stuck else .stuck
section
variable {X : Cx} {M : MC} {E : L2.St → XK} {a b e : Expr} {es : List Expr} {ga gb ge : ME} {gl : ML} {pos pos' p p' apos cpos : Pos} {i : Nat} {x name : Str}
theorem ms_put (hN : X.N[i]? = some x) (hv : Vis X.env.scope x) (hb : PE X b (mE M E gb)) (he : PE X e (mE M E ge)) (hd : (x == ("__debug__" : Str)) = false := by decide) (hcd : (x == ("__classdict__" : Str)) = false := by decide)
    (ha : ∀ v, assign (.Subscript (.Name x p) b p') X.env v = (do
      let ov ← holding [v] (eval (.Name x p) X.env)
      let iv ← holding [v, ov] (eval b X.env)
      standAt p'
      holding [v, ov, iv] (setItem ov iv v)
      release [v, ov, iv] []) := by intro _; rfl)
    (hs : swapsWithSole [.Subscript (.Name x p) b p'] e pos.line X.env = pure false := by rfl) (hw : swappedStores [.Subscript (.Name x p) b p'] e X.env = pure none := by rfl) (h1 : (assignEach [.Subscript (.Name x p) b p'] X.env).map (·.2) = [assign (.Subscript (.Name x p) b p') X.env] := by rfl) :
    PS X (.Assign [.Subscript (.Name x p) b p'] e pos) (mS M E (sPut i gb ge)) :=
  ps_imp (ps_asg he (pg_sub (pe_var hN hv hd hcd) hb set_list ha) hs hw h1) fun Dn σ H z => by
    obtain ⟨F, l, st, w⟩ := z
    refine ⟨F, l, st, (wS.thn st w).mono fun d l1 F1 H1 g1 st1 w1 v rv => ?_⟩
    split at w1
    · rename_i hh
      obtain ⟨s, hl⟩ := has_some hh
      obtain ⟨o, eo, _⟩ := st1.slot i s hl
      refine ⟨o, eo, F1, l1, st1, (wS.thn st1 w1).mono fun e l2 F2 H2 g2 st2 w2 y ry => ?_⟩
      split at w2
      · rename_i xs k hl2
        cases ry
        split at w2
        · rename_i j hj
          obtain ⟨o', eo', q, _, rfl, hq, fq, ⟨vs, rfl, rs⟩, _⟩ := st2.slot i _ hl2
          rw [eo] at eo'
          cases eo'
          have rs' : Reps M.K F2 (vs.set j v) (xs.set j d) := rs.set (rv.up g2.ext) j
          obtain ⟨st3, _⟩ := st2.put (ys := .lst _) hl2 eo ⟨_, rfl, rs'⟩
          exact ⟨q, vs, k, j, rfl, rfl, hq, by rw [rs.length]; exact hj, w2 σ F2 _ (Same.refl _) st3⟩
        · exact w2.elim
      · exact w2.elim
    · exact w1.elim
theorem isOw_some {l : Ld} (h : isOw i l = true) : ∃ xs, l[i]? = some (some (.ow (.lst xs))) := by
  unfold isOw at h
  split at h
  · exact ⟨_, by assumption⟩
  · cases h
def MtD (K : PySem.W.Frag) (r : V → List V → Hp → VK → Prop) (f : List D → List D → Option (D × List D)) : Prop :=
  ∀ (q : Addr) (vs ws : List V) (xs ds : List D) (rr : D) (ys : List D) (F H : Hp) (Q : VK), H q = some (.lst vs) → F q = none → Same F H → Reps K F vs xs → Reps K F ws ds → f xs ds = some (rr, ys) →
    (∀ v vs', Rep K F v rr → Reps K F vs' ys → Q v (upd H q (.lst vs'))) → r (.ref q) ws H Q
theorem mt_core {id : String} {r : V → List V → Hp → VK → Prop} {f : List D → List D → Option (D × List D)} (md : MtD M.K r f) {σ : L2.St} {F H : Hp} {l : Ld} {o : V} {ds : List D} {ws : List V} {Q : VK} (st : StM M F σ H l) (eo : σ[i]? = some (some o)) (rs : Reps M.K F ws ds)
    (w : wR M E σ F H l (fun d _ F' H' => ∀ v, Rep M.K F' v d → Q v H') (match l[i]? with
  | some (some (.ow (.lst xs))) => (match f xs ds with | some (r, ys) => .ok r (l.set i (some (.ow (.lst ys)))) | none => .stuck)
  | _ => .stuck)) : r o ws H Q := by
  split at w
  · rename_i xs hl
    obtain ⟨o', eo', q, _, rfl, hq, fq, ⟨vs, rfl, rv⟩, _⟩ := st.slot i _ hl
    rw [eo] at eo'
    cases eo'
    split at w
    · rename_i rr ys hf
      refine md q vs ws xs ds rr ys F H Q hq fq st.sub rv rs hf fun v vs' r1 r2 => ?_
      obtain ⟨st2, g2⟩ := st.put (ys := .lst _) hl eo ⟨_, rfl, r2⟩
      exact w F _ g2 st2 v r1
    · exact w.elim
  · exact w.elim
theorem me_mt {id : String} {r : V → List V → Hp → VK → Prop} {f : List D → List D → Option (D × List D)} (md : MtD M.K r f) (eK : X.K = M.K) (slot : Slot "list" name id) (hty : typeOf (.builtin id) = pure (.type "method_descriptor")) (hm : MtR X id r) (hN : X.N[i]? = some x) (hv : Vis X.env.scope x) (ha : PA X (e :: es) (mV M E gl))
    (hd : (x == ("__debug__" : Str)) = false := by decide) (hcd : (x == ("__classdict__" : Str)) = false := by decide)
    (hbase : attributeBase (.Name x p) name X.env (eval (.Name x p) X.env) = eval (.Name x p) X.env := by rfl)
    (hfew : ((backTo cpos (starEach (e :: es) X.env)).all (fun x => !x.1) && (backToKw cpos (keywordEach [] X.env)).all (fun x => x.1.isSome)
      && decide ((e :: es).length + ([] : List Keyword).length + (if ([] : List Keyword).isEmpty then 0 else 1) < 30)) = true := by rfl)
    (hline : (apos.endLine == cpos.line) = true := by rfl) (hs : starEach (e :: es) X.env = (false, eval e X.env) :: starEach es X.env := by rfl) (hplain : (backTo cpos (starEach es X.env)).any (·.1) = false := by rfl) :
    PE X (.Call (.Attribute (.Name x p) name apos) (e :: es) [] cpos) (mE M E (mtS i f gl)) :=
  pe_imp (pe_bm PySem.F.plainAttrs_list slot hty hm (pe_var hN hv hd hcd) ha hbase hfew hline hs hplain) fun σ H Q z => by
    obtain ⟨F, l, st, w⟩ := z
    unfold mtS at w
    split at w
    · rename_i hh
      obtain ⟨xs, hl⟩ := isOw_some hh
      obtain ⟨o, eo, q, _, rfl, hq, _, ⟨vs, rfl, _⟩, _⟩ := st.slot i _ hl
      refine ⟨_, eo, .inl ⟨rfl, _, SqL.of hq⟩, F, l, st, (wR.bind w).mono fun ds l1 F1 H1 g1 st1 w1 ws rs => ?_⟩
      exact mt_core (id := id) md st1 eo rs w1
    · exact w.elim
theorem me_mt0 {id : String} {r : V → List V → Hp → VK → Prop} {f : List D → List D → Option (D × List D)} (md : MtD M.K r f) (eK : X.K = M.K) (slot : Slot "list" name id) (hty : typeOf (.builtin id) = pure (.type "method_descriptor")) (hm : MtR X id r) (hN : X.N[i]? = some x) (hv : Vis X.env.scope x)
    (hd : (x == ("__debug__" : Str)) = false := by decide) (hcd : (x == ("__classdict__" : Str)) = false := by decide)
    (hbase : attributeBase (.Name x p) name X.env (eval (.Name x p) X.env) = eval (.Name x p) X.env := by rfl) (hline : (apos.endLine == cpos.line) = true := by rfl) :
    PE X (.Call (.Attribute (.Name x p) name apos) [] [] cpos) (mE M E (mtS i f vNil)) :=
  pe_imp (pe_bm0 PySem.F.plainAttrs_list slot hty hm (pe_var hN hv hd hcd) hbase hline) fun σ H Q z => by
    obtain ⟨F, l, st, w⟩ := z
    unfold mtS at w
    split at w
    · rename_i hh
      obtain ⟨xs, hl⟩ := isOw_some hh
      obtain ⟨o, eo, q, _, rfl, hq, _, ⟨vs, rfl, _⟩, _⟩ := st.slot i _ hl
      refine ⟨_, eo, .inl ⟨rfl, _, SqL.of hq⟩, ?_⟩
      exact mt_core (id := id) md st eo .nil w
    · exact w.elim
end
/-! the methods -/
def fAppend (xs : List D) : List D → Option (D × List D)
  | [d] => if xs.length < sizeLine then some (.non, xs ++ [d]) else none
  | _ => none
theorem md_append (K : PySem.W.Frag) : MtD K rAppend fAppend := by
  intro q vs ws xs ds rr ys F H Q hq fq s rv rs hf k
  match ds, rs, hf with
  | [d], .cons r .nil, hf =>
    have hf : (if xs.length < sizeLine then some (D.non, xs ++ [d]) else none) = some (rr, ys) := hf
    split at hf
    · rename_i hz
      cases hf
      exact ⟨q, vs, _, rfl, rfl, hq, by rw [rv.length]; exact hz, k _ _ .non (rv.append (.cons r .nil))⟩
    · cases hf
def fReverse (xs : List D) : List D → Option (D × List D)
  | [] => some (.non, xs.reverse)
  | _ => none
theorem md_reverse (K : PySem.W.Frag) : MtD K rReverse fReverse := by
  intro q vs ws xs ds rr ys F H Q hq fq s rv rs hf k
  match ds, rs, hf with
  | [], .nil, hf =>
    cases hf
    exact ⟨q, vs, rfl, rfl, hq, k _ _ .non rv.reverse⟩
def fExtend (xs : List D) : List D → Option (D × List D)
  | [.list zs] => if xs.length + zs.length ≤ sizeLine then some (.non, xs ++ zs) else none
  | _ => none
theorem md_extend (K : PySem.W.Frag) : MtD K rExtend fExtend := by
  intro q vs ws xs ds rr ys F H Q hq fq s rv rs hf k
  match ds, rs, hf with
  | [.list zs], .cons (.list h r) .nil, hf =>
    have hf : (if xs.length + zs.length ≤ sizeLine then some (D.non, xs ++ zs) else none) = some (rr, ys) := hf
    split at hf
    · rename_i hz
      cases hf
      exact ⟨q, _, vs, _, rfl, rfl, hq, s _ _ h, by rw [rv.length, r.length]; exact hz, k _ _ .non (rv.append r)⟩
    · cases hf
/-! ### a def by its mirror -/
def frees (fs : List Nat) (ss : List Sl) : Bool := fs.all fun i => match ss[i]? with | some (.ow _) => false | _ => true
def back : List Sl → Ld → Option (List Sl)
  | [], _ => some []
  | .fr d :: ss, _ :: l => (back ss l).map (.fr d :: ·)
  | .ow _ :: ss, some t :: l => (back ss l).map (t :: ·)
  | _, _ => none
def runF (g : MS) (n : Nat) (fs : List Nat) : MF := fun ss => if frees fs ss = true then (match g (ss.map some ++ List.replicate (n - ss.length) none) with
  | .nx l => (match back ss l with | some ss' => .ok (.fr .non) ss' | none => .stuck)
  | .rt s l => (match back ss l with | some ss' => .ok s ss' | none => .stuck)
  | .err c f d l => (match back ss l with | some ss' => .err c f d ss' | none => .stuck)
  | _ => .stuck) else .stuck
theorem back_fr : ∀ {ss : List Sl} {l : Ld} {ss' : List Sl}, back ss l = some ss' → ∀ (i : Nat) (d : D), ss[i]? = some (.fr d) → ss'[i]? = some (.fr d)
  | [], _, _, h, i, d, e => by simp at e
  | .fr d0 :: ss, [], ss', h, i, d, e => by simp [back] at h
  | .fr d0 :: ss, o :: l, ss', h, i, d, e => by
    obtain ⟨r, h1, rfl⟩ := Option.map_eq_some_iff.mp (show (back ss l).map (.fr d0 :: ·) = some ss' from h)
    cases i with
    | zero => cases e; rfl
    | succ i => simpa using back_fr h1 i d (by simpa using e)
  | .ow xs :: ss, [], ss', h, i, d, e => by simp [back] at h
  | .ow xs :: ss, none :: l, ss', h, i, d, e => by simp [back] at h
  | .ow xs :: ss, some t :: l, ss', h, i, d, e => by
    obtain ⟨r, h1, rfl⟩ := Option.map_eq_some_iff.mp (show (back ss l).map (t :: ·) = some ss' from h)
    cases i with
    | zero => cases e
    | succ i => simpa using back_fr h1 i d (by simpa using e)
theorem back_ow : ∀ {ss : List Sl} {l : Ld} {ss' : List Sl}, back ss l = some ss' → ∀ (i : Nat) (xs : O) (s : Sl), ss[i]? = some (.ow xs) → ss'[i]? = some s → l[i]? = some (some s)
  | [], _, _, h, i, d, s, e, _ => by simp at e
  | .fr d0 :: ss, [], ss', h, i, d, s, e, _ => by simp [back] at h
  | .fr d0 :: ss, o :: l, ss', h, i, d, s, e, e2 => by
    obtain ⟨r, h1, rfl⟩ := Option.map_eq_some_iff.mp (show (back ss l).map (.fr d0 :: ·) = some ss' from h)
    cases i with
    | zero => cases e
    | succ i => simpa using back_ow h1 i d s (by simpa using e) (by simpa using e2)
  | .ow xs :: ss, [], ss', h, i, d, s, e, _ => by simp [back] at h
  | .ow xs :: ss, none :: l, ss', h, i, d, s, e, _ => by simp [back] at h
  | .ow xs :: ss, some t :: l, ss', h, i, d, s, e, e2 => by
    obtain ⟨r, h1, rfl⟩ := Option.map_eq_some_iff.mp (show (back ss l).map (t :: ·) = some ss' from h)
    cases i with
    | zero => cases e2; rfl
    | succ i => simpa using back_ow h1 i d s (by simpa using e) (by simpa using e2)
def parsOf (vs : List V) (ss : List Sl) : List (Nat × Addr) := (List.range vs.length).filterMap fun (i : Nat) => match (ss[i]? : Option Sl), (vs[i]? : Option V) with
  | some (.ow _), some (.ref p) => some (i, p)
  | _, _ => none
theorem mem_pars {vs : List V} {ss : List Sl} {i : Nat} {p : Addr} : (i, p) ∈ parsOf vs ss ↔ ∃ xs, ss[i]? = some (.ow xs) ∧ vs[i]? = some (.ref p) := by
  unfold parsOf
  rw [List.mem_filterMap]
  constructor
  · rintro ⟨j, _, h⟩
    split at h
    · rename_i xs q a b
      cases h
      exact ⟨xs, a, b⟩
    · cases h
  · rintro ⟨xs, a, b⟩
    exact ⟨i, List.mem_range.mpr (get_lt b), by rw [a, b]⟩
section
variable {K : PySem.W.Frag} {F H : Hp} {vs : List V} {ss : List Sl}
theorem start_st {N : List Str} {E : L2.St → XK} (s : Same F H) (ok : ArgsOk K F H vs ss) : StM ⟨K, F, H, parsOf vs ss⟩ F (L2.start N vs) H (ss.map some ++ List.replicate (N.length - ss.length) none) := by
  have at_ : ∀ (i : Nat) (q : Sl), (ss.map some ++ List.replicate (N.length - ss.length) none)[i]? = some (some q) → ss[i]? = some q := by
    intro i q h
    rw [List.getElem?_append] at h
    split at h
    · rw [List.getElem?_map] at h
      obtain ⟨r, e, z⟩ := Option.map_eq_some_iff.mp h
      cases z
      exact e
    · rw [List.getElem?_replicate] at h
      split at h
      · cases h
      · cases h
  have sv : ∀ (i : Nat) (v : V), vs[i]? = some v → (L2.start N vs)[i]? = some (some v) := by
    intro i v h
    unfold L2.start
    rw [List.getElem?_append_left (by rw [List.length_map]; exact get_lt h), List.getElem?_map, h]
    rfl
  have vs' : ∀ (i : Nat) (q : Sl) (v : V), ss[i]? = some q → (L2.start N vs)[i]? = some (some v) → vs[i]? = some v := by
    intro i q v a b
    have hi : i < vs.length := by rw [ok.len]; exact get_lt a
    rw [sv i _ (List.getElem?_eq_getElem hi)] at b
    cases b
    exact List.getElem?_eq_getElem hi
  refine ⟨s, ?_, ?_, ?_, Same.refl _, fun a o _ f _ => f, fun a o h _ => h, fun a h => h, ?_⟩
  · unfold L2.start
    rw [List.length_append, List.length_append, List.length_map, List.length_map, List.length_replicate, List.length_replicate, ok.len]
  · intro i q h
    have e := at_ i q h
    obtain ⟨v, ev, r⟩ := ok.at_ i q e
    refine ⟨v, sv i v ev, ?_⟩
    cases q with
    | fr d => exact r
    | ow xs =>
      obtain ⟨p, ws, rfl, h1, h2, h3⟩ := r
      exact ⟨p, ws, rfl, h1, h2, h3, .inr (mem_pars.mpr ⟨xs, e, ev⟩)⟩
  · intro i j xs ys v a b c d
    have a' := at_ i _ a
    have b' := at_ j _ b
    exact ok.inj i j xs ys v a' b' (vs' i _ v a' c) (vs' j _ v b' d)
  · rintro ⟨i, p⟩ hq
    obtain ⟨xs, a, b⟩ := mem_pars.mp hq
    exact sv i _ b
theorem end_after {σ' : L2.St} {F' H' : Hp} {l' : Ld} {ss' : List Sl} (ok : ArgsOk K F H vs ss) (st : StM ⟨K, F, H, parsOf vs ss⟩ F' σ' H' l') (hb : back ss l' = some ss') : After K F H F' H' vs ss ss' := by
  have out : ∀ p, ¬ OwnA vs ss p → p ∉ (parsOf vs ss).map (·.2) := by
    intro p n h
    obtain ⟨⟨i, q⟩, m, rfl⟩ := List.mem_map.mp h
    obtain ⟨xs, a, b⟩ := mem_pars.mp m
    exact n ⟨i, xs, a, b⟩
  refine ⟨st.keepF, st.sub, fun p o h f n => ⟨st.newF p o h f (out p n), st.keepH p o h (out p n)⟩, st.domH, fun i s' xs a b => ?_, back_fr hb⟩
  obtain ⟨v, ev, r⟩ := ok.at_ i _ b
  obtain ⟨p, ws, rfl, _⟩ := r
  have pr := st.pars (i, p) (mem_pars.mpr ⟨xs, b, ev⟩)
  obtain ⟨u, eu, ok'⟩ := st.slot i s' (back_ow hb i xs s' b a)
  rw [pr] at eu
  cases eu
  refine ⟨_, ev, ?_⟩
  cases s' with
  | fr d => exact ok'
  | ow ys =>
    obtain ⟨q, zs, h1, h2, h3, h4, _⟩ := ok'
    exact ⟨q, zs, h1, h2, h3, h4⟩
theorem run_ok {N : List Str} {g : MS} {fs : List Nat} {Q : VK} {E : XK} (s : Same F H) (ok : ArgsOk K F H vs ss) (w : wF K F H vs ss Q E (runF g N.length fs ss)) :
    (∀ i ∈ fs, ∀ q ∈ parsOf vs ss, q.1 ≠ i) ∧ mS ⟨K, F, H, parsOf vs ss⟩ (fun _ => E) g { nx := fun _ H' => Q .non H', rt := Q } (L2.start N vs) H := by
  unfold runF at w
  split at w
  · rename_i hf
    refine ⟨?_, F, _, start_st (E := fun _ => E) s ok, ?_⟩
    · rintro i hi ⟨j, p⟩ hq rfl
      obtain ⟨xs, a, _⟩ := mem_pars.mp hq
      have := List.all_eq_true.mp hf j hi
      rw [a] at this
      cases this
    · cases hg : g (ss.map some ++ List.replicate (N.length - ss.length) none) with
      | nx l =>
        rw [hg] at w
        intro σ' F' H' _ st
        dsimp only at w
        split at w
        · rename_i ss' hb
          exact w .non F' H' (end_after ok st hb) .non
        · exact w.elim
      | rt q l =>
        rw [hg] at w
        intro v σ' F' H' _ st r
        dsimp only at w
        split at w
        · rename_i ss' hb
          refine w v F' H' (end_after ok st hb) ?_
          cases q with
          | fr d => exact r
          | ow xs =>
            obtain ⟨p, ws, h1, h2, h3, h4, h5⟩ := r
            exact ⟨p, ws, h1, h2, h3, h4, h5⟩
        · exact w.elim
      | err c f d l =>
        rw [hg] at w
        intro v dd σ' F' H' _ st hx fx h0 r
        dsimp only at w
        split at w
        · rename_i ss' hb
          exact w v dd F' H' (end_after ok st hb) hx fx h0 r
        · exact w.elim
      | bk l => rw [hg] at w; exact w.elim
      | ct l => rw [hg] at w; exact w.elim
      | stuck => rw [hg] at w; exact w.elim
  · exact w.elim
end
section
variable {P : Program} {w : World} {K : PySem.W.Frag} {mg : Str → Option Value} {base : Heap} {k : Nat} {x : Str} {st : Stmt} {ps N : List Str} {dvs dv : List V}
theorem has_m {g : MS} {fs : List Nat} (D : DefAt K mg x st dvs) (S : FnScope N ps (defScope st))
    (bnd : ∀ fd, FunD K x x (defArgs st) (defBody st) (defScope st) dvs [] (He.ga K x) fd → ∃ ds, Vals dv ds ∧ Binds K fd ps ds)
    (walk : ∀ (cv : Value) (A : Around) (outer : List Env) (s : Shared) (H : Hp) (E : XK) (F0 H0 : Hp) (pr : List (Nat × Addr)), (∀ i ∈ fs, ∀ q ∈ pr, q.1 ≠ i) → Still A → Room k (A.deeper (envOfC x (defScope st) s.heap.objs.size (He.ga K x) cv)) →
      PSs (cxOf (L2.CX P w) P w K mg base N x (defScope st) (He.ga K x) cv A outer s H E) (defBody st) (mS ⟨K, F0, H0, pr⟩ (fun _ => E) g)) :
    Has P w K mg base (L2.CX P w) (k + 1) x ps dv (spM K ps.length (runF g N.length fs)) := by
  refine hasXB D S bnd (fun vs H Q E h => ?_) (fun cv A outer s H vs Q E hg hr h => ?_)
  · obtain ⟨F, ss, n, _, ok, _⟩ := h
    rw [ok.len, n]
  · obtain ⟨F, ss, n, s', ok, wf⟩ := h
    obtain ⟨np, rd⟩ := run_ok (N := N) s' ok wf
    exact ⟨_, walk cv A outer s H E F H _ np hg hr, rd⟩
end
end Sb

namespace Sb
open PySem PySem.Spec PyProof.Rows L2

/-! ### data as the library's data -/
mutual
def toPy : D → Option PyData
  | .non => some .none
  | .bl b => some (.bool b)
  | .int i => some (.int i)
  | .str x => some (.str x)
  | .scr ns => some (.list (ns.map .int))
  | .list xs => (toPys xs).map .list
  | .tup xs => (toPys xs).map .tuple
  | _ => none
def toPys : List D → Option (List PyData)
  | [] => some []
  | d :: ds => (toPy d).bind fun p => (toPys ds).map (p :: ·)
end
section
variable {K : PySem.W.Frag} {F H : Hp}
theorem dp_ints0 : ∀ ns : List Int, DpAll K F (ns.map V.int) (ns.map PyData.int)
  | [] => .nil
  | n :: r => .cons (.int n) (dp_ints0 r)
mutual
theorem toPy_ok : ∀ (d : D) (v : V) (p : PyData), Rep K F v d → toPy d = some p → Dp K F v p
  | .non, _, _, .non, h => by cases h; exact .non
  | .bl b, _, _, .bl _, h => by cases h; exact .bl b
  | .int i, _, _, .int _, h => by cases h; exact .int i
  | .str x, _, _, .str _, h => by cases h; exact .str x
  | .scr ns, _, _, .scr q, h => by cases h; exact .lst q (dp_ints0 ns)
  | .list ds, _, p, .list q rs, h => by
    obtain ⟨ps, e, rfl⟩ := Option.map_eq_some_iff.mp (show (toPys ds).map PyData.list = some p from h)
    exact .lst (SqL.of q) (toPys_ok ds _ ps rs e)
  | .tup ds, _, p, .tup q rs, h => by
    obtain ⟨ps, e, rfl⟩ := Option.map_eq_some_iff.mp (show (toPys ds).map PyData.tuple = some p from h)
    exact .tup q (toPys_ok ds _ ps rs e)
theorem toPys_ok : ∀ (ds : List D) (vs : List V) (ps : List PyData), Reps K F vs ds → toPys ds = some ps → DpAll K F vs ps
  | [], _, _, .nil, h => by cases h; exact .nil
  | d :: ds, _, ps, .cons r rs, h => by
    obtain ⟨p, e1, h⟩ := Option.bind_eq_some_iff.mp (show ((toPy d).bind fun p => (toPys ds).map (p :: ·)) = some ps from h)
    obtain ⟨qs, e2, rfl⟩ := Option.map_eq_some_iff.mp h
    exact .cons (toPy_ok d _ p r e1) (toPys_ok ds _ qs rs e2)
end
theorem dp_up {v : V} {p : PyData} (h : Dp K F v p) (s : Same F H) : Dp K H v p := Dp.same s p v h
end

/-! ### operators -/
def addD : D → D → Option D
  | .int i, .int j => some (.int (i + j))
  | .str a, .str b => if a.length + b.length ≤ sizeLine then some (.str (a ++ b)) else none
  | .list xs, .list ys => if xs.length + ys.length ≤ sizeLine then some (.list (xs ++ ys)) else none
  | .tup xs, .tup ys => if xs.length + ys.length ≤ sizeLine then some (.tup (xs ++ ys)) else none
  | _, _ => none
def catD : D → D → Option (List D)
  | .list xs, .list ys => if xs.length + ys.length ≤ sizeLine then some (xs ++ ys) else none
  | _, _ => none
def intD (C : Int → Int → Bool) (f : Int → Int → Int) : D → D → Option D
  | .int i, .int j => if C i j = true then some (.int (f i j)) else none
  | _, _ => none
def subD := intD (fun _ _ => true) fun i j => i - j
def cMul (i j : Int) : Bool := decide ((-(2 ^ 64) < i ∧ i < 2 ^ 64) ∨ (-(2 ^ 64) < j ∧ j < 2 ^ 64))
def mulD := intD cMul fun i j => i * j
def cDiv (_ j : Int) : Bool := decide (j ≠ 0 ∧ j.natAbs < 1073741824)
def fdivD := intD cDiv fun i j => i.fdiv j
def modD := intD (fun _ j => decide (j ≠ 0)) fun i j => i.fmod j
def cPow (i j : Int) : Bool := decide (0 ≤ j ∧ j ≤ 1000000 ∧ i.natAbs < 2 ^ 64)
def powD := intD cPow fun i j => i ^ j.toNat
def shrD := intD (fun _ j => decide (0 ≤ j)) fun i j => i / 2 ^ j.toNat
def andD := intD (fun _ _ => true) fun i j => Builtin.bitAnd i j
def cmpD (f : Int → Int → Bool) : D → D → Option D
  | .int i, .int j => some (.bl (f i j))
  | _, _ => none
def negD : D → Option D
  | .int i => some (.int (-i))
  | _ => none
section
variable {X : Cx} {K : PySem.W.Frag}
theorem opr_imp {f : Value → Value → Sem Value} {r r' : L2.R2} (h : OpR X f r) (imp : ∀ x y H Q, r' x y H Q → r x y H Q) : OpR X f r' := fun pins s σ H x y v u Q I rx ry z => h pins s σ H x y v u Q I rx ry (imp x y H Q z)
theorem op_addD (eK : X.K = K) : OpR X (binaryOp .Add) (rD2 K addD) := by
  refine opr_imp (op_add.or (op_add_str.or (op_cat.or op_catA))) fun x y H Q h => ?_
  obtain ⟨F, d, e, r, s, rx, ry, hf, q⟩ := h
  cases rx with
  | int i =>
    cases ry with
    | int j => cases hf; exact .inl ⟨i, j, rfl, rfl, q _ F H (Nw.refl s) (.int _)⟩
    | _ => cases hf
  | str a =>
    cases ry with
    | str b =>
      have hf : (if a.length + b.length ≤ sizeLine then some (D.str (a ++ b)) else none) = some r := hf
      split at hf
      · cases hf
        exact .inr (.inl ⟨a, b, rfl, rfl, by assumption, q _ F H (Nw.refl s) (.str _)⟩)
      · cases hf
    | _ => cases hf
  | list h1 r1 =>
    cases ry with
    | list h2 r2 =>
      rename_i vs ds _ ws es
      have hf : (if ds.length + es.length ≤ sizeLine then some (D.list (ds ++ es)) else none) = some r := hf
      split at hf
      · rename_i hz
        cases hf
        refine .inr (.inr (.inl ⟨_, _, _, _, rfl, rfl, s _ _ h1, s _ _ h2, by rw [r1.length, r2.length]; exact hz, fun p np => ?_⟩))
        have nw := Nw.add (o := .lst (vs ++ ws)) s np
        exact q _ _ _ nw (.list upd_same ((r1.append r2).up nw.f))
      · cases hf
    | _ => cases hf
  | tup h1 r1 =>
    cases ry with
    | tup h2 r2 =>
      rename_i vs ds _ ws es
      have hf : (if ds.length + es.length ≤ sizeLine then some (D.tup (ds ++ es)) else none) = some r := hf
      split at hf
      · rename_i hz
        cases hf
        refine .inr (.inr (.inr ⟨_, _, vs, ws, rfl, rfl, by rw [eK]; exact seqT_same s h1, by rw [eK]; exact seqT_same s h2, by rw [r1.length, r2.length]; exact hz, fun z => ?_, fun _ z => ?_, fun _ _ p np => ?_⟩))
        · subst z
          cases r1
          exact q _ F H (Nw.refl s) (.tup h2 r2)
        · subst z
          cases r2
          rw [List.append_nil] at q
          exact q _ F H (Nw.refl s) (.tup h1 r1)
        · have nw := Nw.add (o := .tup (vs ++ ws)) s np
          exact q _ _ _ nw (.tup (SqT.of upd_same) ((r1.append r2).up nw.f))
      · cases hf
    | _ => cases hf
  | _ => cases ry <;> cases hf
theorem op_catL : OpR X (binaryOp .Add) (rD2L K catD) := by
  refine opr_imp op_cat fun x y H Q h => ?_
  obtain ⟨F, d, e, r, s, rx, ry, hf, q⟩ := h
  cases rx with
  | list h1 r1 =>
    cases ry with
    | list h2 r2 =>
      rename_i vs ds _ ws es
      have hf : (if ds.length + es.length ≤ sizeLine then some (ds ++ es) else none) = some r := hf
      split at hf
      · rename_i hz
        cases hf
        exact ⟨_, _, _, _, rfl, rfl, s _ _ h1, s _ _ h2, by rw [r1.length, r2.length]; exact hz, fun p np => q p _ np (r1.append r2)⟩
      · cases hf
    | _ => cases hf
  | _ => cases ry <;> cases hf
theorem op_intD {f : Value → Value → Sem Value} {C : Int → Int → Bool} {g : Int → Int → Int} {C' : Int → Int → Prop} (h : OpR X f (rI C' fun i j => .int (g i j))) (hc : ∀ i j, C i j = true → C' i j) : OpR X f (rD2 K (intD C g)) := by
  refine opr_imp h fun x y H Q h => ?_
  obtain ⟨F, d, e, r, s, rx, ry, hf, q⟩ := h
  cases rx with
  | int i =>
    cases ry with
    | int j =>
      have hf : (if C i j = true then some (D.int (g i j)) else none) = some r := hf
      split at hf
      · cases hf
        exact ⟨i, j, rfl, rfl, hc i j (by assumption), q _ F H (Nw.refl s) (.int _)⟩
      · cases hf
    | _ => cases hf
  | _ => cases ry <;> cases hf
theorem op_subD : OpR X (binaryOp .Sub) (rD2 K subD) := op_intD (C' := fun _ _ => True) (opr_imp op_sub fun x y H Q ⟨i, j, a, b, _, q⟩ => ⟨i, j, a, b, q⟩) fun _ _ _ => trivial
theorem op_mulD : OpR X (binaryOp .Mult) (rD2 K mulD) := op_intD op_mul fun i j h => of_decide_eq_true (p := (-(2 ^ 64) < i ∧ i < 2 ^ 64) ∨ (-(2 ^ 64) < j ∧ j < 2 ^ 64)) h
theorem op_fdivD : OpR X (binaryOp .FloorDiv) (rD2 K fdivD) := op_intD op_fdivN fun i j h => of_decide_eq_true (p := j ≠ 0 ∧ j.natAbs < 1073741824) h
theorem op_modD : OpR X (binaryOp .Mod) (rD2 K modD) := op_intD op_modN fun i j h => of_decide_eq_true h
theorem op_powD : OpR X (binaryOp .Pow) (rD2 K powD) := op_intD op_pow fun i j h => of_decide_eq_true (p := 0 ≤ j ∧ j ≤ 1000000 ∧ i.natAbs < 2 ^ 64) h
theorem op_shrD : OpR X (binaryOp .RShift) (rD2 K shrD) := op_intD op_shr fun i j h => of_decide_eq_true h
theorem op_andD : OpR X (binaryOp .BitAnd) (rD2 K andD) := op_intD (C' := fun _ _ => True) (opr_imp op_and fun x y H Q ⟨i, j, a, b, _, q⟩ => ⟨i, j, a, b, q⟩) fun _ _ _ => trivial
theorem op_cmpD {f : Value → Value → Sem Value} {g : Int → Int → Bool} (h : OpR X f (rI0 fun i j => .bl (g i j))) : OpR X f (rD2 K (cmpD g)) := by
  refine opr_imp h fun x y H Q h => ?_
  obtain ⟨F, d, e, r, s, rx, ry, hf, q⟩ := h
  cases rx with
  | int i =>
    cases ry with
    | int j => cases hf; exact ⟨i, j, rfl, rfl, q _ F H (Nw.refl s) (.bl _)⟩
    | _ => cases hf
  | _ => cases ry <;> cases hf
def leD := cmpD fun i j => decide (i ≤ j)
def gtD := cmpD fun i j => decide (j < i)
def geD := cmpD fun i j => decide (j ≤ i)
theorem op_leD : OpR X (compareOp .LtE) (rD2 K leD) := op_cmpD op_le
theorem op_gtD : OpR X (compareOp .Gt) (rD2 K gtD) := op_cmpD op_gt
theorem op_geD : OpR X (compareOp .GtE) (rD2 K geD) := op_cmpD op_ge
def notNone : PyData → Bool
  | .none => false
  | _ => true
def ltD : D → D → Option D
  | .int i, .int j => some (.bl (decide (i < j)))
  | d, e => (toPy d).bind fun p => (toPy e).bind fun q => if PySem.W.alike p q = true ∧ notNone p = true ∧ p.depth ≤ 60 then some (.bl (PySem.W.dataLt p q)) else none
theorem op_ltD' (eK : X.K = K) (room : X.A.units + 64 < cLine) : OpR X (compareOp .Lt) (rD2 K ltD) := by
  refine opr_imp (op_lt.or (op_ltD room)) fun x y H Q h => ?_
  obtain ⟨F, d, e, r, s, rx, ry, hf, q⟩ := h
  have gen : ((toPy d).bind fun p => (toPy e).bind fun q => if PySem.W.alike p q = true ∧ notNone p = true ∧ p.depth ≤ 60 then some (D.bl (PySem.W.dataLt p q)) else none) = some r → rLtD X.K x y H Q := by
    intro hf
    obtain ⟨p, e1, hf⟩ := Option.bind_eq_some_iff.mp hf
    obtain ⟨p2, e2, hf⟩ := Option.bind_eq_some_iff.mp hf
    split at hf
    · rename_i hc
      cases hf
      rw [eK]
      refine ⟨p, p2, dp_up (toPy_ok d x p rx e1) s, dp_up (toPy_ok e y p2 ry e2) s, hc.1, fun z => ?_, hc.2.2, q _ F H (Nw.refl s) (.bl _)⟩
      rw [z] at hc
      exact nomatch hc.2.1
    · cases hf
  cases rx with
  | int i =>
    cases ry with
    | int j => cases hf; exact .inl ⟨i, j, rfl, rfl, q _ F H (Nw.refl s) (.bl _)⟩
    | _ => exact .inr (gen hf)
  | _ => exact .inr (gen hf)
def eqB : D → D → Option Bool
  | .int i, .int j => some (decide (i = j))
  | .str a, .str b => some (decide (a = b))
  | .bl a, .bl b => some (decide (a = b))
  | d, e => (toPy d).bind fun p => (toPy e).bind fun q => if SeqAt.shaped p = true ∧ SeqAt.shaped q = true then some (PyData.eqv p q) else none
def eqD (d e : D) : Option D := (eqB d e).map .bl
def neD (d e : D) : Option D := (eqB d e).map fun b => .bl !b
theorem dec_inj {α β : Type} [DecidableEq α] [DecidableEq β] (f : α → β) (inj : ∀ a b, f a = f b → a = b) (a b : α) : decide (f a = f b) = decide (a = b) := by
  by_cases h : a = b
  · rw [h]
    simp
  · rw [decide_eq_false h, decide_eq_false fun z => h (inj a b z)]
theorem op_eqDD (eK : X.K = K) (room : X.A.units + 64 < cLine) : OpR X (compareOp .Eq) (rD2 K eqD) := by
  refine opr_imp (op_eq.or (op_eqD room)) fun x y H Q h => ?_
  obtain ⟨F, d, e, r, s, rx, ry, hf, q⟩ := h
  obtain ⟨b, hb, rfl⟩ := Option.map_eq_some_iff.mp hf
  have q' := q _ F H (Nw.refl s) (.bl b)
  have gen : ((toPy d).bind fun p => (toPy e).bind fun q => if SeqAt.shaped p = true ∧ SeqAt.shaped q = true then some (PyData.eqv p q) else none) = some b → rEqD X.K x y H Q := by
    intro hf
    obtain ⟨p, e1, hf⟩ := Option.bind_eq_some_iff.mp hf
    obtain ⟨p2, e2, hf⟩ := Option.bind_eq_some_iff.mp hf
    split at hf
    · rename_i hc
      cases hf
      rw [eK]
      exact ⟨p, p2, dp_up (toPy_ok d x p rx e1) s, dp_up (toPy_ok e y p2 ry e2) s, hc.1, hc.2, q'⟩
    · cases hf
  cases rx with
  | int i =>
    cases ry with
    | int j => cases hb; exact .inl ⟨rfl, by rw [dec_inj V.int fun _ _ z => V.int.inj z]; exact q'⟩
    | _ => exact .inr (gen hb)
  | str i =>
    cases ry with
    | str j => cases hb; exact .inl ⟨rfl, by rw [dec_inj V.str fun _ _ z => V.str.inj z]; exact q'⟩
    | _ => exact .inr (gen hb)
  | bl i =>
    cases ry with
    | bl j => cases hb; exact .inl ⟨rfl, by rw [dec_inj V.bl fun _ _ z => V.bl.inj z]; exact q'⟩
    | _ => exact .inr (gen hb)
  | _ => exact .inr (gen hb)
theorem op_neDD (eK : X.K = K) (room : X.A.units + 64 < cLine) : OpR X (compareOp .NotEq) (rD2 K neD) := by
  refine opr_imp (op_ne.or (op_neD room)) fun x y H Q h => ?_
  obtain ⟨F, d, e, r, s, rx, ry, hf, q⟩ := h
  obtain ⟨b, hb, rfl⟩ := Option.map_eq_some_iff.mp hf
  have q' := q _ F H (Nw.refl s) (.bl _)
  have gen : ((toPy d).bind fun p => (toPy e).bind fun q => if SeqAt.shaped p = true ∧ SeqAt.shaped q = true then some (PyData.eqv p q) else none) = some b → rNeD X.K x y H Q := by
    intro hf
    obtain ⟨p, e1, hf⟩ := Option.bind_eq_some_iff.mp hf
    obtain ⟨p2, e2, hf⟩ := Option.bind_eq_some_iff.mp hf
    split at hf
    · rename_i hc
      cases hf
      rw [eK]
      exact ⟨p, p2, dp_up (toPy_ok d x p rx e1) s, dp_up (toPy_ok e y p2 ry e2) s, hc.1, hc.2, q'⟩
    · cases hf
  cases rx with
  | int i =>
    cases ry with
    | int j => cases hb; exact .inl ⟨rfl, by rw [dec_inj V.int fun _ _ z => V.int.inj z]; exact q'⟩
    | _ => exact .inr (gen hb)
  | str i =>
    cases ry with
    | str j => cases hb; exact .inl ⟨rfl, by rw [dec_inj V.str fun _ _ z => V.str.inj z]; exact q'⟩
    | _ => exact .inr (gen hb)
  | bl i =>
    cases ry with
    | bl j => cases hb; exact .inl ⟨rfl, by rw [dec_inj V.bl fun _ _ z => V.bl.inj z]; exact q'⟩
    | _ => exact .inr (gen hb)
  | _ => exact .inr (gen hb)
theorem un_negD : UnR X (unaryOp .USub) (rD1 K negD) := by
  intro pins s σ H x v Q I rx h
  obtain ⟨F, d, r, s', rx', hf, q⟩ := h
  cases rx' with
  | int i => cases hf; exact un_neg pins s σ H _ v Q I rx ⟨i, rfl, q _ F H (Nw.refl s') (.int _)⟩
  | _ => cases hf
end
end Sb

namespace Sb
open PySem PySem.Spec PyProof.Rows L2

section
variable {X : Cx} {K : PySem.W.Frag}
/-! in -/
def flatD : D → Bool
  | .non => true
  | .bl _ => true
  | .int _ => true
  | .str _ => true
  | _ => false
def eqFl : D → D → Bool
  | .non, .non => true
  | .bl a, .bl b => a == b
  | .bl a, .int b => (if a then 1 else 0) == b
  | .int a, .bl b => a == (if b then 1 else 0)
  | .int a, .int b => a == b
  | .str a, .str b => a == b
  | _, _ => false
def one? (a : Str) : Option Nat := match a.cps.toList with
  | [c] => some c
  | _ => none
theorem one_ok {a : Str} {c : Nat} (h : one? a = some c) : a = ⟨#[c]⟩ := by
  unfold one? at h
  split at h
  · rename_i c' e
    cases h
    cases a with
    | mk cps =>
      cases cps with
      | mk l =>
        have : l = [c] := e
        rw [this]
  · cases h
def inB : D → D → Option Bool
  | .str a, .str z => (one? a).map fun c => decide (c ∈ z.cps.toList)
  | d, .list xs => if flatD d = true ∧ xs.all flatD = true then some (xs.any fun y => eqFl y d) else none
  | d, .tup xs => if flatD d = true ∧ xs.all flatD = true then some (xs.any fun y => eqFl y d) else none
  | _, _ => none
def inD (d e : D) : Option D := (inB d e).map .bl
def notInD (d e : D) : Option D := (inB d e).map fun b => .bl !b
theorem flat_ok {F : Hp} {v : V} {d : D} (r : Rep K F v d) : flatD d = true → flatV v = true := by
  cases r <;> intro h <;> first | rfl | cases h
theorem eqFl_ok {F : Hp} {x y : V} {d e : D} (rx : Rep K F x d) (ry : Rep K F y e) (fx : flatD d = true) (fy : flatD e = true) : eqV x y = eqFl d e := by
  cases rx <;> cases ry <;> first | rfl | cases fx | cases fy
theorem flats_ok {F : Hp} : ∀ {vs : List V} {ds : List D}, Reps K F vs ds → ds.all flatD = true → vs.all flatV = true
  | _, _, .nil, _ => rfl
  | _, _, .cons r t, h => by
    rw [List.all_cons, Bool.and_eq_true] at h ⊢
    exact ⟨flat_ok r h.1, flats_ok t h.2⟩
theorem any_ok {F : Hp} {x : V} {d : D} (rx : Rep K F x d) (fx : flatD d = true) : ∀ {vs : List V} {ds : List D}, Reps K F vs ds → ds.all flatD = true → inV x vs = ds.any fun y => eqFl y d
  | _, _, .nil, _ => rfl
  | _, _, .cons r t, h => by
    rw [List.all_cons, Bool.and_eq_true] at h
    show (eqV _ x || inV x _) = (eqFl _ d || List.any _ _)
    rw [eqFl_ok r rx h.1 fx, any_ok rx fx t h.2]
theorem in_core {neg : Bool} {F H : Hp} {x y : V} {d e : D} {b : Bool} {Q : VK} (s : Same F H) (rx : Rep K F x d) (ry : Rep K F y e) (hb : inB d e = some b) (q : Q (.bl (if neg then !b else b)) H) :
    rIn K neg x y H Q ∨ ∃ (c : Nat) (z : Str), x = .str ⟨#[c]⟩ ∧ y = .str z ∧ Q (.bl (if neg then !decide (c ∈ z.cps.toList) else decide (c ∈ z.cps.toList))) H := by
  cases ry with
  | str z =>
    cases rx with
    | str a =>
      obtain ⟨c, hc, rfl⟩ := Option.map_eq_some_iff.mp hb
      rw [one_ok hc]
      exact .inr ⟨c, z, rfl, rfl, q⟩
    | _ => cases hb
  | list hl rs =>
    rename_i vs ds
    have hb : (if flatD d = true ∧ ds.all flatD = true then some (ds.any fun y => eqFl y d) else none) = some b := by
      cases d <;> exact hb
    split at hb
    · rename_i hc
      cases hb
      refine .inl ⟨_, vs, rfl, .inl (SqL.of (s _ _ hl)), flat_ok rx hc.1, flats_ok rs hc.2, ?_⟩
      rw [any_ok rx hc.1 rs hc.2]
      exact q
    · cases hb
  | tup hl rs =>
    rename_i vs ds
    have hb : (if flatD d = true ∧ ds.all flatD = true then some (ds.any fun y => eqFl y d) else none) = some b := by
      cases d <;> exact hb
    split at hb
    · rename_i hc
      cases hb
      refine .inl ⟨_, vs, rfl, .inr (seqT_same s hl), flat_ok rx hc.1, flats_ok rs hc.2, ?_⟩
      rw [any_ok rx hc.1 rs hc.2]
      exact q
    · cases hb
  | _ => cases rx <;> cases hb
theorem op_inD (eK : X.K = K) : OpR X (compareOp .In) (rD2 K inD) := by
  refine opr_imp (op_in_seq.or op_in_sign) fun x y H Q h => ?_
  obtain ⟨F, d, e, r, s, rx, ry, hf, q⟩ := h
  obtain ⟨b, hb, rfl⟩ := Option.map_eq_some_iff.mp hf
  rw [eK]
  exact in_core (neg := false) s rx ry hb (q _ F H (Nw.refl s) (.bl _))
theorem op_notInD (eK : X.K = K) : OpR X (compareOp .NotIn) (rD2 K notInD) := by
  refine opr_imp (op_notIn_seq.or op_notIn_sign) fun x y H Q h => ?_
  obtain ⟨F, d, e, r, s, rx, ry, hf, q⟩ := h
  obtain ⟨b, hb, rfl⟩ := Option.map_eq_some_iff.mp hf
  rw [eK]
  exact in_core (neg := true) s rx ry hb (q _ F H (Nw.refl s) (.bl _))

/-! ### built-in functions -/
theorem clr_imp {f : Value} {r r' : List V → Hp → VK → Prop} (h : CallR X f r) (imp : ∀ xs H Q, r' xs H Q → r xs H Q) : CallR X f r' := fun pins s σ H xs us Q I rv z => h pins s σ H xs us Q I rv (imp xs H Q z)
def lenB : List D → Option D
  | [d] => (lenD d).map fun (n : Nat) => .int n
  | _ => none
theorem call_lenD' (eK : X.K = K) : CallR X (.builtin "len") (rDn K lenB) := by
  refine clr_imp call_len fun xs H Q h => ?_
  obtain ⟨F, ds, r, s, rs, hf, q⟩ := h
  match ds, rs, hf with
  | [d], .cons r1 .nil, hf =>
    obtain ⟨n, hn, rfl⟩ := Option.map_eq_some_iff.mp (show (lenD d).map (fun (n : Nat) => D.int n) = some r from hf)
    exact ⟨_, n, rfl, by rw [eK]; exact lenD_ok s r1 hn, q _ F H (Nw.refl s) (.int _)⟩
def max2 : List D → Option D
  | [.int i, .int j] => some (.int (if j > i then j else i))
  | _ => none
theorem call_maxD (c : X.calm = true) : CallR X (.builtin "max") (rDn K max2) := by
  refine clr_imp (call_max2 c) fun xs H Q h => ?_
  obtain ⟨F, ds, r, s, rs, hf, q⟩ := h
  match ds, rs, hf with
  | [.int i, .int j], .cons (.int _) (.cons (.int _) .nil), hf =>
    cases hf
    exact ⟨i, j, rfl, q _ F H (Nw.refl s) (.int _)⟩
def min2 : List D → Option D
  | [.int i, .int j] => some (.int (if j < i then j else i))
  | _ => none
theorem call_minD (c : X.calm = true) : CallR X (.builtin "min") (rDn K min2) := by
  refine clr_imp (call_min2 c) fun xs H Q h => ?_
  obtain ⟨F, ds, r, s, rs, hf, q⟩ := h
  match ds, rs, hf with
  | [.int i, .int j], .cons (.int _) (.cons (.int _) .nil), hf =>
    cases hf
    exact ⟨i, j, rfl, q _ F H (Nw.refl s) (.int _)⟩
def intB : List D → Option D
  | [.int i] => some (.int i)
  | [.bl b] => some (.int (if b then 1 else 0))
  | _ => none
theorem call_intD : CallR X (.type "int") (rDn K intB) := by
  refine clr_imp call_int1 fun xs H Q h => ?_
  obtain ⟨F, ds, r, s, rs, hf, q⟩ := h
  match ds, rs, hf with
  | [.int i], .cons (.int _) .nil, hf =>
    cases hf
    exact .inl ⟨i, rfl, q _ F H (Nw.refl s) (.int _)⟩
  | [.bl i], .cons (.bl _) .nil, hf =>
    cases hf
    exact .inr ⟨i, rfl, q _ F H (Nw.refl s) (.int _)⟩
def tupleB : List D → Option D
  | [.list xs] => some (.tup xs)
  | [.tup xs] => some (.tup xs)
  | _ => none
theorem call_tupleD (eK : X.K = K) : CallR X (.type "tuple") (rDn K tupleB) := by
  refine clr_imp call_tuple_of fun xs H Q h => ?_
  obtain ⟨F, ds, r, s, rs, hf, q⟩ := h
  match ds, rs, hf with
  | [.list xs], .cons (.list hl r1) .nil, hf =>
    cases hf
    rename_i vs
    refine ⟨_, vs, rfl, .inl ⟨SqL.of (s _ _ hl), fun p np => ?_⟩⟩
    have nw := Nw.add (o := .tup vs) s np
    exact q _ _ _ nw (.tup (SqT.of upd_same) (r1.up nw.f))
  | [.tup xs], .cons (.tup hl r1) .nil, hf =>
    cases hf
    exact ⟨_, _, rfl, .inr ⟨by rw [eK]; exact seqT_same s hl, q _ F H (Nw.refl s) (.tup hl r1)⟩⟩
def listB : List D → Option (List D)
  | [.list xs] => some xs
  | [.tup xs] => some xs
  | [.scr ns] => some (ns.map .int)
  | _ => none
theorem call_listD (eK : X.K = K) : CallR X (.type "list") (rDnL K listB) := by
  refine clr_imp call_list_of fun xs H Q h => ?_
  obtain ⟨F, ds, r, s, rs, hf, q⟩ := h
  match ds, rs, hf with
  | [.list xs], .cons (.list hl r1) .nil, hf =>
    cases hf
    exact ⟨_, _, rfl, .inl (SqL.of (s _ _ hl)), fun p np => q p _ np r1⟩
  | [.tup xs], .cons (.tup hl r1) .nil, hf =>
    cases hf
    exact ⟨_, _, rfl, .inr (by rw [eK]; exact seqT_same s hl), fun p np => q p _ np r1⟩
  | [.scr ns], .cons (.scr hl) .nil, hf =>
    cases hf
    exact ⟨_, _, rfl, .inl (by rw [eK]; exact s.seq hl), fun p np => q p _ np (Reps.of_ints ns)⟩
end

/-! ### isinstance -/
def tyK : D → TK
  | .non => .b "NoneType"
  | .bl _ => .b "bool"
  | .int _ => .b "int"
  | .str _ => .b "str"
  | .scr _ => .b "list"
  | .list _ => .b "list"
  | .tup _ => .b "tuple"
  | .ins x _ => .c x
  | .cls _ => .b "type"
  | .dict _ _ => .b "dict"
structure InsC (K : PySem.W.Frag) (x : Str) : Prop where
  cl : Cls K (He.ga K x)
  ha : PySem.W.findIn K (.ref (He.ga K x)) "__class__" = some (some (.builtin "object.__class__"))
  hn : PySem.W.specialIn K (.builtin "object.__class__") "__get__" = some (some (.builtin "getset_descriptor.__get__"))
  ht : PySem.W.takesIn K (.builtin "object.__class__") = some true
  hm : PySem.W.mroIn K (He.ga K x) (.type "object") = some true
structure IsiF (K : PySem.W.Frag) (u : Value) (tab : List (TK × Bool)) : Prop where
  kit : ∀ k b, (k, b) ∈ tab → PySem.W.kitOne K (valOf K k) u = some b
  ins : ∀ x b, (TK.c x, b) ∈ tab → InsC K x
theorem lookup_mem {α β : Type} [BEq α] [LawfulBEq α] : ∀ {l : List (α × β)} {a : α} {b : β}, l.lookup a = some b → (a, b) ∈ l
  | [], _, _, h => by cases h
  | (x, y) :: l, a, b, h => by
    rw [List.lookup_cons] at h
    cases e : a == x with
    | true =>
      rw [e] at h
      cases h
      rw [eq_of_beq e]
      exact List.mem_cons_self
    | false =>
      rw [e] at h
      exact List.mem_cons_of_mem _ (lookup_mem h)
def isiE (tab : List (TK × Bool)) (g : ME) : ME := fun l => (g l).bind fun d l1 => Res.lift ((tab.lookup (tyK d)).map .bl) l1
inductive TyY (K : PySem.W.Frag) (H : Hp) : V → Value → Prop where
  | x {v : V} {t : Value} (h : TyX K H v t) : TyY K H v t
  | dct {a : Addr} {o : Obj} (h : H a = some (ObjO a o)) (c : o.cls = .type "dict") : TyY K H (.ref a) (.type "dict")
theorem kit_ofY {X : Cx} {pins : List (Addr × Obj)} {σ : L2.St} {H : Hp} {s : Shared} {x : V} {u t : Value} (I : Inv X pins σ H s) (rx : RelV x u) (ty : TyY X.K H x t) :
    ∃ P : Heap → Prop, PySem.W.KitX X.K u t P ∧ P s.heap ∧ u ≠ .builtin "__main__.__loader__#opaque" := by
  cases ty with
  | x h => exact kit_of I rx h
  | @dct a o h c =>
    cases (show u = Value.ref a from rx)
    obtain ⟨h1, _⟩ := (show ObjOk X.prog X.w H s.heap a (ObjO a o) from I.hok a _ h)
    exact ⟨_, PySem.W.kitx_dict, ⟨o, h1, c⟩, fun z => nomatch z⟩
def rIsiY (K : PySem.W.Frag) : List V → Hp → VK → Prop := fun xs H Q => ∃ (x c : V) (t u : Value) (b : Bool), xs = [x, c] ∧ ClsV c u ∧ TyY K H x t ∧ PySem.W.kitOne K t u = some b ∧ Q (.bl b) H
theorem call_isiY {X : Cx} : CallR X (.builtin "isinstance") (rIsiY X.K) := by
  intro pins s σ H xs us Q I r h
  obtain ⟨x, c, t, u, b, rfl, k, ty, e, q⟩ := h
  obtain ⟨u1, u2, rfl, r1, r2⟩ := vals2 r
  have e2 := k.eq r2
  subst e2
  obtain ⟨P, Z, p, hx⟩ := kit_ofY I r1 ty
  exact PySem.W.kia_one Z I.kIn p e hx fun tk => ⟨.bl b, H, I.tok tk, rfl, q⟩
theorem tyx_of {K : PySem.W.Frag} {F H : Hp} {v : V} {d : D} (s : Same F H) (r : Rep K F v d) (hi : ∀ x fs, d = .ins x fs → InsC K x) (hc : ∀ x, d ≠ .cls x) : TyY K H v (valOf K (tyK d)) := by
  cases r with
  | non => exact .x (.base .non)
  | bl b => exact .x (.base (.bl b))
  | int i => exact .x (.base (.int i))
  | str x => exact .x (.base (.str x))
  | scr h =>
    rcases h with (h | ⟨o, h⟩) | ⟨o, its, n, h1, h2, _⟩
    · exact .x (.base (.lst (s _ _ h)))
    · exact .x (.base (.frz (s _ _ h)))
    · exact .x (.kList h1 h2)
  | list h _ => exact .x (.base (.lst (s _ _ h)))
  | tup h _ =>
    rcases h with (h | ⟨o, h⟩) | ⟨o, its, n, h1, h2, _⟩
    · exact .x (.base (.tup (s _ _ h)))
    · exact .x (.fTuple (s _ _ h))
    · exact .x (.kTuple h1 h2)
  | ins h _ =>
    have I := hi _ _ rfl
    exact .x (.base (.ins (s _ _ h) I.cl I.ha I.hn I.ht I.hm))
  | cls c => exact (hc c rfl).elim
  | dict h k _ _ => exact .dct (s _ _ h) k.ex.1
section
variable {X : Cx} {M : MC} {E : L2.St → XK} {e c : Expr} {ga : ME} {pos p : Pos} {cv : V} {u : Value} {tab : List (TK × Bool)}
theorem me_isi (eK : X.K = M.K) (I : IsiF M.K u tab) (no : tab.lookup (.b "type") = none) (hg : Gl X "isinstance") (hm : X.mg "isinstance" = none) (he : PE X e (mE M E ga)) (hcl : PE X c (tC cv)) (cl : ClsV cv u)
    (hs : starEach [e, c] X.env = (false, eval e X.env) :: starEach [c] X.env := by rfl) (hs2 : starEach [c] X.env = (false, eval c X.env) :: starEach [] X.env := by rfl) (hpl : (backTo pos (starEach [c] X.env)).any (·.1) = false := by rfl) :
    PE X (.Call (.Name "isinstance" p) [e, c] [] pos) (mE M E (isiE tab ga)) :=
  pe_imp (pe_callB call_isiY hg hm (by decide +kernel) (pa_cons he (pa_cons hcl pa_nil hs2) hs) (by decide) (by decide) hs hpl) fun σ H Q z => by
    obtain ⟨F, l, st, w⟩ := z
    refine ⟨F, l, st, (wR.bind w).mono fun d l1 F1 H1 g1 st1 w1 v rv => ?_⟩
    cases hk : tab.lookup (tyK d) with
    | none => rw [hk] at w1; exact w1.elim
    | some b =>
      rw [hk] at w1
      have mem := lookup_mem hk
      refine ⟨v, cv, _, u, b, rfl, cl, ?_, by rw [eK]; exact I.kit _ _ mem, st1.give w1 (Nw.refl st1.sub) _ (.bl b)⟩
      rw [eK]
      refine tyx_of st1.sub rv (fun x fs z => ?_) (fun x z => ?_)
      · subst z
        exact I.ins x b mem
      · subst z
        rw [show tyK (.cls x) = .b "type" from rfl, no] at hk
        cases hk
end
end Sb

namespace Sb
open PySem PySem.Spec PyProof.Rows L2

section
variable {X : Cx} {M : MC} {E : L2.St → XK} {a b c e : Expr} {ga gb gc : ME} {gl : ML} {pos : Pos}
theorem me_chn {op op' : CmpOp} {f g : D → D → Option D} (ho : OpR X (compareOp op) (rD2 M.K f)) (ho' : OpR X (compareOp op') (rD2 M.K g)) (ha : PE X a (mE M E ga)) (hb : PE X b (mE M E gb)) (hc : PE X c (mE M E gc))
    (hm : lastMarks [op, op'] [b, c] = false := by with_unfolding_all rfl) : PE X (.Compare a [op, op'] [b, c] pos) (mE M E (chn f g ga gb gc)) :=
  pe_imp (pe_chain ho ho' ha hb hc hm) fun _ _ _ z => mE_chn z
/-! a, b = x, y -/
def sPar (i j : Nat) (g : ML) : MS := fun l => (g l).thn fun ds l1 => match ds with
  | [d, e] => .nx ((l1.set i (some (.fr d))).set j (some (.fr e)))
  | _ => .stuck
theorem ms_par {i j : Nat} {x y : Str} {px py pt : Pos} {kt k2 pt2} (np : NoPar M i) (np2 : NoPar M j) (hc : X.calm = true) (hN : X.N.Nodup) (hi : X.N[i]? = some x) (hj : X.N[j]? = some y) (hij : i ≠ j)
    (hx : X.env.scope.names.lookup x = some .local) (hy : X.env.scope.names.lookup y = some .local) (ha : PA X [a, b] (mV M E gl)) (hw : swappedStores [.Tuple [.Name x px, .Name y py] kt pt] (.Tuple [a, b] k2 pt2) X.env = pure (some [x, y]) := by rfl)
    (hs : swapsWithSole [.Tuple [.Name x px, .Name y py] kt pt] (.Tuple [a, b] k2 pt2) pos.line X.env = pure false := by rfl) :
    PS X (.Assign [.Tuple [.Name x px, .Name y py] kt pt] (.Tuple [a, b] k2 pt2) pos) (mS M E (sPar i j gl)) := by
  refine ps_imp (ps_par hc hN hi hj hij hx hy ha hw hs) fun Dn σ H z => ?_
  obtain ⟨F, l, st, w⟩ := z
  refine ⟨F, l, st, (wS.thn st w).mono fun ds l1 F1 H1 g1 st1 w1 vs rs => ?_⟩
  match ds, rs, w1 with
  | [d, e], .cons r1 (.cons r2 .nil), w1 => exact ⟨_, _, rfl, w1 _ F1 H1 (Same.refl _) ((st1.setFr' np r1).setFr' np2 r2)⟩
/-! y = [..] -/
theorem ms_setLc {i : Nat} {y : Str} {py : Pos} {elt tg iter : Expr} {ifs : List Expr} {scope : Scope} {own : List (Str × Nat)} {pos spos : Pos} {ts : List Nat} {t : MG} {gt : MT} {ge : ME} (npi : NoPar M i) (np : ∀ i ∈ own.map (·.2), NoPar M i) (sub : ∀ j ∈ ts, j ∈ own.map (·.2)) (tok : TgOk ts t)
    (hc : X.calm = true) (hN : X.N.Nodup) (hy : X.N[i]? = some y) (hyl : X.env.scope.names.lookup y = some .local)
    (hsw : swapsWith (.ListComp elt [⟨tg, iter, ifs, 0⟩] scope pos) (some (.Name y py)) spos.line X.env = pure true) (hi : PI X tg iter (mI M E gl)) (ok : BlkOk X.N X.env.scope scope own)
    (hg : ∀ (s : Shared) (H : Hp) (C : Addr) (cl : List (Str × Addr)) (fp : List Addr), PG (X.blk s H scope (compEnvC scope cl C X.env) fp) tg (mG M ts t)) (ht : ∀ (s : Shared) (H : Hp) (C : Addr) (cl : List (Str × Addr)) (fp : List Addr), PTs (X.blk s H scope (compEnvC scope cl C X.env) fp) ifs (mT M E0 gt))
    (he : ∀ (s : Shared) (H : Hp) (C : Addr) (cl : List (Str × Addr)) (fp : List Addr), PE (X.blk s H scope (compEnvC scope cl C X.env) fp) elt (mE M E0 ge)) (hs : ∀ x, foldedSetIterable iter X.env x = pure x := by intro _; rfl) :
    PS X (.Assign [.Name y py] (.ListComp elt [⟨tg, iter, ifs, 0⟩] scope pos) spos) (mS M E (sSet i (frz (lcL (own.map (·.2)) t gt ge gl)))) := by
  refine ps_imp (L2.ps_setLc hc hN hy hyl hsw hi ok hg ht he hs) fun Dn σ H z => ?_
  obtain ⟨F, l, st, w⟩ := z
  refine lc_read np sub tok (mE_frz ⟨F, l, st, (wS.thn st w).mono fun d l1 F1 H1 g1 st1 w1 v rv => ?_⟩)
  exact w1 _ F1 H1 (Same.refl _) (st1.setFr' npi rv)
/-! ### slices -/
abbrev MO := Ld → Res (Option Int)
def mO (M : MC) (E : L2.St → XK) (g : MO) : TO := fun σ H Q => ∃ F l, StM M F σ H l ∧ wR M E σ F H l (fun o _ _ H' => Q o H') (g l)
def oNone : MO := fun l => .ok none l
def oSome (g : ME) : MO := fun l => (g l).bind fun d l1 => match d with
  | .int i => .ok (some i) l1
  | _ => .stuck
theorem po_imp {o : Option Expr} {t t' : TO} (h : PO X o t) (imp : ∀ σ H Q, t' σ H Q → t σ H Q) : PO X o t' := ⟨fun pins s σ H Q I z => h.run pins s σ H Q I (imp _ _ _ z)⟩
theorem mo_none : PO X none (mO M E oNone) := po_imp po_none fun σ H Q z => by
  obtain ⟨F, l, st, w⟩ := z
  exact w F H (Gr.refl _ _ _ _) st
theorem mo_some (h : PE X e (mE M E ga)) : PO X (some e) (mO M E (oSome ga)) := po_imp (po_some h) fun σ H Q z => by
  obtain ⟨F, l, st, w⟩ := z
  refine ⟨F, l, st, (wR.bind w).mono fun d l1 F1 H1 g1 st1 w1 v rv => ?_⟩
  cases d with
  | int i =>
    cases rv
    exact ⟨i, rfl, w1 F1 H1 (Gr.refl _ _ _ _) st1⟩
  | _ => exact w1.elim
def cutD {α : Type} (xs : List α) (lo hi : Option Int) : List α := (xs.drop (HT.sIx xs.length 0 lo)).take (HT.sIx xs.length xs.length hi - HT.sIx xs.length 0 lo)
def slD : D → Option Int → Option Int → Option D
  | .tup xs, lo, hi => some (.tup (cutD xs lo hi))
  | .str z, lo, hi => if z.length ≤ sizeLine then some (.str (cutS z lo hi)) else none
  | .list xs, lo, hi => some (.list (cutD xs lo hi))
  | .scr ns, lo, hi => some (.list ((cutD ns lo hi).map .int))
  | _, _, _ => none
def slE (g : ME) (lo hi : MO) : ME := fun l => (g l).bind fun d l1 => (lo l1).bind fun i l2 => (hi l2).bind fun j l3 => Res.lift (slD d i j) l3
theorem cutD_whole {α : Type} {xs : List α} {lo hi : Option Int} (h : HT.sIx xs.length 0 lo = 0 ∧ HT.sIx xs.length xs.length hi = xs.length) : cutD xs lo hi = xs := by
  unfold cutD
  rw [h.1, h.2, List.drop_zero, Nat.sub_zero, List.take_length]
theorem cutV_ints (ns : List Int) (lo hi : Option Int) : cutV (ns.map V.int) lo hi = (cutD ns lo hi).map V.int := by
  unfold cutV cutD
  rw [List.length_map, ← List.map_drop, ← List.map_take]
theorem slr_imp {r r' : V → Option Int → Option Int → Hp → VK → Prop} (h : SlR X r) (imp : ∀ x lo hi H Q, r' x lo hi H Q → r x lo hi H Q) : SlR X r' := fun pins s σ H x v vl vu lo hi sl Q I rx hs pl pu z => h pins s σ H x v vl vu lo hi sl Q I rx hs pl pu (imp _ _ _ _ _ z)
def rSlD (K : PySem.W.Frag) : V → Option Int → Option Int → Hp → VK → Prop := fun x lo hi H Q => ∃ F d r, Same F H ∧ Rep K F x d ∧ slD d lo hi = some r ∧ ∀ v F' H', Nw F H F' H' → Rep K F' v r → Q v H'
theorem sl_D {K : PySem.W.Frag} (eK : X.K = K) : SlR X (rSlD K) := by
  refine slr_imp (sl_tupA.or (sl_str.or sl_list)) fun x lo hi H Q h => ?_
  obtain ⟨F, d, r, s, rx, hf, q⟩ := h
  cases rx with
  | tup ht rs =>
    rename_i vs ds
    cases hf
    have e : vs.length = ds.length := rs.length
    refine .inl ⟨_, vs, rfl, by rw [eK]; exact seqT_same s ht, fun z => ?_, fun z p np => ?_⟩
    · rw [e] at z
      rw [cutD_whole z] at q
      exact q _ F H (Nw.refl s) (.tup ht rs)
    · have nw := Nw.add (o := .tup (cutV vs lo hi)) s np
      exact q _ _ _ nw (.tup (SqT.of upd_same) ((rs.cut lo hi).up nw.f))
  | str z =>
    have hf : (if z.length ≤ sizeLine then some (D.str (cutS z lo hi)) else none) = some r := hf
    split at hf
    · cases hf
      exact .inr (.inl ⟨z, rfl, by assumption, q _ F H (Nw.refl s) (.str _)⟩)
    · cases hf
  | list hl rs =>
    rename_i vs ds
    cases hf
    refine .inr (.inr ⟨_, vs, rfl, SqL.of (s _ _ hl), fun p np => ?_⟩)
    have nw := Nw.add (o := .lst (cutV vs lo hi)) s np
    exact q _ _ _ nw (.list upd_same ((rs.cut lo hi).up nw.f))
  | scr hl =>
    rename_i ns
    cases hf
    refine .inr (.inr ⟨_, _, rfl, by rw [eK]; exact s.seq hl, fun p np => ?_⟩)
    have nw := Nw.add (o := .lst (cutV (ns.map V.int) lo hi)) s np
    refine q _ _ _ nw (.list upd_same ?_)
    rw [cutV_ints]
    exact Reps.of_ints _
  | _ => cases hf
theorem me_slice {lo hi : Option Expr} {gLo gHi : MO} {p2 : Pos} (eK : X.K = M.K) (he : PE X e (mE M E ga)) (hl : PO X lo (mO M E gLo)) (hu : PO X hi (mO M E gHi)) : PE X (.Subscript e (.Slice lo hi none p2) pos) (mE M E (slE ga gLo gHi)) :=
  pe_imp (pe_slice (sl_D eK) he hl hu) fun σ H Q z => by
    obtain ⟨F, l, st, w⟩ := z
    refine ⟨F, l, st, (wR.bind w).mono fun d l1 F1 H1 g1 st1 w1 v rv => ?_⟩
    refine ⟨F1, l1, st1, (wR.bind w1).mono fun i l2 F2 H2 g2 st2 w2 => ?_⟩
    refine ⟨F2, l2, st2, (wR.bind w2).mono fun j l3 F3 H3 g3 st3 w3 => ?_⟩
    cases hf : slD d i j with
    | none => rw [hf] at w3; exact w3.elim
    | some r =>
      rw [hf] at w3
      exact ⟨F3, d, r, st3.sub, (rv.up g2.ext).up g3.ext, hf, fun v F' H' nw rr => st3.give w3 nw v rr⟩
end
section
variable {P : Program} {w : World} {K : PySem.W.Frag} {mg : Str → Option Value} {base : Heap} {k n : Nat} {x : Str} {st : Stmt} {ps N : List Str} {dvs dv : List V}
end
end Sb

namespace Sb
open PySem PySem.Spec PyProof.Rows L2

/-! ### defs at their addresses -/
def HasF (P : Program) (w : World) (K : PySem.W.Frag) (mg : Str → Option Value) (base : Heap) (CX : CXT) (k : Nat) (f : Addr) (ps : List Str) (dvs : List V) (sp : Sp) : Prop :=
  ∃ (fd : FuncData) (ds : List Value), FnG P w K mg base CX k f fd ps sp ∧ Binds K fd ps ds ∧ Vals dvs ds
section
variable {P : Program} {w : World} {K : PySem.W.Frag} {mg : Str → Option Value} {base : Heap} {k n : Nat} {x qn : Str} {st : Stmt} {ps N : List Str} {dvs dv : List V} {f : Addr}
theorem HasF.up {j : Nat} {CX : CXT} {sp : Sp} (h : HasF P w K mg base CX j f ps dvs sp) (le : j ≤ k) : HasF P w K mg base CX k f ps dvs sp := by
  obtain ⟨fd, ds, F, r⟩ := h
  exact ⟨fd, ds, F.up le, r⟩
theorem has_mF {g : MS} {fs : List Nat} (D : ∃ fd, FunD K x qn (defArgs st) (defBody st) (defScope st) dvs [] f fd) (S : FnScope N ps (defScope st))
    (bnd : ∀ fd, FunD K x qn (defArgs st) (defBody st) (defScope st) dvs [] f fd → ∃ ds, Vals dv ds ∧ Binds K fd ps ds)
    (walk : ∀ (cv : Value) (A : Around) (outer : List Env) (s : Shared) (H : Hp) (E : XK) (F0 H0 : Hp) (pr : List (Nat × Addr)), (∀ i ∈ fs, ∀ q ∈ pr, q.1 ≠ i) → Still A → Room k (A.deeper (envOfC qn (defScope st) s.heap.objs.size f cv)) →
      PSs (cxOf (L2.CX P w) P w K mg base N qn (defScope st) f cv A outer s H E) (defBody st) (mS ⟨K, F0, H0, pr⟩ (fun _ => E) g)) :
    HasF P w K mg base (L2.CX P w) (k + 1) f ps dv (spM K ps.length (runF g N.length fs)) := by
  obtain ⟨fd, F⟩ := D
  obtain ⟨ds, v, b⟩ := bnd fd F
  refine ⟨fd, ds, okXG F S (fun vs H Q E h => ?_) (fun cv A outer s H vs Q E hg hr h => ?_), b, v⟩
  · obtain ⟨F, ss, n, _, ok, _⟩ := h
    rw [ok.len, n]
  · obtain ⟨F, ss, n, s', ok, wf⟩ := h
    obtain ⟨np, rd⟩ := run_ok (N := N) s' ok wf
    exact ⟨_, walk cv A outer s H E F H _ np hg hr, rd⟩
theorem has_stuckF (D : ∃ fd, FunD K x qn (defArgs st) (defBody st) (defScope st) dvs [] f fd) (S : FnScope N ps (defScope st))
    (bnd : ∀ fd, FunD K x qn (defArgs st) (defBody st) (defScope st) dvs [] f fd → ∃ ds, Vals dv ds ∧ Binds K fd ps ds) (hk : 1 ≤ k := by omega) : HasF P w K mg base (L2.CX P w) k f ps dv (spM K n fun _ => .stuck) := by
  obtain ⟨fd, F⟩ := D
  obtain ⟨ds, v, b⟩ := bnd fd F
  refine HasF.up (j := 0 + 1) ⟨fd, ds, okXG F S (fun vs H Q E h => ?_) (fun cv A outer s H vs Q E hg hr h => ?_), b, v⟩ hk
  · obtain ⟨F, ss, _, _, _, h⟩ := h
    exact h.elim
  · obtain ⟨F, ss, _, _, _, h⟩ := h
    exact h.elim
end
section
variable {X : Cx} {CX : CXT} {k : Nat} {f : Addr} {ps : List Str} {sp : Sp} {dvs : List V} {E : L2.St → XK}
theorem calledC {pins : List (Addr × Obj)} {σ : L2.St} {H : Hp} {s : Shared} {Q : VK} {us : List Value} {vs : List V} (C : HasF X.prog X.w X.K X.mg X.base CX k f ps dvs sp) (g : Still X.A) (room : Room k X.A) (px : PassesAt CX X σ (E σ)) (I : Inv X pins σ H s) (rv : Vals vs us) (h : sp (vs ++ dvs) H Q (E σ)) :
    codeAny (model X.prog X.w) X.A (Code.call (.ref f) ⟨us, []⟩) (fun r s' => match r with
      | .ok (.ret v) => EP X pins σ Q v s'
      | .ok _ => False
      | .error e => X.xe e s') s := by
  obtain ⟨fd, ds, F, bnd, dv⟩ := C
  have all := rv.append dv
  have n : (us ++ ds).length = ps.length := all.length.symm.trans (F.many _ _ _ _ h)
  refine codeAny_mono (F.does X.A X.stack s H ⟨us, []⟩ _ _ Q (E σ) g room I.env0 (bnd s us I.kIn n) all h) ?_
  intro r s' z
  match r, z with
  | .error e, z => exact px pins H s e s' I z
  | .ok (.ret u), z => exact I.after z
  | .ok .next, z => exact z.elim
  | .ok .brk, z => exact z.elim
  | .ok .cont, z => exact z.elim
theorem calledS {pins : List (Addr × Obj)} {σ : L2.St} {H : Hp} {s : Shared} {Q : VK} {us : List Value} {vs : List V} (C : HasF X.prog X.w X.K X.mg X.base CX k f ps dvs sp) (g : Still X.A) (room : Room k X.A) (px : PassesAt CX X σ (E σ)) (I : Inv X pins σ H s) (rv : Vals vs us) (h : sp (vs ++ dvs) H Q (E σ)) :
    wpAny (model X.prog X.w) X.A (call (.ref f) us) (EP X pins σ Q) X.xe s := by
  refine wpAny_call (codeAny_mono (calledC C g room px I rv h) ?_)
  intro r s' z
  match r, z with
  | .error e, z => exact z
  | .ok (.ret u), z => exact z
  | .ok .next, z => exact z.elim
  | .ok .brk, z => exact z.elim
  | .ok .cont, z => exact z.elim
def tMethS (C : Addr) (m : Str) (sp : Sp) (dvs : List V) (E : L2.St → XK) (ta : TE) (t : TA) : TE := fun σ H Q => ta σ H fun x H1 => ∃ a dx fs, x = .ref a ∧ H1 a = some (.ins C dx fs) ∧ fs.lookup m = none ∧ t σ H1 fun vs H2 => sp (.ref a :: (vs ++ dvs)) H2 Q (E σ)
theorem pe_methS {C : Addr} {m : Str} {o e : Expr} {es : List Expr} {ta : TE} {t : TA} {apos pos : Pos} {pl : Sem Bool} (he : PE X o ta) (c : Cls X.K C) (hm : Meth X.K C m f) (F : HasF X.prog X.w X.K X.mg X.base CX k f ps dvs sp) (g : Still X.A) (room : Room k X.A) (px : ∀ σ, PassesAt CX X σ (E σ)) (ha : PA X (e :: es) t)
    (hst : starEach (e :: es) X.env = (false, eval e X.env) :: starEach es X.env := by rfl) (hpl : (backTo pos (starEach es X.env)).any (·.1) = false := by rfl)
    (ht : eval (.Call (.Attribute o m apos) (e :: es) [] pos) X.env = (do
      let ov ← eval o X.env
      standAt apos.atName
      let (f, first) ← holding [ov] (getMethod ov m pl)
      callWith pos f first (backTo pos (starEach (e :: es) X.env)) (backToKw pos (keywordEach [] X.env))) := by rfl) :
    PE X (.Call (.Attribute o m apos) (e :: es) [] pos) (tMethS C m sp dvs E ta t) := by
  refine ⟨fun pins s σ H Q I h => ?_⟩
  refine PySem.W.methodCall_KW (pl := pl) (thn (he.run pins s σ H _ I h) fun u s1 ⟨x, H1, I1, rx, a, dx, fs, ex, ea, l, q⟩ => ?_) ht
  subst ex
  obtain rfl : u = Value.ref a := rx
  refine getmeth_ok I1 ea c hm l ?_
  refine PySem.W.callWith_K (first := [.ref a]) (h₀ := X.base) I.ok.mod.kin hm.kp (thn (ha.run pos pins s1 σ H1 _ I1 q) fun us s2 ⟨vs, H2, I2, r, q2⟩ => ⟨I2.kIn, ?_⟩) hst hpl
  exact calledS (us := .ref a :: us) (vs := .ref a :: vs) F g room (px σ) I2 (.cons rfl r) q2
theorem pe_methS0 {C : Addr} {m : Str} {o : Expr} {ta : TE} {apos pos : Pos} {pl : Sem Bool} (he : PE X o ta) (c : Cls X.K C) (hm : Meth X.K C m f) (F : HasF X.prog X.w X.K X.mg X.base CX k f ps dvs sp) (g : Still X.A) (room : Room k X.A) (px : ∀ σ, PassesAt CX X σ (E σ))
    (ht : eval (.Call (.Attribute o m apos) [] [] pos) X.env = (do
      let ov ← eval o X.env
      standAt apos.atName
      let (f, first) ← holding [ov] (getMethod ov m pl)
      callWith pos f first (backTo pos (starEach [] X.env)) (backToKw pos (keywordEach [] X.env))) := by rfl) :
    PE X (.Call (.Attribute o m apos) [] [] pos) (tMethS C m sp dvs E ta L2.tNil) := by
  refine ⟨fun pins s σ H Q I h => ?_⟩
  refine PySem.W.methodCall_KW (pl := pl) (thn (he.run pins s σ H _ I h) fun u s1 ⟨x, H1, I1, rx, a, dx, fs, ex, ea, l, q⟩ => ?_) ht
  subst ex
  obtain rfl : u = Value.ref a := rx
  refine getmeth_ok I1 ea c hm l ?_
  exact PySem.W.callWith_K0 (first := [.ref a]) I1.kIn hm.kp (calledS (us := [.ref a]) (vs := [.ref a]) F g room (px σ) I1 (.cons rfl .nil) q)
theorem madeS {pins : List (Addr × Obj)} {σ : L2.St} {H : Hp} {s : Shared} {Q : VK} {us : List Value} {vs : List V} {C : Addr} (M : Mk X.K C f) (F : HasF X.prog X.w X.K X.mg X.base CX k f ps dvs sp) (g : Still X.A) (room : Room (k + 1) X.A) (px : PassesAt CX X σ (E σ)) (I : Inv X pins σ H s) (r : Vals vs us)
    (h : ∀ x dx, H x = none → H dx = none → dx ≠ x → sp (.ref x :: (vs ++ dvs)) (upd (upd H dx (.own x)) x (.ins C dx [])) (fun v H2 => v = .non ∧ Q (.ref x) H2) (E σ)) :
    wpAny (model X.prog X.w) X.A (call (.ref C) us) (EP X pins σ Q) X.xe s := by
  obtain ⟨fd, ds, F, hb, hd⟩ := F
  have hq := h (s.heap.objs.size + 1) s.heap.objs.size (I.hok.fresh (Nat.le_succ _)) (I.hok.fresh (Nat.le_refl _)) (Nat.ne_of_lt (Nat.lt_succ_self _))
  have I2 := Inv.made (C := C) I
  have r2 : Vals (V.ref (s.heap.objs.size + 1) :: (vs ++ dvs)) (Value.ref (s.heap.objs.size + 1) :: (us ++ ds)) := .cons rfl (r.append hd)
  have hl : (Value.ref (s.heap.objs.size + 1) :: us ++ ds).length = ps.length := by
    have e := r2.length
    rw [F.many _ _ _ _ hq] at e
    exact e.symm
  have g2 : Still (X.A.under (.builtin "type.__call__" ⟨.ref C :: us, []⟩)) := g
  refine wpAny_call (make_map (f := f) I.kIn M.makes M.init (beq_iff_eq.mp M.fn) (codeAny_mono (F.does _ X.stack _ _ ⟨Value.ref (s.heap.objs.size + 1) :: us, []⟩ (Value.ref (s.heap.objs.size + 1) :: (us ++ ds)) _ _ (E σ) g2 (room.make C us [])
    (I2.env0.make C us []) (hb _ (Value.ref (s.heap.objs.size + 1) :: us) I2.kIn hl) r2 hq) fun r s' hq' => ?_))
  cases r with
  | error e => exact px pins _ _ e s' I2 hq'
  | ok fl =>
    cases fl with
    | ret u =>
      obtain ⟨v, H', I3, rv, ev, q3⟩ := I2.after hq'
      subst ev
      exact ⟨rv, ⟨V.ref (s.heap.objs.size + 1), H', I3, rfl, q3⟩⟩
    | next => exact False.elim hq'
    | brk => exact False.elim hq'
    | cont => exact False.elim hq'
def tMakeS (C : Addr) (sp : Sp) (dvs : List V) (E : L2.St → XK) (t : TA) : TE := fun σ H Q => t σ H fun vs H1 => ∀ x dx, H1 x = none → H1 dx = none → dx ≠ x →
  sp (.ref x :: (vs ++ dvs)) (upd (upd H1 dx (.own x)) x (.ins C dx [])) (fun v H2 => v = .non ∧ Q (.ref x) H2) (E σ)
theorem pe_makeS {C : Addr} {x : Str} {e : Expr} {es : List Expr} {t : TA} {p pos : Pos} (M : Mk X.K C f) (F : HasF X.prog X.w X.K X.mg X.base CX k f ps dvs sp) (g : Still X.A) (room : Room (k + 1) X.A) (px : ∀ σ, PassesAt CX X σ (E σ)) (hg : Gl X x) (hm : X.mg x = some (.ref C))
    (ha : PA X (e :: es) t) (hdb : (x == ("__debug__" : Str)) = false := by decide) (he : starEach (e :: es) X.env = (false, eval e X.env) :: starEach es X.env := by rfl) (hpl : (backTo pos (starEach es X.env)).any (·.1) = false := by rfl) :
    PE X (.Call (.Name x p) (e :: es) [] pos) (tMakeS C sp dvs E t) := by
  refine ⟨fun pins s σ H Q I h => ?_⟩
  refine wpAny_Call_Name_kw (ld_glob I hg hm ?_ hdb)
  refine PySem.W.callWith_K (h₀ := X.base) I.ok.mod.kin M.kp (thn (ha.run pos pins s σ H _ I h) fun us s1 ⟨vs, H1, I1, r, q⟩ => ⟨I1.kIn, ?_⟩) he hpl
  exact madeS M F g room (px σ) I1 r q
end

/-! ### instances by data -/
def FldF (K : PySem.W.Frag) (f : Str) (cs : List Str) : Prop := ∀ c ∈ cs, Cls K (He.ga K c) ∧ NoAttr K (He.ga K c) f
theorem clsB_ok {K : PySem.W.Frag} {x : Str} (h : clsB K x = true) : Cls K (He.ga K x) := by
  simp only [clsB, Bool.and_eq_true, decide_eq_true_eq] at h
  obtain ⟨⟨⟨a, b⟩, c⟩, d⟩ := h
  exact ⟨a, b, c, d⟩
theorem fldB_ok {K : PySem.W.Frag} {f : Str} {cs : List Str} (h : fldB K f cs = true) : FldF K f cs := fun c m => by
  have := List.all_eq_true.mp h c m
  rw [Bool.and_eq_true] at this
  exact ⟨clsB_ok this.1, of_decide_eq_true (p := PySem.W.findIn K (.ref (He.ga K c)) f = some none) this.2⟩
def fldD (f : Str) (cs : List Str) : D → Option D
  | .ins c fs => if c ∈ cs then fs.lookup f else none
  | _ => none
def putFD (f : Str) (d : D) : List (Str × D) → List (Str × D)
  | [] => [(f, d)]
  | (g, e) :: r => if g = f then (g, d) :: r else (g, e) :: putFD f d r
section
variable {X : Cx} {M : MC} {E : L2.St → XK} {e o : Expr} {ga go : ME} {pos apos : Pos}
theorem me_fld {f : Str} {cs : List Str} (eK : X.K = M.K) (T : FldF M.K f cs) (he : PE X e (mE M E ga)) (hb : attributeBase e f X.env (eval e X.env) = eval e X.env := by rfl) : PE X (.Attribute e f pos) (mE M E (un1 (fldD f cs) ga)) :=
  pe_imp (pe_fld he hb) fun σ H Q z => by
    obtain ⟨F, l, st, w⟩ := z
    refine ⟨F, l, st, (wR.bind w).mono fun d l1 F1 H1 g1 st1 w1 v rv => ?_⟩
    cases hf : fldD f cs d with
    | none => rw [hf] at w1; exact w1.elim
    | some r =>
      rw [hf] at w1
      cases rv with
      | ins h rs =>
        rename_i a dx gs c ds
        have hf : (if c ∈ cs then ds.lookup f else none) = some r := hf
        split at hf
        · rename_i hc
          obtain ⟨u, eu, ru⟩ := rs.get hf
          rw [eK]
          exact ⟨a, _, dx, gs, u, rfl, st1.sub _ _ h, (T c hc).1, (T c hc).2, eu, w1 F1 H1 (Gr.refl _ _ _ _) st1 u ru⟩
        · cases hf
      | _ => cases hf
theorem repF_put {K : PySem.W.Frag} {F : Hp} {f : Str} {v : V} {d : D} (r : Rep K F v d) : ∀ {gs : List (Str × V)} {ds : List (Str × D)}, RepF K F gs ds → RepF K F (putF f v gs) (putFD f d ds)
  | _, _, .nil => .cons r .nil
  | _, _, .cons (n := n) q t => by
    unfold putF putFD
    by_cases h : n = f
    · subst h
      simp only [if_true, beq_self_eq_true]
      exact .cons r t
    · have hb : (n == f) = false := by simpa using h
      simp only [h, hb, if_false, Bool.false_eq_true]
      exact .cons q (repF_put r t)
theorem repF_len {K : PySem.W.Frag} {F : Hp} : ∀ {gs : List (Str × V)} {ds : List (Str × D)}, RepF K F gs ds → gs.length = ds.length
  | _, _, .nil => rfl
  | _, _, .cons _ t => congrArg (· + 1) (repF_len t)
def sFldM (i : Nat) (f : Str) (cs : List Str) (g : ME) : MS := fun l => (g l).thn fun d l1 => match l1[i]? with
  | some (some (.ow (.ins c fs))) => if c ∈ cs ∧ fs.length < 1000 then .nx (l1.set i (some (.ow (.ins c (putFD f d fs))))) else .stuck
  | _ => .stuck
theorem ms_fld {i : Nat} {x f : Str} {cs : List Str} {p pos' : Pos} {value : Expr} (eK : X.K = M.K) (T : FldF M.K f cs) (hN : X.N[i]? = some x) (hv : Vis X.env.scope x) (hval : PE X value (mE M E ga)) (hd : (x == ("__debug__" : Str)) = false := by decide) (hcd : (x == ("__classdict__" : Str)) = false := by decide)
    (hs : swapsWith value (some (.Attribute (.Name x p) f pos')) pos.line X.env = pure false := by rfl) : PS X (.Assign [.Attribute (.Name x p) f pos'] value pos) (mS M E (sFldM i f cs ga)) :=
  ps_imp (ps_fld (pe_var hN hv hd hcd) hval hs) fun Dn σ H z => by
    obtain ⟨F, l, st, w⟩ := z
    refine ⟨F, l, st, (wS.thn st w).mono fun d l1 F1 H1 g1 st1 w1 v rv => ?_⟩
    split at w1
    · rename_i c fs hl
      split at w1
      · rename_i hc
        obtain ⟨u, eu, q, _, rfl, hq, fq, ⟨dx, gs, rfl, rs⟩, _⟩ := st1.slot i _ hl
        obtain ⟨st2, _⟩ := st1.put (vs := .ins (He.ga M.K c) dx (putF f v gs)) (ys := .ins c (putFD f d fs)) hl eu ⟨dx, _, rfl, repF_put rv rs⟩
        rw [eK]
        exact ⟨_, eu, q, _, dx, gs, rfl, hq, (T c hc.1).1, (T c hc.1).2, by rw [repF_len rs]; exact hc.2, w1 σ F1 _ (Same.refl _) st2⟩
      · exact w1.elim
    · exact w1.elim
structure MethF (K : PySem.W.Frag) (c m : Str) (f : Addr) : Prop where
  cl : Cls K (He.ga K c)
  me : Meth K (He.ga K c) m f
theorem methB_ok {K : PySem.W.Frag} {c m : Str} {f : Addr} (h : methB K c m f = true) : MethF K c m f := by
  simp only [methB, Bool.and_eq_true, decide_eq_true_eq] at h
  obtain ⟨⟨⟨a, b⟩, c⟩, d⟩ := h
  exact ⟨clsB_ok a, b, c, d⟩
end
end Sb

namespace Sb
open PySem PySem.Spec PyProof.Rows L2

/-! ### a new instance -/
def mkApp (c : Str) (m : MF) (dd : List D) (as : List Arg) (l : Ld) : Res D := match resolve l as with
  | none => .stuck
  | some ss => if (slotsOf as).Nodup then (match m (.ow (.ins c []) :: (ss ++ dd.map .fr)) with
    | .ok (.fr .non) (s0 :: ss') => if ss'.length = ss.length + dd.length then .ok s0.toD (putA as (ss'.take ss.length) l) else .stuck
    | .err x f d (_ :: ss') => if ss'.length = ss.length + dd.length then .err x f d (putA as (ss'.take ss.length) l) else .stuck
    | _ => .stuck) else .stuck
def mkE (c : Str) (m : MF) (dd : List D) (g : MA) : ME := fun l => (g l).bind fun as l1 => mkApp c m dd as l1
section
variable {M : MC} {E : L2.St → XK} {σ : L2.St} {F H F' H' : Hp} {l : Ld} {as : List Arg} {vs dvs : List V} {dd : List D} {c : Str}
theorem make_core {m : MF} {n : Nat} {Q : VK} (st : StM M F σ H l) (ar : ArgsR M.K F σ vs as) (dr : Reps M.K F dvs dd) (hn : as.length + 1 + dd.length = n)
    (w : wR M E σ F H l (fun d _ F' H' => ∀ v, Rep M.K F' v d → Q v H') (mkApp c m dd as l)) (x dx : Addr) (nx : H x = none) (ndx : H dx = none) (ne : dx ≠ x) :
    spM M.K n m (.ref x :: (vs ++ dvs)) (upd (upd H dx (.own x)) x (.ins (He.ga M.K c) dx [])) (fun v H2 => v = .non ∧ Q (.ref x) H2) (E σ) := by
  have sm : Same H (upd (upd H dx (.own x)) x (.ins (He.ga M.K c) dx [])) := fun b o e => by
    rw [upd_ne (ne_of_none e nx), upd_ne (ne_of_none e ndx)]
    exact e
  have fx : F x = none := st.sub.free nx
  have n0 : M.H0 x = none := st.domH _ nx
  unfold mkApp at w
  split at w
  · exact w.elim
  · rename_i ss re
    split at w
    · rename_i nd
      have ok := args_ok st ar re nd
      have okd := args_dd ok dr
      have hl0 : (ss ++ dd.map Sl.fr).length = ss.length + dd.length := by rw [List.length_append, List.length_map]
      have okx : ArgsOk M.K F (upd (upd H dx (.own x)) x (.ins (He.ga M.K c) dx [])) (.ref x :: (vs ++ dvs)) (.ow (.ins c []) :: (ss ++ dd.map .fr)) := by
        refine ⟨by rw [List.length_cons, List.length_cons, okd.len], fun i s e => ?_, fun i j xs ys v a b cc d => ?_⟩
        · cases i with
          | zero =>
            cases e
            exact ⟨.ref x, rfl, x, _, rfl, upd_same, fx, dx, [], rfl, .nil⟩
          | succ i =>
            obtain ⟨v, ev, r⟩ := okd.at_ i s (by simpa using e)
            refine ⟨v, by simpa using ev, ?_⟩
            cases s with
            | fr d => exact r
            | ow o =>
              obtain ⟨p, h, z1, z2, z3, z4⟩ := r
              exact ⟨p, h, z1, sm _ _ z2, z3, z4⟩
        · have far : ∀ (k : Nat) (zs : O), (ss ++ dd.map Sl.fr)[k]? = some (.ow zs) → (vs ++ dvs)[k]? = some (.ref x) → False := by
            intro k zs z1 z2
            obtain ⟨u, eu, p, h, rfl, hp, _⟩ := okd.at_ k _ z1
            rw [z2] at eu
            cases eu
            rw [nx] at hp
            cases hp
          cases i with
          | zero =>
            cases j with
            | zero => rfl
            | succ j =>
              cases cc
              exact (far j ys (by simpa using b) (by simpa using d)).elim
          | succ i =>
            cases j with
            | zero =>
              cases d
              exact (far i xs (by simpa using a) (by simpa using cc)).elim
            | succ j => exact congrArg (· + 1) (okd.inj i j xs ys v (by simpa using a) (by simpa using b) (by simpa using cc) (by simpa using d))
      refine ⟨F, _, by rw [List.length_cons, hl0, resolve_len re]; omega, st.sub.trans sm, okx, ?_⟩
      -- from what the init leaves to what the caller sees
      have tail : ∀ F' H' s0 ss', After M.K F (upd (upd H dx (.own x)) x (.ins (He.ga M.K c) dx [])) F' H' (.ref x :: (vs ++ dvs)) (.ow (.ins c []) :: (ss ++ dd.map .fr)) (s0 :: ss') → After M.K F H F' H' (vs ++ dvs) (ss ++ dd.map .fr) ss' ∧ ArgOk M.K F' H' (.ref x) s0 := by
        intro F' H' s0 ss' af
        refine ⟨⟨af.ext, af.sub, fun p o h f n => af.frn p o (sm _ _ h) f fun z => ?_, fun a z => ?_, fun i s' xs a b => ?_, fun i d a => ?_⟩, ?_⟩
        · obtain ⟨i, xs, a, b⟩ := z
          cases i with
          | zero =>
            cases b
            rw [nx] at h
            cases h
          | succ i => exact n ⟨i, xs, by simpa using a, by simpa using b⟩
        · have := af.dom a z
          by_cases e : a = x
          · rw [e]
            exact nx
          · by_cases e2 : a = dx
            · rw [e2]
              exact ndx
            · rwa [upd_ne e, upd_ne e2] at this
        · obtain ⟨v, e, r⟩ := af.at_ (i + 1) s' xs (by simpa using a) (by simpa using b)
          exact ⟨v, by simpa using e, r⟩
        · simpa using af.fr (i + 1) d (by simpa using a)
        · obtain ⟨v, e, r⟩ := af.at_ 0 s0 _ rfl rfl
          cases e
          exact r
      split at w
      · rename_i s0 ss' hm
        rw [hm]
        split at w
        · rename_i hl
          intro v F' H' af rv
          cases rv
          refine ⟨rfl, ?_⟩
          obtain ⟨af', ax⟩ := tail F' H' s0 ss' af
          have hl' : (ss'.take ss.length).length = ss.length := by rw [List.length_take]; omega
          obtain ⟨st', gr⟩ := after_ok st ar re nd hl' (after_dd ok dr af')
          cases s0 with
          | fr d => exact w F' H' gr st' _ ax
          | ow o =>
            obtain ⟨p, h, z1, hp, fp, ow⟩ := ax
            cases z1
            have ext : Same F' (upd F' x h) := new_same fp
            have no : ¬ Own σ (putA as (ss'.take ss.length) l) x := fun o => by
              obtain ⟨⟨ws, z⟩, _⟩ := st.ownH (gr.own _ o)
              rw [nx] at z
              cases z
            refine w (upd F' x h) H' ⟨gr.ext.trans ext, gr.own, fun q o h f n => ?_, gr.dom⟩ (st'.adopt hp fp n0 no) _ ((ow.up ext).rep upd_same)
            obtain ⟨a, b⟩ := gr.frn q o h f n
            rw [upd_ne (ne_of_none h nx)]
            exact ⟨a, b⟩
        · exact w.elim
      · rename_i c' f d s0 ss' hm
        rw [hm]
        split at w
        · rename_i hl
          intro v y F' H' af hx fy h0 rv
          obtain ⟨af', _⟩ := tail F' H' s0 ss' af
          have hl' : (ss'.take ss.length).length = ss.length := by rw [List.length_take]; omega
          obtain ⟨st', gr⟩ := after_ok st ar re nd hl' (after_dd ok dr af')
          refine w v y F' H' gr st' hx fy ?_ rv
          by_cases e : y = x
          · rw [e]; exact nx
          · by_cases e2 : y = dx
            · rw [e2]; exact ndx
            · rwa [upd_ne e, upd_ne e2] at h0
        · exact w.elim
      · exact w.elim
    · exact w.elim
end
section
variable {X : Cx} {M : MC} {E : L2.St → XK} {k n : Nat} {f : Addr} {ps : List Str} {m : MF} {dvs : List V} {dd : List D} {x c : Str} {p pos : Pos} {e : Expr} {es : List Expr} {g : MA}
theorem me_make (C : HasF X.prog X.w X.K X.mg X.base (L2.CX X.prog X.w) k f ps dvs (spM X.K n m)) (eK : X.K = M.K) (mk : Mk M.K (He.ga M.K c) f) (hmg : X.mg x = some (.ref (He.ga M.K c))) (dr : ∀ F, Reps M.K F dvs dd) (hn : (e :: es).length + 1 + dd.length = n) (px : ∀ σ, PassesAt (L2.CX X.prog X.w) X σ (E σ)) (sl : Still X.A) (room : Room (k + 1) X.A) (gl : Gl X x) (as : PA X (e :: es) (mA M E g)) (al : ALen g (e :: es).length)
    (nd : (x == ("__debug__" : Str)) = false := by decide) (st : starEach (e :: es) X.env = (false, eval e X.env) :: starEach es X.env := by rfl) (pl : (backTo pos (starEach es X.env)).any (·.1) = false := by rfl) :
    PE X (.Call (.Name x p) (e :: es) [] pos) (mE M E (mkE c m dd g)) :=
  pe_imp (pe_makeS (C := He.ga M.K c) (by rw [eK]; exact mk) C sl room px gl hmg as nd st pl) fun σ H Q z => by
    obtain ⟨F, l, st, w⟩ := z
    refine ⟨F, l, st, ?_⟩
    cases hg : g l with
    | stuck => unfold mkE at w; rw [hg] at w; exact w.elim
    | err c f d l' => unfold mkE at w; rw [hg] at w; exact w
    | ok bs l1 =>
      unfold mkE at w
      rw [hg] at w
      intro F1 H1 g1 st1 vs ar
      rw [eK]
      exact make_core st1 ar (dr F1) (by rw [al _ _ _ hg]; exact hn) (wR.later g1 w)
end
theorem mkB_ok {K : PySem.W.Frag} {c : Str} {f : Addr} (h : mkB K c f = true) : Mk K (He.ga K c) f := by
  simp only [mkB, Bool.and_eq_true, decide_eq_true_eq] at h
  obtain ⟨⟨⟨a, b⟩, c⟩, d⟩ := h
  exact ⟨a, b, c, d⟩
/-! ### a written tuple of texts -/
theorem rel_of_abs : ∀ {u : Value} {x : Str}, absV u = some (.str x) → RelV (.str x) u := by
  intro u x h
  cases u with
  | str y t => cases h; exact ⟨t, rfl⟩
  | _ => cases h
theorem vals_of_abs : ∀ {us : List Value} {xs : List Str}, us.map absV = xs.map (fun x => some (V.str x)) → Vals (xs.map V.str) us
  | [], [], _ => .nil
  | [], _ :: _, h => by cases h
  | _ :: _, [], h => by cases h
  | u :: us, x :: xs, h => by
    simp only [List.map_cons, List.cons.injEq] at h
    exact .cons (rel_of_abs h.1) (vals_of_abs h.2)
theorem reps_strs {K : PySem.W.Frag} {F : Hp} : ∀ xs : List Str, Reps K F (xs.map V.str) (xs.map D.str)
  | [] => .nil
  | x :: xs => .cons (.str x) (reps_strs xs)
theorem tupStr_ok {K : PySem.W.Frag} {a : Addr} {xs : List Str} (h : tupStrB K a xs = true) (F : Hp) : Rep K F (.ref a) (.tup (xs.map .str)) := by
  unfold tupStrB at h
  split at h
  · rename_i n dd its m sl e
    simp only [Bool.and_eq_true, decide_eq_true_eq, beq_iff_eq] at h
    obtain ⟨⟨rfl, h2⟩, h3⟩ := h
    exact .tup (.inr ⟨_, its, _, e, rfl, rfl, h2, vals_of_abs h3⟩) (reps_strs xs)
  · cases h
end Sb

namespace Sb
open PySem PySem.Spec PyProof.Rows L2

section
variable {X : Cx} {M : MC} {E : L2.St → XK} {a b e o : Expr} {st : Stmt} {sts : List Stmt} {ga gb go : ME} {pos apos cpos : Pos}
/-! ### texts -/
def isStr : D → Bool
  | .str _ => true
  | _ => false
/-! ### list.index -/
end
end Sb

/-! Sb, part M15: enumerate and zip of lists, tuples of names as targets of comprehensions. -/
namespace Sb
open PySem PySem.Spec PyProof.Rows L2
section
variable {X : Cx} {M : MC} {E : L2.St → XK} {gl : ML} {pos : Pos} {e : Expr}
end
/-! ### tuples of names -/
end Sb

/-! Sb, part M16: list(o) of an own class with __iter__ (iter of a tuple in a field) and __len__. -/
namespace Sb
open PySem PySem.Spec PyProof.Rows L2
section
variable {prog : Program} {w : World} {A : Around} {E : Value → Shared → Prop} {s : Shared}
end
/-! ### iter(t) as a value -/
/-! ### contracts that may name the heap's size -/
section
variable {P : Program} {w : World} {K : PySem.W.Frag} {mg : Str → Option Value} {base : Heap} {f : Addr} {fd : FuncData} {ps : List Str} {sp : Nat → Sp}
end
section
variable {X : Cx} {pins : List (Addr × Obj)} {σ : L2.St} {H : Hp} {s : Shared} {A1 : Around} {C fi fl : Addr} {fld : Str} {n : Nat} {fdI fdL : FuncData} {psI psL : List Str}
end
end Sb

/-! Sb, part M17: list(x) by data, x maybe an instance of a class that is walked by a tuple of its own. -/
namespace Sb
open PySem PySem.Spec PyProof.Rows L2
end Sb

/-! Sb, part H: the head's facts and defs at any address, over a small part of the heap. -/
namespace Sb
open PySem PySem.Spec PyProof.Rows L2

def SaysM (fs : List Fb) (fn : List He5.DefA) (K : PySem.W.Frag) : Prop := obsM fs fn K = He5.valA fn
def hookM (pick : (Addr → Option Obj) → List Addr) (fs : List Fb) (fn : List He5.DefA) : PySem.W.Hook :=
  ⟨He.AlD, fun s => lookM pick fs fn s.heap.get?, fun _ => He5.valA fn, fun _ h => ∃ K : PySem.W.Frag, K.In h ∧ SaysM fs fn K, fun _ _ e => ⟨_, He.frG_in, e⟩,
    fun _ _ _ z more => z.imp fun _ c => ⟨PySem.W.Frag.In.keeps c.1 more, c.2⟩⟩
theorem lookM_eq {pick : (Addr → Option Obj) → List Addr} {fs : List Fb} {fn : List He5.DefA} {g : Addr → Option Obj} {s : Shared} (h : ∀ a, g a = s.heap.get? a) : lookM pick fs fn g = (hookM pick fs fn).obs s := by
  cases funext h
  rfl
section
variable {fs : List Fb} {fn : List He5.DefA} {K : PySem.W.Frag}
theorem SaysM.fact (c : SaysM fs fn K) (i : Nat) {f : Fb} (at_ : fs[i]? = some f) : f K = true := by
  have both : (fs.all (fun f => f K) && fn.all (fun d => d.ok K)) = true := congrArg Prod.fst c
  exact List.all_eq_true.mp (Bool.and_eq_true_iff.mp both).1 f (List.mem_of_getElem? at_)
theorem SaysM.def_ (c : SaysM fs fn K) (i : Nat) {d : He5.DefA} (at_ : fn[i]? = some d) : ∃ fd, FunD K d.name d.qual d.params d.body d.scope (d.dvs K) (d.kws K) (d.at_ K) fd := by
  have both : (fs.all (fun f => f K) && fn.all (fun d => d.ok K)) = true := congrArg Prod.fst c
  have e : (fn.map fun d => He5.fnA K (d.at_ K))[i]? = (fn.map He5.DefA.val)[i]? := congrArg (·[i]?) (congrArg Prod.snd c)
  simp only [List.getElem?_map, at_, Option.map_some, Option.some.injEq] at e
  exact He5.DefA.funD e (List.all_eq_true.mp (Bool.and_eq_true_iff.mp both).2 d (List.mem_of_getElem? at_))
end
section
variable {K : PySem.W.Frag} {h : Heap} {mg : Str → Option Value}
theorem strAt_ok (X : K.In h) (G : h.Ns mainGlobals mg) {x v : Str} (c : strAtB K x v = true) : ∃ t, mg x = some (.str v t) := by
  unfold strAtB at c
  split at c
  · rename_i y t e
    rw [of_decide_eq_true c] at e
    exact ⟨t, PySem.W.mg_of X G e⟩
  · cases c
theorem gaB_ok (X : K.In h) (G : h.Ns mainGlobals mg) {x : Str} (c : gaB K x = true) : mg x = some (.ref (He.ga K x)) := PySem.W.mg_of X G (He.eqO_ok c)
theorem gaB_and (X : K.In h) (G : h.Ns mainGlobals mg) {x : Str} {b : Bool} (c : (gaB K x && b) = true) : mg x = some (.ref (He.ga K x)) ∧ b = true := by
  rw [Bool.and_eq_true] at c
  exact ⟨gaB_ok X G c.1, c.2⟩
theorem wantM {m : MF} {H : Hp} {a : Addr} {ns : List Int} {as : List Sl} (hS : SqL K H a (ns.map V.int)) (hm : m [.fr (.scr ns)] = .ok (.fr (.bl true)) as) : spM K 1 m [.ref a] H (fun v _ => v = .bl true) fun _ _ _ => False := by
  refine ⟨H, [.fr (.scr ns)], rfl, Same.refl _, ⟨rfl, fun i s e => ?_, fun i j xs ys v x => ?_⟩, ?_⟩
  · cases i with
    | zero => cases e; exact ⟨_, rfl, .scr hS⟩
    | succ i => simp at e
  · cases i with
    | zero => cases x
    | succ i => simp at x
  · rw [hm]
    intro v F' H' _ r
    cases r
    rfl
end
/-! ### the run in parts -/
theorem obsM_app {fs1 fs2 : List Fb} {fn1 fn2 : List He5.DefA} {K : PySem.W.Frag} (h1 : obsM fs1 fn1 K = He5.valA fn1) (h2 : obsM fs2 fn2 K = He5.valA fn2) : obsM (fs1 ++ fs2) (fn1 ++ fn2) K = He5.valA (fn1 ++ fn2) := by
  have a1 : (fs1.all (fun f => f K) && fn1.all (fun d => d.ok K)) = true := congrArg Prod.fst h1
  have a2 : (fs2.all (fun f => f K) && fn2.all (fun d => d.ok K)) = true := congrArg Prod.fst h2
  have b1 : (fn1.map fun d => He5.fnA K (d.at_ K)) = fn1.map He5.DefA.val := congrArg Prod.snd h1
  have b2 : (fn2.map fun d => He5.fnA K (d.at_ K)) = fn2.map He5.DefA.val := congrArg Prod.snd h2
  rw [Bool.and_eq_true] at a1 a2
  show (_, _) = (true, (fn1 ++ fn2).map He5.DefA.val)
  rw [List.all_append, List.all_append, List.map_append, List.map_append, a1.1, a1.2, a2.1, a2.2, b1, b2]
  rfl
theorem lookM_app {x : Option PySem.W.SharedT} {pick : (Addr → Option Obj) → List Addr} {fs1 fs2 : List Fb} {fn1 fn2 : List He5.DefA} (h1 : x.map (fun s => lookM pick fs1 fn1 (HandSHeadRun.getT s)) = some (He5.valA fn1))
    (h2 : x.map (fun s => lookM pick fs2 fn2 (HandSHeadRun.getT s)) = some (He5.valA fn2)) : x.map (fun s => lookM pick (fs1 ++ fs2) (fn1 ++ fn2) (HandSHeadRun.getT s)) = some (He5.valA (fn1 ++ fn2)) := by
  cases x with
  | none => cases h1
  | some s => exact congrArg some (obsM_app (Option.some.inj h1) (Option.some.inj h2))
open PySem.W HandSHeadRun in
theorem runEq_of {r : OpenRow} {q : Program} {H : Hook} {ob : SharedT → H.α} {M : Nat} {loose : List Str} {w : World}
    (h0 : ∀ os, (endF (stepQ (denQ tabQ) r.prog w) M r.prog w os).map (fun s => looksF r.prog (boot_heap w.params) s.abs) = some true)
    (h2 : ∀ os, (endF (stepQ (denQ tabQ) r.prog w) M r.prog w os).map (fun s => seenQ q loose (importedModules r.prog.main.body) (fun s => xlAt q [] s && recOk r.toRowW.records s) s.abs) = some (openGood q loose))
    (h1 : ∀ os, (endF (stepQ (denQ tabQ) r.prog w) M r.prog w os).map ob = some (H.val w)) : RunEq r q H ob M loose w := by
  intro os
  have a := h0 os
  have b := h1 os
  have c := h2 os
  revert a b c
  cases endF (stepQ (denQ tabQ) r.prog w) M r.prog w os with
  | none => intro a; cases a
  | some s =>
    intro a b c
    have a := Option.some.inj a
    have b := Option.some.inj b
    have c := Option.some.inj c
    exact congrArg some (Prod.ext a (Prod.ext c b))
open PySem.W HandSHeadRun in
theorem runEqZ_of {r : OpenRow} {q : Program} {H : Hook} {ob : SharedT → H.α} {M : Nat} {loose : List Str} {w : World}
    (h0 : ∀ os, (endZ M r.prog w os).map (fun s => looksF r.prog (boot_heap w.params) s.abs) = some true)
    (h2 : ∀ os, (endZ M r.prog w os).map (fun s => seenQ q loose (importedModules r.prog.main.body) (fun s => xlAt q [] s && recOk r.toRowW.records s) s.abs) = some (openGood q loose))
    (h1 : ∀ os, (endZ M r.prog w os).map ob = some (H.val w)) : RunEq r q H ob M loose w :=
  runEq_of (fun os => by rw [← endZ_eq]; exact h0 os) (fun os => by rw [← endZ_eq]; exact h2 os) (fun os => by rw [← endZ_eq]; exact h1 os)
/-! ### a small part of the heap, without the search for doubles -/
/-! ### isinstance of built-in classes needs no head -/
theorem isi_bt {K : PySem.W.Frag} {u : Value} {tab : List (TK × Bool)} (h : tab.all (fun e => match e.1 with | .c _ => false | _ => true) = true) (hk : ∀ e ∈ tab, PySem.W.kitOne K (valOf K e.1) u = some e.2) : IsiF K u tab := by
  refine ⟨fun k b m => hk _ m, fun x b m => ?_⟩
  have := List.all_eq_true.mp h _ m
  cases this
end Sb

set_option maxHeartbeats 1000000
/-! Sb, part D1: dicts on the mirror road: d[k], k in d, d[k] = v, {}, {k: v, ..}, len(d), list(d). -/
namespace Sb
open PySem PySem.Spec PyProof.Rows L2

/-! ### keys -/
section
variable {X : Cx} {pins : List (Addr × Obj)} {σ : L2.St} {H F : Hp} {s : Shared}
mutual
theorem key_nk (I : Inv X pins σ H s) (sm : Same F H) : ∀ (d : D) (v : V) (u : Value) (k : NestedKey), Rep X.K F v d → RelV v u → nkOf d = some k → NestedIs s.heap k u
  | .non, _, u, k, .non, r, e => by
    cases e
    cases (show u = Value.none from r)
    exact .none
  | .bl b, _, u, k, .bl _, r, e => by
    cases e
    cases (show u = Value.bool b from r)
    exact .bool rfl
  | .int i, _, u, k, .int _, r, e => by
    cases e
    obtain ⟨t, rfl⟩ := (show ∃ t, u = Value.int i t from r)
    exact .int i t
  | .str x, _, u, k, .str _, r, e => by
    cases e
    obtain ⟨t, rfl⟩ := (show ∃ t, u = Value.str x t from r)
    exact .text x t
  | .tup ds, _, u, k, .tup (a := a) h rs, r, e => by
    rw [nkOf] at e
    obtain ⟨ks, e1, rfl⟩ := Option.map_eq_some_iff.mp e
    cases (show u = Value.ref a from r)
    obtain ⟨its, rv, ⟨o, h1, h2, n, h3⟩, _⟩ := I.tuple (seqT_same sm h)
    exact .tup h1 h2 h3 (by simpa using keys_nk I sm ds _ its ks rs rv e1)
  | .scr _, _, _, _, _, _, e => by rw [nkOf] at e; cases e
  | .list _, _, _, _, _, _, e => by rw [nkOf] at e; cases e
  | .ins _ _, _, _, _, _, _, e => by rw [nkOf] at e; cases e
  | .cls _, _, _, _, _, _, e => by rw [nkOf] at e; cases e
  | .dict _ _, _, _, _, _, _, e => by rw [nkOf] at e; cases e
theorem keys_nk (I : Inv X pins σ H s) (sm : Same F H) : ∀ (ds : List D) (vs : List V) (us : List Value) (ks : List NestedKey), Reps X.K F vs ds → Vals vs us → nksOf ds = some ks → NestedAll s.heap ks us
  | [], _, _, _, .nil, .nil, e => by rw [nksOf] at e; cases e; exact .nil
  | d :: ds, _, _, _, .cons r rs, .cons q qs, e => by
    rw [nksOf] at e
    obtain ⟨k, e1, e2⟩ := Option.bind_eq_some_iff.mp e
    obtain ⟨ks, e3, rfl⟩ := Option.map_eq_some_iff.mp e2
    exact .cons (key_nk I sm d _ _ k r q e1) (keys_nk I sm ds _ _ ks rs qs e3)
end
abbrev EsX : List (Int × V × V) → List Rw → Prop := Paired fun e x => RelV e.2.1 x.2.1 ∧ RelV e.2.2 x.2.2
abbrev KvX : List (D × D) → List Rw → Prop := Paired fun p x => nkOf p.1 = some x.1
theorem rows_nk (I : Inv X pins σ H s) (sm : Same F H) {w : World} : ∀ {es : List (Int × V × V)} {kvs : List (D × D)} {ys : List DictEntry}, RepD X.K F w es kvs →
    Paired (fun (e : Int × V × V) (x : DictEntry) => e.1 = x.hash ∧ RelV e.2.1 x.key ∧ RelV e.2.2 x.val) es ys →
    ∃ xs : List Rw, ys = xs.map (entN w) ∧ (∀ x ∈ xs, NestedIs s.heap x.1 x.2.1 ∧ x.1.depth ≤ 8) ∧ EsX es xs ∧ KvX kvs xs
  | _, _, _, .nil, .nil => ⟨[], rfl, fun _ z => (nomatch z), .nil, .nil⟩
  | _, _, _, .cons (k := k) n1 n2 n3 r1 r2 rs, .cons (b := y) q qs => by
    obtain ⟨xs, e, all, p1, p2⟩ := rows_nk I sm rs qs
    obtain ⟨q1, q2, q3⟩ := q
    refine ⟨(k, y.key, y.val) :: xs, ?_, fun x m => ?_, .cons ⟨q2, q3⟩ p1, .cons n1 p2⟩
    · rw [List.map_cons, e]
      obtain ⟨hh, kk, vv⟩ := y
      dsimp only at q1
      rw [← q1, n3]
      rfl
    · rcases List.mem_cons.mp m with rfl | m
      · exact ⟨key_nk I sm _ _ _ _ r1 q2 n1, n2⟩
      · exact all x m
theorem KvX.keys : ∀ {kvs : List (D × D)} {xs : List Rw}, KvX kvs xs → (kvs.map fun p => nkOf p.1) = (xs.map (·.1)).map some
  | _, _, .nil => rfl
  | _, _, .cons h t => by rw [List.map_cons, List.map_cons, List.map_cons, h, KvX.keys t]
theorem nodup_some {α : Type} : ∀ {l : List α}, (l.map some).Nodup → l.Nodup
  | [], _ => List.nodup_nil
  | a :: l, h => by
    obtain ⟨h1, h2⟩ := List.nodup_cons.mp (show (some a :: l.map some).Nodup from h)
    exact List.nodup_cons.mpr ⟨fun m => h1 (List.mem_map.mpr ⟨a, m, rfl⟩), nodup_some h2⟩
theorem dict_nk (I : Inv X pins σ H s) (sm : Same F H) {w : World} {a : Addr} {o : Obj} {es : List (Int × V × V)} {kvs : List (D × D)} (ha : H a = some (ObjO a o)) (k : DctOk a o es) (r : RepD X.K F w es kvs) (nd : (kvs.map fun p => nkOf p.1).Nodup) :
    ∃ xs : List Rw, DictN w s.heap a xs ∧ xs.length ≤ sizeLine ∧ EsX es xs ∧ KvX kvs xs := by
  obtain ⟨ys, ep, hd, pr⟩ := k.at_
  obtain ⟨xs, e, all, p1, p2⟩ := rows_nk I sm r pr
  refine ⟨xs, ⟨o, ys, ep, objO_at I.hok ha, k.ex, hd, e, fun x m => (all x m).1, fun x m => (all x m).2, ?_⟩, ?_, p1, p2⟩
  · rw [p2.keys] at nd
    exact nodup_some nd
  · rw [← Paired.length p1]
    exact k.few
end
/-! ### tables -/
def dFind (k : NestedKey) : List (D × D) → Option D
  | [] => none
  | (a, b) :: r => if nkOf a = some k then some b else dFind k r
def dPut (k : NestedKey) (d e : D) : List (D × D) → List (D × D)
  | [] => [(d, e)]
  | (a, b) :: r => if nkOf a = some k then (a, e) :: r else (a, b) :: dPut k d e r
def putR (k : NestedKey) (key v : Value) : List Rw → List Rw
  | [] => [(k, key, v)]
  | x :: r => if x.1 = k then (x.1, x.2.1, v) :: r else x :: putR k key v r
def putE (k : NestedKey) (i : Int) (v u : V) : List (D × D) → List (Int × V × V) → List (Int × V × V)
  | (a, _) :: r, e :: es => if nkOf a = some k then (e.1, e.2.1, u) :: es else e :: putE k i v u r es
  | _, es => es ++ [(i, v, u)]
theorem putN_putR {k : NestedKey} {key v : Value} : ∀ {xs : List Rw}, (xs.map (·.1)).Nodup → putN xs k key v = putR k key v xs
  | [], _ => rfl
  | x :: xs, nd => by
    obtain ⟨n1, n2⟩ := List.nodup_cons.mp (show (x.1 :: xs.map (·.1)).Nodup from nd)
    have ih := putN_putR (k := k) (key := key) (v := v) n2
    unfold putN at ih ⊢
    rw [putR]
    by_cases e : x.1 = k
    · rw [if_pos e, if_pos (by simp [e]), List.map_cons, chgN, if_pos e]
      have rest : xs.map (chgN k v) = xs := by
        refine (List.map_congr_left fun z m => ?_).trans (List.map_id _)
        unfold chgN
        rw [if_neg fun q => n1 (by rw [e, ← q]; exact List.mem_map.mpr ⟨z, m, rfl⟩)]
        rfl
      rw [rest]
    · rw [if_neg e, ← ih]
      by_cases h : (xs.any fun x => decide (x.1 = k)) = true
      · rw [if_pos h, if_pos (by rw [List.any_cons, h, Bool.or_true]), List.map_cons, chgN, if_neg e]
      · rw [if_neg h, if_neg (by rw [List.any_cons, decide_eq_false e, Bool.false_or]; exact h)]
        rfl
section
variable {K : PySem.W.Frag} {F : Hp} {w : World}
theorem find_rel {k : NestedKey} : ∀ {es : List (Int × V × V)} {kvs : List (D × D)} {xs : List Rw}, RepD K F w es kvs → EsX es xs → KvX kvs xs →
    (∀ e, dFind k kvs = some e → ∃ u v, atN xs k = some u ∧ RelV v u ∧ Rep K F v e) ∧ (dFind k kvs = none → atN xs k = none)
  | _, _, _, .nil, .nil, .nil => ⟨fun e h => (by cases h), fun _ => rfl⟩
  | _, (a, b) :: kvs, x :: xs, .cons n1 n2 n3 r1 r2 rs, .cons q qs, .cons h hs => by
    obtain ⟨f1, f2⟩ := find_rel (k := k) rs qs hs
    have h : nkOf a = some x.1 := h
    by_cases e : x.1 = k
    · have c : nkOf a = some k := by rw [h, e]
      rw [dFind, if_pos c]
      have at_ : atN (x :: xs) k = some x.2.2 := by simp [atN, e]
      exact ⟨fun e' he => by cases he; exact ⟨x.2.2, _, at_, q.2, r2⟩, fun z => by cases z⟩
    · have c : ¬ nkOf a = some k := by rw [h]; simpa using e
      rw [dFind, if_neg c]
      have at_ : atN (x :: xs) k = atN xs k := by simp [atN, e]
      rw [at_]
      exact ⟨f1, f2⟩
theorem put_rel {k : NestedKey} {v u : V} {d e : D} {key val : Value} (hk : nkOf d = some k) (h8 : k.depth ≤ 8) (rd : Rep K F v d) (re : Rep K F u e) (qk : RelV v key) (qv : RelV u val) :
    ∀ {es : List (Int × V × V)} {kvs : List (D × D)} {xs : List Rw}, RepD K F w es kvs → EsX es xs → KvX kvs xs →
      RepD K F w (putE k (k.hash w) v u kvs es) (dPut k d e kvs) ∧ EsX (putE k (k.hash w) v u kvs es) (putR k key val xs) ∧ KvX (dPut k d e kvs) (putR k key val xs) ∧
      (Paired (fun (e : Int × V × V) (x : DictEntry) => e.1 = x.hash ∧ RelV e.2.1 x.key ∧ RelV e.2.2 x.val) es (xs.map (entN w)) →
        Paired (fun (e : Int × V × V) (x : DictEntry) => e.1 = x.hash ∧ RelV e.2.1 x.key ∧ RelV e.2.2 x.val) (putE k (k.hash w) v u kvs es) ((putR k key val xs).map (entN w)))
  | _, _, _, .nil, .nil, .nil => ⟨.cons hk h8 rfl rd re .nil, .cons ⟨qk, qv⟩ .nil, .cons hk .nil, fun _ => .cons ⟨rfl, qk, qv⟩ .nil⟩
  | (i, a', b') :: es, (a, b) :: kvs, x :: xs, .cons n1 n2 n3 r1 r2 rs, .cons q qs, .cons h hs => by
    obtain ⟨p1, p2, p3, p4⟩ := put_rel hk h8 rd re qk qv rs qs hs
    have h : nkOf a = some x.1 := h
    by_cases c : x.1 = k
    · have ca : nkOf a = some k := by rw [h, c]
      rw [putE, dPut, putR, if_pos ca, if_pos ca, if_pos c]
      refine ⟨.cons n1 n2 n3 r1 re rs, .cons ⟨q.1, qv⟩ qs, .cons h hs, fun z => ?_⟩
      rw [List.map_cons] at z ⊢
      cases z with
      | cons z zs => exact .cons ⟨z.1, z.2.1, qv⟩ zs
    · have ca : ¬ nkOf a = some k := by rw [h]; simpa using c
      rw [putE, dPut, putR, if_neg ca, if_neg ca, if_neg c]
      refine ⟨.cons n1 n2 n3 r1 r2 p1, .cons q p2, .cons h p3, fun z => ?_⟩
      rw [List.map_cons] at z ⊢
      cases z with
      | cons z zs => exact .cons z (p4 zs)
end
theorem length_putE {k : NestedKey} {i : Int} {v u : V} : ∀ (kvs : List (D × D)) (es : List (Int × V × V)), (putE k i v u kvs es).length ≤ es.length + 1
  | [], es => by simp [putE]
  | (_, _) :: _, [] => by simp [putE]
  | (a, b) :: kvs, e :: es => by
    rw [putE]
    split
    · simp
    · have := length_putE (k := k) (i := i) (v := v) (u := u) kvs es
      rw [List.length_cons, List.length_cons]
      omega
/-! ### rules by values -/
noncomputable def dixD (w : World) : D → D → Option D
  | .dict w' kvs, d => open Classical in if w' = w then (nkOf d).bind fun k => if k.depth ≤ 8 then dFind k kvs else none else none
  | c, d => ixD c d
section
variable {X : Cx}
def rIxN (X : Cx) : R2 := fun x y H Q => ∃ F w kvs d k e, Same F H ∧ w = X.w ∧ Rep X.K F x (.dict w kvs) ∧ Rep X.K F y d ∧ nkOf d = some k ∧ k.depth ≤ 8 ∧ dFind k kvs = some e ∧ ∀ v, Rep X.K F v e → Q v H
theorem in1_room (hr : X.A.units + 64 < cLine) : X.A.in1.units + 8 < cLine := by
  rw [Around.in1_units]
  omega
theorem ix_dct (hr : X.A.units + 64 < cLine) : IxR X (rIxN X) := by
  intro value slice pins s σ H x y v u Q I rx ry h hs
  obtain ⟨F, w, kvs, d, k, e, sm, rfl, rp, rd, hk, h8, hf, q⟩ := h
  cases rp with
  | @dict a o es _ _ ha ok r nd =>
    cases rx
    obtain ⟨xs, dn, few, p1, p2⟩ := dict_nk I sm (sm _ _ ha) ok r nd
    obtain ⟨z, v', hz, rz, re⟩ := (find_rel r p1 p2).1 e hf
    exact subscriptTail_builtinR (x := z) dn.typeIs slot_dict_getitem.lookup
      (item_nk (in1_room hr) (key_nk I sm d _ _ k rd ry hk) h8 dn hz ⟨rfl, v', H, I.tok _, rz, q v' re⟩) hs
end
end Sb

set_option maxHeartbeats 1000000
/-! Sb, part D2: dicts on the mirror road: the rules of expressions and statements. -/
namespace Sb
open PySem PySem.Spec PyProof.Rows L2

/-! ### d[k], k in d -/
noncomputable def dinD (w : World) (neg : Bool) : D → D → Option D := fun d c => match c with
  | .dict w' kvs => open Classical in if w' = w then (nkOf d).bind fun k => if k.depth ≤ 8 then some (.bl ((dFind k kvs).isSome != neg)) else none else none
  | _ => none
section
variable {X : Cx} {M : MC} {E : L2.St → XK} {a b e : Expr} {ga gb : ME} {gl : ML} {pos p : Pos} {w : World}
theorem me_dix (eK : X.K = M.K) (ew : X.w = w) (hr : X.A.units + 64 < cLine) (ha : PE X a (mE M E ga)) (hb : PE X b (mE M E gb)) (hs : PlainIx b := by exact fun _ _ => rfl) : PE X (.Subscript a b pos) (mE M E (bin2 (dixD w) ga gb)) :=
  pe_imp (pe_ix (IxR.or ix_seq (ix_dct hr)) ha hb hs) fun σ H Q z => by
    subst ew
    obtain ⟨F, l, st, w⟩ := z
    refine ⟨F, l, st, (wR.bind w).mono fun d l1 F1 H1 g1 st1 w1 v rv => ?_⟩
    refine ⟨F1, l1, st1, (wR.bind w1).mono fun e l2 F2 H2 g2 st2 w2 u ru => ?_⟩
    have rv2 := rv.up g2.ext
    cases hf : dixD X.w d e with
    | none => rw [hf] at w2; exact w2.elim
    | some r =>
      rw [hf] at w2
      have fin : ∀ v, Rep M.K F2 v r → Q v H2 := fun v rv => w2 F2 H2 (Gr.refl _ _ _ _) st2 v rv
      cases d with
      | dict w' kvs =>
        have hf : (open Classical in if w' = X.w then (nkOf e).bind fun k => if k.depth ≤ 8 then dFind k kvs else none else none) = some r := hf
        split at hf
        · rename_i ew
          obtain ⟨k, hk, hf⟩ := Option.bind_eq_some_iff.mp hf
          split at hf
          · rename_i h8
            exact .inr ⟨F2, w', kvs, e, k, r, st2.sub, ew, by rw [eK]; exact rv2, by rw [eK]; exact ru, hk, h8, hf, by rw [eK]; exact fin⟩
          · cases hf
        · cases hf
      | _ => exact .inl (by rw [eK]; exact ixD_ok st2.sub rv2 ru hf fin)
end

/-! ### len(d), list(d) -/
def lenBD : List D → Option D
  | [.dict _ kvs] => some (.int kvs.length)
  | ds => lenB ds
def listBD : List D → Option (List D)
  | [.dict _ kvs] => some (kvs.map (·.1))
  | ds => listB ds
section
variable {X : Cx} {K : PySem.W.Frag}
theorem dct_raw {pins : List (Addr × Obj)} {σ : L2.St} {H : Hp} {s : Shared} {a : Addr} {o : Obj} {es : List (Int × V × V)} (I : Inv X pins σ H s) (ha : H a = some (ObjO a o)) (k : DctOk a o es) :
    ∃ xs ep, s.heap.DictRaw a xs ep ∧ xs.size = es.length ∧ ∀ (i : Nat) (e : Int × V × V), es[i]? = some e → ∃ x, xs[i]? = some x ∧ RelV e.2.1 x.key := by
  obtain ⟨xs, ep, hd, pr⟩ := k.at_
  refine ⟨xs, ep, ⟨o, objO_at I.hok ha, k.ex, hd⟩, by rw [Paired.length pr, Array.length_toList], fun i e h => ?_⟩
  have g : ∀ {es : List (Int × V × V)} {ys : List DictEntry} {i : Nat} {e : Int × V × V}, Paired (fun (e : Int × V × V) (x : DictEntry) => e.1 = x.hash ∧ RelV e.2.1 x.key ∧ RelV e.2.2 x.val) es ys → es[i]? = some e → ∃ y, ys[i]? = some y ∧ RelV e.2.1 y.key := by
    intro es ys i e p
    induction p generalizing i with
    | nil => intro z; simp at z
    | cons r t ih =>
      intro z
      cases i with
      | zero => cases z; exact ⟨_, rfl, r.2.1⟩
      | succ i => simpa using ih (by simpa using z)
  obtain ⟨y, hy, ry⟩ := g pr h
  exact ⟨y, by rw [← Array.getElem?_toList]; exact hy, ry⟩
theorem call_lenDD (eK : X.K = K) : CallR X (.builtin "len") (rDn K lenBD) := by
  intro pins s σ H xs us Q I r h
  obtain ⟨F, ds, r', sm, rs, hf, q⟩ := id h
  match ds, rs, hf with
  | [.dict w kvs], .cons (.dict (a := a) (o := o) (es := es) ha k rr nd) .nil, hf =>
    cases hf
    obtain ⟨u, rfl, ru⟩ := vals1 r
    cases ru
    obtain ⟨ys, ep, raw, sz, _⟩ := dct_raw I (sm _ _ ha) k
    have n : (ys.size : Int) = kvs.length := by rw [sz, rr.length]
    have few : ys.size ≤ sizeLine := by rw [sz]; exact k.few
    refine PyProof.Rows.call_len_slot (n := ys.size) raw.typeIs PySem.F.slot_dict_len (fun Q' hq => call_len_raw k.sys raw hq) (by omega) (by rw [sizeLine_eq] at few; omega) ?_
    refine ⟨.int kvs.length, H, I.tok _, ⟨_, by rw [n]⟩, q _ F H (Nw.refl sm) (.int _)⟩
  | [.non], rs, hf | [.bl _], rs, hf | [.int _], rs, hf | [.str _], rs, hf | [.scr _], rs, hf | [.list _], rs, hf | [.tup _], rs, hf | [.ins _ _], rs, hf | [.cls _], rs, hf | [], rs, hf =>
    exact call_lenD' eK pins s σ H xs us Q I r ⟨F, _, r', sm, rs, hf, q⟩
  | a :: b :: c, rs, hf => cases a <;> cases hf
theorem call_listDD (eK : X.K = K) (hc : X.calm = true) : CallR X (.type "list") (rDnL K listBD) := by
  intro pins s σ H xs us Q I r h
  obtain ⟨F, ds, r', sm, rs, hf, q⟩ := id h
  match ds, rs, hf with
  | [.dict w kvs], .cons (.dict (a := a) (o := o) (es := es) ha k rr nd) .nil, hf =>
    cases hf
    obtain ⟨u, rfl, ru⟩ := vals1 r
    cases ru
    obtain ⟨ys, ep, raw, sz, at_⟩ := dct_raw I (sm _ _ ha) k
    refine PySem.W.kdl_call (KdlSrc.rawDict (es := ys) (ep := ep) k.sys) (I.ok.hd hc) raw (by rw [sz]; exact k.few) fun h' tk acc c kp hl hi => ?_
    have rv : Vals (es.map fun e => e.2.1) acc.toList := by
      have len : acc.toList.length = es.length := by rw [Array.length_toList, hi.1, sz]
      have gen : ∀ (es : List (Int × V × V)) (us : List Value), us.length = es.length → (∀ (i : Nat) e, es[i]? = some e → ∃ u, us[i]? = some u ∧ RelV e.2.1 u) → Vals (es.map fun e => e.2.1) us := by
        intro es
        induction es with
        | nil => intro us h _; cases us with | nil => exact .nil | cons _ _ => simp at h
        | cons e es ih =>
          intro us h f
          cases us with
          | nil => simp at h
          | cons u us =>
            obtain ⟨u', hu, ru⟩ := f 0 e rfl
            cases hu
            exact .cons ru (ih us (by simpa using h) fun i e' he => by simpa using f (i + 1) e' (by simpa using he))
      refine gen es acc.toList len fun i e he => ?_
      obtain ⟨x, hx, rx⟩ := at_ i e he
      have lt : i < acc.size := by rw [hi.1, sz]; exact get_lt he
      refine ⟨acc[i], by rw [Array.getElem?_toList]; exact Array.getElem?_eq_getElem lt, ?_⟩
      obtain ⟨hlt, hv⟩ := hi.2 i acc[i] (Array.getElem?_eq_getElem lt)
      rw [hv]
      rw [Array.getElem?_eq_getElem hlt] at hx
      cases hx
      exact rx
    have reps : Reps X.K F (es.map fun e => e.2.1) (kvs.map (·.1)) := by
      have gen : ∀ {es : List (Int × V × V)} {kvs : List (D × D)}, RepD K F w es kvs → Reps X.K F (es.map fun e => e.2.1) (kvs.map (·.1)) := by
        intro es
        induction es with
        | nil => intro kvs h; cases h; exact .nil
        | cons e es ih => intro kvs h; cases h with | cons _ _ _ r1 _ t => exact .cons (by rw [eK]; exact r1) (ih t)
      exact gen rr
    have lst : ObjOk X.prog X.w (upd H s.heap.objs.size (.lst (es.map fun e => e.2.1))) h' s.heap.objs.size (.lst (es.map fun e => e.2.1)) :=
      ⟨by rw [List.length_map]; exact k.few, acc.toList, c, rv, by simpa using hl⟩
    exact ⟨.ref s.heap.objs.size, _, I.laid (t' := tk) kp (Nat.le_refl _) lst, rfl, q _ _ (I.hok.fresh (Nat.le_refl _)) (by rw [← eK]; exact reps)⟩
  | [.non], rs, hf | [.bl _], rs, hf | [.int _], rs, hf | [.str _], rs, hf | [.scr _], rs, hf | [.list _], rs, hf | [.tup _], rs, hf | [.ins _ _], rs, hf | [.cls _], rs, hf | [], rs, hf =>
    exact call_listD eK pins s σ H xs us Q I r ⟨F, _, r', sm, rs, hf, q⟩
  | a :: b :: c, rs, hf => cases a <;> cases hf
end

/-! ### d[k] = v -/
section
variable {X : Cx}
def rSetN (X : Cx) : TSet := fun o i v H Q => ∃ F p ob es kvs d k e, Same F H ∧ o = .ref p ∧ H p = some (ObjO p ob) ∧ DctOk p ob es ∧ RepD X.K F X.w es kvs ∧ (kvs.map fun p => nkOf p.1).Nodup ∧
  Rep X.K F i d ∧ nkOf d = some k ∧ k.depth ≤ 8 ∧ Rep X.K F v e ∧ es.length < sizeLine ∧ ∀ ob' es', DctOk p ob' es' → RepD X.K F X.w es' (dPut k d e kvs) → Q (upd H p (ObjO p ob'))
theorem objO_ok {P : Program} {w : World} {H : Hp} {h : Heap} {a : Addr} {o : Obj} (e : h.get? a = some o) : ObjOk P w H h a (ObjO a o) :=
  ⟨e, ⟨o, e⟩, fun _ _ h1 k => k _ h1⟩
theorem put_ok {w : World} {h' : Heap} {a : Addr} {es : List (Int × V × V)} {kvs : List (D × D)} {xs : List Rw} {K : PySem.W.Frag} {F : Hp} {k : NestedKey} {v u : V} {d e : D} {key val : Value} {o : Obj}
    (ok : DctOk a o es) (r : RepD K F w es kvs) (p1 : EsX es xs) (p2 : KvX kvs xs) (nd : (xs.map (·.1)).Nodup) (ents : Paired (fun (e : Int × V × V) (x : DictEntry) => e.1 = x.hash ∧ RelV e.2.1 x.key ∧ RelV e.2.2 x.val) es (xs.map (entN w)))
    (hk : nkOf d = some k) (h8 : k.depth ≤ 8) (rd : Rep K F v d) (re : Rep K F u e) (qk : RelV v key) (qv : RelV u val) (few : es.length < sizeLine) (dn : DictN w h' a (putN xs k key val)) :
    ∃ ob, h'.get? a = some ob ∧ DctOk a ob (putE k (k.hash w) v u kvs es) ∧ RepD K F w (putE k (k.hash w) v u kvs es) (dPut k d e kvs) ∧ EsX (putE k (k.hash w) v u kvs es) (putR k key val xs) ∧ KvX (dPut k d e kvs) (putR k key val xs) ∧
      DictN w h' a (putR k key val xs) ∧ Paired (fun (e : Int × V × V) (x : DictEntry) => e.1 = x.hash ∧ RelV e.2.1 x.key ∧ RelV e.2.2 x.val) (putE k (k.hash w) v u kvs es) ((putR k key val xs).map (entN w)) := by
  obtain ⟨q1, q2, q3, q4⟩ := put_rel hk h8 rd re qk qv r p1 p2
  rw [putN_putR nd] at dn
  obtain ⟨ob, ys, ep, ho, hc, hd, kd⟩ := id dn
  have len := length_putE (k := k) (i := k.hash w) (v := v) (u := u) kvs es
  exact ⟨ob, ho, ⟨by omega, ok.sys, hc, ys, ep, hd, by rw [kd.ents]; exact q4 ents⟩, q1, q2, q3, dn, q4 ents⟩
theorem ents_of {w : World} {h : Heap} {a : Addr} {o : Obj} {es : List (Int × V × V)} {xs : List Rw} (ok : DctOk a o es) (ho : h.get? a = some o) (dn : DictN w h a xs) :
    Paired (fun (e : Int × V × V) (x : DictEntry) => e.1 = x.hash ∧ RelV e.2.1 x.key ∧ RelV e.2.2 x.val) es (xs.map (entN w)) := by
  obtain ⟨ys, ep, hd, pr⟩ := ok.at_
  obtain ⟨o', ys', ep', ho', _, hd', kd⟩ := dn
  rw [ho] at ho'
  cases ho'
  rw [hd] at hd'
  cases hd'
  rw [← kd.ents]
  exact pr
theorem DictN.nd {w : World} {h : Heap} {a : Addr} {xs : List Rw} (dn : DictN w h a xs) : (xs.map (·.1)).Nodup := let ⟨_, _, _, _, _, _, kd⟩ := dn; kd.nd
theorem set_dct (hr : X.A.units + 64 < cLine) : PSet X (rSetN X) := by
  intro pins s σ H o i v ov iv u Q I ro ri rv h
  obtain ⟨F, p, ob, es, kvs, d, k, e, sm, rfl, hp, ok, r, nd, rd, hk, h8, re, few, q⟩ := h
  cases ro
  obtain ⟨xs, dn, fx, p1, p2⟩ := dict_nk I sm hp ok r nd
  have ho := objO_at I.hok hp
  refine store_nk (in1_room hr) (key_nk I sm d _ _ k rd ri hk) h8 dn fx fun h' dn' hs => ?_
  obtain ⟨ob', ho', ok', r', _⟩ := put_ok ok r p1 p2 dn.nd (ents_of ok ho dn) hk h8 rd re ri rv few dn'
  exact ⟨_, d_write I (by rw [hp]; exact True.intro) hs ⟨ob', ho'⟩ (objO_ok ho'), q ob' _ ok' r'⟩
end
theorem dPut_keys {k : NestedKey} {d e : D} (hk : nkOf d = some k) : ∀ {kvs : List (D × D)}, (kvs.map fun p => nkOf p.1).Nodup → ((dPut k d e kvs).map fun p => nkOf p.1).Nodup := by
  have mem : ∀ {kvs : List (D × D)} {x : Option NestedKey}, x ∈ (dPut k d e kvs).map (fun p => nkOf p.1) → x = some k ∨ x ∈ kvs.map fun p => nkOf p.1 := by
    intro kvs
    induction kvs with
    | nil => intro x m; rw [dPut] at m; simp only [List.map_cons, List.map_nil, List.mem_singleton] at m; exact .inl (by rw [m, hk])
    | cons p kvs ih =>
      intro x m
      obtain ⟨a, b⟩ := p
      rw [dPut] at m
      split at m
      · exact .inr m
      · rcases List.mem_cons.mp (show x ∈ nkOf a :: (dPut k d e kvs).map _ from m) with rfl | m
        · exact .inr List.mem_cons_self
        · exact (ih m).imp id (List.mem_cons_of_mem _)
  intro kvs
  induction kvs with
  | nil => intro _; simp [dPut]
  | cons p kvs ih =>
    intro nd
    obtain ⟨a, b⟩ := p
    obtain ⟨n1, n2⟩ := List.nodup_cons.mp (show (nkOf a :: kvs.map fun p => nkOf p.1).Nodup from nd)
    rw [dPut]
    split
    · exact nd
    · rename_i ne
      refine List.nodup_cons.mpr ⟨fun m => ?_, ih n2⟩
      rcases mem m with h | h
      · exact ne h
      · exact n1 h
noncomputable def sDPut (w : World) (i : Nat) (gb ge : ME) : MS := fun l => (ge l).thn fun d l1 => if has? i l1 = true then (gb l1).thn fun e l2 => match l2[i]? with
  | some (some (.ow (.dct w' kvs))) => open Classical in if w' = w ∧ kvs.length < sizeLine then (match nkOf e with | some k => if k.depth ≤ 8 then .nx (l2.set i (some (.ow (.dct w (dPut k e d kvs))))) else .stuck | none => .stuck) else .stuck
  | _ => .stuck else .stuck
section
variable {X : Cx} {M : MC} {E : L2.St → XK} {b e : Expr} {gb ge : ME} {pos pos' p p' : Pos} {i : Nat} {x : Str} {w : World}
theorem ms_dput (eK : X.K = M.K) (ew : X.w = w) (hr : X.A.units + 64 < cLine) (hN : X.N[i]? = some x) (hv : Vis X.env.scope x) (hb : PE X b (mE M E gb)) (he : PE X e (mE M E ge)) (hd : (x == ("__debug__" : Str)) = false := by decide) (hcd : (x == ("__classdict__" : Str)) = false := by decide)
    (ha : ∀ v, assign (.Subscript (.Name x p) b p') X.env v = (do
      let ov ← holding [v] (eval (.Name x p) X.env)
      let iv ← holding [v, ov] (eval b X.env)
      standAt p'
      holding [v, ov, iv] (setItem ov iv v)
      release [v, ov, iv] []) := by intro _; rfl)
    (hs : swapsWithSole [.Subscript (.Name x p) b p'] e pos.line X.env = pure false := by rfl) (hw : swappedStores [.Subscript (.Name x p) b p'] e X.env = pure none := by rfl) (h1 : (assignEach [.Subscript (.Name x p) b p'] X.env).map (·.2) = [assign (.Subscript (.Name x p) b p') X.env] := by rfl) :
    PS X (.Assign [.Subscript (.Name x p) b p'] e pos) (mS M E (sDPut w i gb ge)) :=
  ps_imp (ps_asg he (pg_sub (pe_var hN hv hd hcd) hb (set_dct hr) ha) hs hw h1) fun Dn σ H z => by
    subst ew
    obtain ⟨F, l, st, w⟩ := z
    refine ⟨F, l, st, (wS.thn st w).mono fun d l1 F1 H1 g1 st1 w1 v rv => ?_⟩
    split at w1
    · rename_i hh
      obtain ⟨s, hl⟩ := has_some hh
      obtain ⟨o, eo, _⟩ := st1.slot i s hl
      refine ⟨o, eo, F1, l1, st1, (wS.thn st1 w1).mono fun e l2 F2 H2 g2 st2 w2 y ry => ?_⟩
      split at w2
      · rename_i w' kvs hl2
        split at w2
        · rename_i hc
          obtain ⟨rfl, few⟩ := hc
          split at w2
          · rename_i k hk
            split at w2
            · rename_i h8
              obtain ⟨o', eo', q, _, rfl, hq, fq, ⟨ob, es, rfl, ok, r, nd⟩, _⟩ := st2.slot i _ hl2
              rw [eo] at eo'
              cases eo'
              refine ⟨F2, q, ob, es, kvs, e, k, d, st2.sub, rfl, hq, ok, by rw [eK]; exact r, nd, by rw [eK]; exact ry, hk, h8, by rw [eK]; exact rv.up g2.ext, by rw [r.length]; exact few, fun ob' es' ok' r' => ?_⟩
              rw [eK] at r'
              obtain ⟨st3, _⟩ := st2.put (ys := .dct _ _) hl2 eo ⟨ob', es', rfl, ok', r', dPut_keys hk nd⟩
              exact w2 σ F2 _ (Same.refl _) st3
            · exact w2.elim
          · exact w2.elim
        · exact w2.elim
      · exact w2.elim
    · exact w1.elim
end
end Sb

set_option maxHeartbeats 1000000
/-! Sb, part D3: new objects of any kind; displays of dicts. -/
namespace Sb
open PySem PySem.Spec PyProof.Rows L2

/-! ### a new object, not yet data -/
abbrev MN := Ld → Res O
def mN (M : MC) (E : L2.St → XK) (g : MN) : TE := fun σ H Q => ∃ F l, StM M F σ H l ∧ wR M E σ F H l (fun o l' F' H' => ∀ p h, H' p = some h → F' p = none → M.H0 p = none → H p = none → ¬ Own σ l' p → OwH M.K F' p h o → Q (.ref p) H') (g l)
def sSetN (i : Nat) (g : MN) : MS := fun l => (g l).thn fun o l1 => .nx (l1.set i (some (.ow o)))
section
variable {X : Cx} {M : MC} {E : L2.St → XK} {e : Expr} {g : MN} {pos pos' : Pos} {i : Nat} {x : Str}
theorem ms_setN (np : NoPar M i) (hN : X.N.Nodup) (hi : X.N[i]? = some x) (hx : Loc X.env.scope x) (he : PE X e (mN M E g)) (hs : swapsWith e (some (.Name x pos')) pos.line X.env = pure false := by rfl) (hf : X.fn x = true ∨ X.env.scope.names.lookup x = some .local := by first | exact .inl rfl | exact .inr rfl | assumption) :
    PS X (.Assign [.Name x pos'] e pos) (mS M E (sSetN i g)) := ps_imp (ps_set hN hi hx he hs hf) fun Dn σ H z => by
  obtain ⟨F, l, st, w⟩ := z
  exact ⟨F, l, st, (wS.thn st w).mono fun d l1 F1 H1 g1 st1 w1 p h hp fp h0 _ no ow => w1 _ F1 H1 (Same.refl _) (st1.setOw' np hp fp h0 no ow)⟩
end

/-! ### {k: v, ..} -/
section
variable {X : Cx} {M : MC} {E : L2.St → XK} {σ : L2.St}
end
section
variable {X : Cx} {pins : List (Addr × Obj)} {σ : L2.St} {F : Hp}
theorem dct_new {h : Heap} (hb : sysModules < h.objs.size) : DctOk h.objs.size { cls := .type "dict", data := .dict #[] } [] :=
  ⟨Nat.zero_le _, beq_eq_false_iff_ne.mpr (Ne.symm (Nat.ne_of_lt hb)), ⟨rfl, rfl, rfl⟩, #[], 0, rfl, .nil⟩
end
section
variable {X : Cx} {M : MC} {E : L2.St → XK} {pos : Pos} {keys : List (Option Expr)} {values : List Expr} {gs : List (ME × ME)} {w : World} {k v : Expr} {ks : List (Option Expr)} {vs : List Expr} {ga gb : ME}
def dict0 (w : World) : MN := fun l => .ok (.dct w []) l
theorem pe_dict0 : PE X (.Dict [] [] pos) (fun _ H Q => ∀ p ob, H p = none → DctOk p ob [] → Q (.ref p) (upd H p (ObjO p ob))) := ⟨fun pins s σ H Q I h => by
  have new : (s.heap.push { cls := .type "dict", data := .dict #[] }).get? s.heap.objs.size = some { cls := .type "dict", data := .dict #[] } := Heap.get?_push_size _ rfl
  exact wpAny_Dict_empty ⟨.ref s.heap.objs.size, _, I.laid (a := s.heap.objs.size) (o := ObjO s.heap.objs.size { cls := .type "dict", data := .dict #[] }) (t' := s.toks) (fun _ _ q => Heap.get?_push_of_some _ q) (Nat.le_refl _) (objO_ok new), rfl, h _ _ (I.hok.fresh (Nat.le_refl _)) (dct_new I.big)⟩⟩
theorem mn_dict0 : PE X (.Dict [] [] pos) (mN M E (dict0 w)) :=
  pe_imp pe_dict0 fun σ H Q z => by
    obtain ⟨F, l, st, w1⟩ := z
    intro p ob np ok
    have nw := Nw.beside (o := ObjO p ob) st.sub np
    refine w1 F _ (st.gr nw) (st.new nw) p _ upd_same (st.sub.free np) (st.domH p np) np (fun o => ?_) ⟨ob, [], rfl, ok, .nil, List.nodup_nil⟩
    obtain ⟨⟨ws, z⟩, _⟩ := st.ownH o
    rw [np] at z
    cases z
end
end Sb

set_option maxHeartbeats 2000000
/-! Sb, part D4: sorted(xs, key=f), f a def whose mirror gives tuples of whole numbers. -/
namespace Sb
open PySem PySem.Spec PyProof.Rows L2

def intsD : List D → Option (List Int)
  | [] => some []
  | .int i :: r => (intsD r).map (i :: ·)
  | _ => none
theorem intsD_ok : ∀ {ds : List D} {ns : List Int}, intsD ds = some ns → ds = ns.map .int
  | [], _, h => by cases h; rfl
  | d :: ds, ns, h => by
    cases d with
    | int i =>
      obtain ⟨r, e, rfl⟩ := Option.map_eq_some_iff.mp (show (intsD ds).map (i :: ·) = some ns from h)
      rw [intsD_ok e]
      rfl
    | _ => cases h
structure Aft (F H F' H' : Hp) : Prop where
  ext : Same F F'
  sub : Same F' H'
  frn : ∀ p o, H p = some o → F p = none → F' p = none ∧ H' p = some o
  dom : ∀ a, H' a = none → H a = none
theorem Aft.refl {F H : Hp} (s : Same F H) : Aft F H F H := ⟨Same.refl _, s, fun _ _ h f => ⟨f, h⟩, fun _ h => h⟩
theorem Aft.trans {F H F1 H1 F2 H2 : Hp} (a : Aft F H F1 H1) (b : Aft F1 H1 F2 H2) : Aft F H F2 H2 :=
  ⟨a.ext.trans b.ext, b.sub, fun p o h f => by obtain ⟨f1, h1⟩ := a.frn p o h f; exact b.frn p o h1 f1, fun p h => a.dom p (b.dom p h)⟩
section
variable {X : Cx} {pins : List (Addr × Obj)} {σ : L2.St} {H F : Hp} {s : Shared}
theorem reads_ints (I : Inv X pins σ H s) (sm : Same F H) {v : V} {u : Value} {ns : List Int} (r : Rep X.K F v (.tup (ns.map .int))) (ru : RelV v u) : Reads s.heap u (.tuple (ns.map .int)) [] := by
  cases r with
  | @tup a vs ds h rs =>
    cases (show u = Value.ref a from ru)
    obtain ⟨its, rv, ⟨o, h1, h2, n, h3⟩, _⟩ := I.tuple (seqT_same sm h)
    refine .tuple h1 h2 h3 ?_
    have gen : ∀ (ns : List Int) (vs : List V) (us : List Value), Reps X.K F vs (ns.map .int) → Vals vs us → ReadsAll s.heap us (ns.map .int) [] := by
      intro ns
      induction ns with
      | nil => intro vs us r q; cases r; cases q; exact .nil
      | cons n ns ih =>
        intro vs us r q
        cases r with
        | cons r rs =>
          cases r
          cases q with
          | cons q qs =>
            obtain ⟨t, rfl⟩ := q
            exact .cons (as := []) (bs := []) (.int n t) (ih _ _ rs qs)
    simpa using gen ns vs its rs rv
end
/-! ### the rule -/
theorem StM.after {M : MC} {σ : L2.St} {F H F' H' : Hp} {l : Ld} (st : StM M F σ H l) (af : Aft F H F' H') : StM M F' σ H' l ∧ Gr σ l l F H F' H' := by
  have a : After M.K F H F' H' [] [] [] := ⟨af.ext, af.sub, fun p o h f _ => af.frn p o h f, af.dom, fun i s xs e => by simp at e, fun i d e => by simp at e⟩
  have z := after_ok (as := []) (ss := []) (ss' := []) st .nil rfl List.nodup_nil rfl a
  have e : putA [] ([] : List Sl) l = l := by
    rw [putA]
    all_goals intros; contradiction
  rw [e] at z
  exact z
section
variable {X : Cx} {M : MC} {E : L2.St → XK} {e : Expr} {ga : ME} {pos p p2 kp : Pos} {x : Str} {k : Nat} {ps : List Str} {m : MF}
end
end Sb

set_option maxHeartbeats 1000000
/-! Sb, part D5: try .. except C as e on the mirror road. -/
namespace Sb
open PySem PySem.Spec PyProof.Rows L2

def MC.exc (M : MC) (F1 : Hp) (i : Nat) (a : Addr) : MC := { M with F0 := F1, ps := (i, a) :: M.ps }
def E0s : L2.St → XK := fun _ _ _ _ => False
/-! ### mirrors -/
structure ClM where
  tab : List (Str × Bool)
  es : List (Str × Str)
  i : Nat
  h : Str → Str → D → MS
def SRes.less (i : Nat) : SRes → SRes
  | .nx l => .nx (l.set i none)
  | .rt s l => .rt s (l.set i none)
  | .bk l => .bk (l.set i none)
  | .ct l => .ct (l.set i none)
  | .err _ _ _ _ => .stuck
  | .stuck => .stuck
/-! ### the state in a suite -/
section
variable {M : MC} {σ : L2.St} {F H : Hp} {l : Ld} {i : Nat} {a dd : Addr} {f : Str} {u : V}
theorem StM.outof {σ1 : L2.St} {F1 H1 : Hp} {l1 : Ld} {σ2 : L2.St} {F2 H2 : Hp} {l2 : Ld} (st : StM M F1 σ1 H1 l1) (na : M.H0 a = none) (np : NoPar M i) (st2 : StM (M.exc F1 i a) F2 σ2 H2 l2) : StM M F2 (σ2.set i none) H2 (l2.set i none) := by
  have ex : ∀ b o, M.H0 b = some o → b ∉ M.ps.map (·.2) → b ∉ (M.exc F1 i a).ps.map (·.2) := fun b o hb nb z => by
    rcases List.mem_cons.mp (show b ∈ a :: M.ps.map (·.2) from z) with rfl | z
    · rw [na] at hb; cases hb
    · exact nb z
  refine ⟨st2.sub, by rw [List.length_set, List.length_set]; exact st2.len, fun j s e => ?_, fun j k xs ys v a1 b1 c1 d1 => ?_, st.keepF.trans st2.keepF, fun b o hb fb nb => ?_, fun b o hb nb => st2.keepH b o hb (ex b o hb nb), st2.domH, fun q m => ?_⟩
  · rcases get_set e with ⟨_, z⟩ | ⟨ne, z⟩
    · cases z
    · obtain ⟨v, e1, ok⟩ := st2.slot j s z
      refine ⟨v, by rw [List.getElem?_set_ne ne]; exact e1, ?_⟩
      cases s with
      | fr d => exact ok
      | ow o =>
        obtain ⟨p, h, rfl, h1, h2, h3, h4⟩ := ok
        refine ⟨p, h, rfl, h1, h2, h3, h4.imp id fun z => ?_⟩
        rcases List.mem_cons.mp (show (j, p) ∈ (i, a) :: M.ps from z) with z | z
        · cases z; exact (ne rfl).elim
        · exact z
  · rcases get_set a1 with ⟨_, z⟩ | ⟨n1, z1⟩
    · cases z
    · rcases get_set b1 with ⟨_, z⟩ | ⟨n2, z2⟩
      · cases z
      · rw [List.getElem?_set_ne n1] at c1
        rw [List.getElem?_set_ne n2] at d1
        exact st2.inj j k xs ys v z1 z2 c1 d1
  · exact st2.newF b o hb (st.newF b o hb fb nb) (ex b o hb nb)
  · rw [List.getElem?_set_ne (Ne.symm (np q m))]
    exact st2.pars q (List.mem_cons_of_mem _ m)
theorem wS.suite {E : L2.St → XK} {Dn : Ends} {r : SRes} (st : StM M F σ H l) (na : M.H0 a = none) (np : NoPar M i) {F0 : Hp} (e0 : Same F0 F) (w : wS M E F0 Dn (r.less i)) : wS (M.exc F i a) E0s F (Ends.less Dn i) r := by
  cases r with
  | nx l1 => exact fun σ' F' H' e s => w _ F' H' (e0.trans e) (st.outof na np s)
  | bk l1 => exact fun σ' F' H' e s => w _ F' H' (e0.trans e) (st.outof na np s)
  | ct l1 => exact fun σ' F' H' e s => w _ F' H' (e0.trans e) (st.outof na np s)
  | rt s l1 =>
    intro v σ' F' H' e st' rv
    refine w v _ F' H' (e0.trans e) (st.outof na np st') ?_
    cases s with
    | fr d => exact rv
    | ow o => exact rv
  | err c f d l1 => exact w.elim
  | stuck => exact w.elim
end

/-! ### rules -/
def ClM.cl (M : MC) (k : ClM) (c : Value) : Cl := ⟨c, k.i, fun a cls d => fun Dn σ H => ∃ (c f : Str) (dat : D) (dd : Addr) (oeX : Prop) (F1 : Hp), cls = .ref (He.ga M.K c) ∧ d = some dd ∧ (c, f) ∈ k.es ∧ (∃ u, F1 dd = some (.xd [(f, u)]) ∧ Rep M.K F1 u dat) ∧ mS (M.exc F1 k.i a) E0s (k.h c f dat) Dn σ H⟩
section
variable {X : Cx} {M : MC} {body : List Stmt} {h0 : ExceptHandler} {hds : List ExceptHandler} {cs : List ClM} {g : MS} {pos : Pos} {Wout : WX}
/-! e.f, isinstance(e, C) in a suite -/
end
section
variable {X : Cx} {M : MC} {E : L2.St → XK} {i : Nat} {a : Addr} {oe : Obj} {dd : Addr} {c f : Str} {d : D} {F1 : Hp} {es : List (Str × Str)} {pn : List (Addr × Obj)} {p pos p2 : Pos} {n fld : Str}
end
end Sb

set_option maxHeartbeats 1000000
/-! Sb, part D6: xs * n. -/
namespace Sb
open PySem PySem.Spec PyProof.Rows L2
def repL (xs : List D) (n : Int) : List D := (List.replicate n.toNat xs).flatten
def mulDL : D → D → Option D
  | .list xs, .int n => if xs.length * n.toNat ≤ sizeLine ∧ -(2 ^ 62) ≤ n ∧ n < 2 ^ 62 then some (.list (repL xs n)) else none
  | d, e => mulD d e
section
variable {X : Cx} {K : PySem.W.Frag}
theorem reps_rep {F : Hp} {vs : List V} {ds : List D} (r : Reps K F vs ds) : ∀ n : Nat, Reps K F (List.replicate n vs).flatten (List.replicate n ds).flatten
  | 0 => .nil
  | n + 1 => by
    rw [List.replicate_succ, List.replicate_succ, List.flatten_cons, List.flatten_cons]
    exact r.append (reps_rep r n)
theorem op_mulDL : OpR X (binaryOp .Mult) (rD2 K mulDL) := by
  refine opr_imp (op_mulD (K := K) |>.or op_rep) fun x y H Q h => ?_
  obtain ⟨F, d, e, r, s, rx, ry, hf, q⟩ := h
  cases rx with
  | list h1 r1 =>
    cases ry with
    | int n =>
      rename_i a vs ds
      have hf : (if ds.length * n.toNat ≤ sizeLine ∧ -(2 ^ 62) ≤ n ∧ n < 2 ^ 62 then some (D.list (repL ds n)) else none) = some r := hf
      split at hf
      · rename_i hz
        cases hf
        refine .inr ⟨a, n, vs, rfl, rfl, s _ _ h1, by omega, by omega, by rw [r1.length]; exact hz.1, fun p np => ?_⟩
        have nw := Nw.add (o := .lst (List.replicate n.toNat vs).flatten) s np
        exact q _ _ _ nw (.list upd_same ((reps_rep r1 _).up nw.f))
      · cases hf
    | _ => cases hf
  | int i => exact .inl ⟨F, _, e, r, s, .int i, ry, hf, q⟩
  | _ => cases ry <;> cases hf
end
/-! ### a, b = a list -/
end Sb

/-! Sb, part D7: x[b], y = e, x a dict of the body's own. -/
namespace Sb
open PySem PySem.Spec PyProof.Rows L2

section
variable {X : Cx} {M : MC} {E : L2.St → XK} {b e : Expr} {gb ge : ME} {pos pos' p p' py tp : Pos} {i j kk : Nat} {x y : Str} {w : World}
end
end Sb

/-! Sb, part D8: f(a, .., [..]): a new list, which the callee may change, as the last argument. -/
namespace Sb
open PySem PySem.Spec PyProof.Rows L2

abbrev MAN := Ld → Res (List Arg × List D)
section
variable {X : Cx} {M : MC} {E : L2.St → XK} {e : Expr} {es : List Expr} {ga : ME} {gl : ML} {gA : MAN} {pos p : Pos}
end

/-! ### the call -/
def delH (H : Hp) (p : Addr) : Hp := fun a => if a = p then none else H a
theorem delH_ne {H : Hp} {p a : Addr} (h : a ≠ p) : delH H p a = H a := if_neg h
section
variable {M : MC} {E : L2.St → XK} {σ : L2.St} {F H F' H' F2 H2 : Hp} {l l2 : Ld} {as : List Arg} {ss ss' : List Sl} {vs : List V} {p : Addr} {ws : List V} {xs : List D}
theorem StM.del (st : StM M F σ H l) (fp : F p = none) (h0 : M.H0 p = none) (no : ¬ Own σ l p) : StM M F σ (delH H p) l := by
  refine ⟨fun a o h => ?_, st.len, fun i s e => ?_, st.inj, st.keepF, st.newF, fun a o h n => ?_, fun a h => ?_, st.pars⟩
  · rw [delH_ne fun z => by rw [z, fp] at h; cases h]
    exact st.sub a o h
  · obtain ⟨v, ev, ok⟩ := st.slot i s e
    refine ⟨v, ev, ?_⟩
    cases s with
    | fr d => exact ok
    | ow ys =>
      obtain ⟨q, us, rfl, h1, h2⟩ := ok
      exact ⟨q, us, rfl, by rw [delH_ne fun z => no ⟨i, ys, e, by rw [← z]; exact ev⟩]; exact h1, h2⟩
  · rw [delH_ne fun z => by rw [z, h0] at h; cases h]
    exact st.keepH a o h n
  · by_cases z : a = p
    · rw [z]; exact h0
    · rw [delH_ne z] at h
      exact st.domH a h
theorem Gr.del (g : Gr σ l l2 F H F2 H2) (hH : H p = none) : Gr σ l l2 F H F2 (delH H2 p) := by
  refine ⟨g.ext, g.own, fun q o h f n => ?_, fun a h => ?_⟩
  · obtain ⟨a, b⟩ := g.frn q o h f n
    exact ⟨a, by rw [delH_ne fun z => by rw [z, hH] at h; cases h]; exact b⟩
  · by_cases z : a = p
    · rw [z]; exact hH
    · rw [delH_ne z] at h
      exact g.dom a h
end
section
variable {X : Cx} {M : MC} {E : L2.St → XK} {k n : Nat} {ps : List Str} {m : MF} {x : Str} {p pos : Pos} {e : Expr} {es : List Expr} {g : MAN}
end
end Sb

/-! Sb, part D9: x in [..] where the items are pairs or deeper data. -/
namespace Sb
open PySem PySem.Spec PyProof.Rows L2

section
variable {X : Cx} {K : PySem.W.Frag}
end
theorem room65 {k : Nat} {A : Around} (r : Room k A) : A.units + 65 < cLine := by have := r.un; omega
end Sb

/-! Sb, part D10: an expression that reads a list or dict of the body's own, which stays the body's own. -/
namespace Sb
open PySem PySem.Spec PyProof.Rows L2

mutual
/-- data in which no list and no dict is -/
def lite : D → Bool
  | .non | .bl _ | .int _ | .str _ | .cls _ => true
  | .tup ds => lites ds
  | .ins _ fs => liteF fs
  | .scr _ | .list _ | .dict _ _ => false
def lites : List D → Bool
  | [] => true
  | d :: ds => lite d && lites ds
def liteF : List (Str × D) → Bool
  | [] => true
  | (_, d) :: ds => lite d && liteF ds
end
def liteD : List (D × D) → Bool
  | [] => true
  | (k, d) :: ds => lite k && lite d && liteD ds
def oLite : O → Bool
  | .lst xs => lites xs
  | .ins _ fs => liteF fs
  | .dct _ kvs => liteD kvs
def Mov (h : HO) : Prop := (∃ vs, h = .lst vs) ∨ ∃ φ, h = .ext φ
section
variable {K : PySem.W.Frag} {F : Hp} {a : Addr} {h : HO}
theorem sqT_del (fa : F a = some h) (m : Mov h) {b : Addr} {xs : List V} (q : SqT K F b xs) : SqT K (delH F a) b xs := by
  rcases q with q | q
  · refine .inl ?_
    rcases q with q | ⟨o, q⟩
    · refine .inl ?_
      rw [delH_ne fun z => ?_]
      · exact q
      · rw [z, fa] at q
        rcases m with ⟨vs, rfl⟩ | ⟨φ, rfl⟩ <;> cases q
    · refine .inr ⟨o, ?_⟩
      rw [delH_ne fun z => ?_]
      · exact q
      · rw [z, fa] at q
        rcases m with ⟨vs, rfl⟩ | ⟨φ, rfl⟩ <;> cases q
  · exact .inr q
mutual
theorem Rep.del (fa : F a = some h) (m : Mov h) : ∀ (d : D) (v : V), lite d = true → Rep K F v d → Rep K (delH F a) v d
  | _, _, _, .non => .non
  | _, _, _, .bl b => .bl b
  | _, _, _, .int i => .int i
  | _, _, _, .str x => .str x
  | .tup ds, _, l, .tup h hs => .tup (sqT_del fa m h) (Reps.del fa m ds _ (by rw [lite] at l; exact l) hs)
  | .ins c fs, _, l, .ins q hs => .ins (by
      rw [delH_ne fun z => ?_]
      · exact q
      · rw [z, fa] at q
        rcases m with ⟨vs, rfl⟩ | ⟨φ, rfl⟩ <;> cases q) (RepF.del fa m fs _ (by rw [lite] at l; exact l) hs)
  | _, _, _, .cls c => .cls c
  | .scr _, _, l, .scr _ => by rw [lite] at l; cases l
  | .list _, _, l, .list _ _ => by rw [lite] at l; cases l
  | .dict _ _, _, l, .dict _ _ _ _ => by rw [lite] at l; cases l
theorem Reps.del (fa : F a = some h) (m : Mov h) : ∀ (ds : List D) (vs : List V), lites ds = true → Reps K F vs ds → Reps K (delH F a) vs ds
  | [], _, _, .nil => .nil
  | d :: ds, _, l, .cons h hs => by
    rw [lites, Bool.and_eq_true] at l
    exact .cons (Rep.del fa m d _ l.1 h) (Reps.del fa m ds _ l.2 hs)
theorem RepF.del (fa : F a = some h) (m : Mov h) : ∀ (ds : List (Str × D)) (vs : List (Str × V)), liteF ds = true → RepF K F vs ds → RepF K (delH F a) vs ds
  | [], _, _, .nil => .nil
  | (_, d) :: ds, _, l, .cons h hs => by
    rw [liteF, Bool.and_eq_true] at l
    exact .cons (Rep.del fa m d _ l.1 h) (RepF.del fa m ds _ l.2 hs)
end
theorem RepD.del (fa : F a = some h) (m : Mov h) {w : World} : ∀ (ds : List (D × D)) (vs : List (Int × V × V)), liteD ds = true → RepD K F w vs ds → RepD K (delH F a) w vs ds
  | [], _, _, .nil => .nil
  | (k, d) :: ds, _, l, .cons h1 h2 h3 h4 h5 hs => by
    rw [liteD, Bool.and_eq_true, Bool.and_eq_true] at l
    exact .cons h1 h2 h3 (Rep.del fa m k _ l.1.1 h4) (Rep.del fa m d _ l.1.2 h5) (RepD.del fa m ds _ l.2 hs)
theorem OwH.del (fa : F a = some h) (m : Mov h) {q : Addr} {u : HO} {o : O} (l : oLite o = true) (w : OwH K F q u o) : OwH K (delH F a) q u o := by
  cases o with
  | lst xs => obtain ⟨vs, rfl, r⟩ := w; exact ⟨vs, rfl, Reps.del fa m _ _ l r⟩
  | ins c fs => obtain ⟨dx, gs, rfl, r⟩ := w; exact ⟨dx, gs, rfl, RepF.del fa m _ _ l r⟩
  | dct w kvs => obtain ⟨ob, es, rfl, ok, r, nd⟩ := w; exact ⟨ob, es, rfl, ok, RepD.del fa m _ _ l r, nd⟩
end
section
variable {X : Cx} {M : MC} {E : L2.St → XK} {σ : L2.St} {F H : Hp} {l : Ld} {i : Nat} {o : O}
end
section
variable {X : Cx} {M : MC} {E : L2.St → XK} {e : Expr} {i : Nat}
end
end Sb

/-! Sb, part D11: x op y by an own def of the class of both. -/
namespace Sb
open PySem PySem.Spec PyProof.Rows L2

section
variable {X : Cx} {k : Nat} {C f : Addr} {ps : List Str} {sp : Sp}
end
section
variable {X : Cx} {M : MC} {E : L2.St → XK} {k : Nat} {f : Addr} {ps : List Str} {m : MF} {a b : Expr} {ga gb : ME} {pos : Pos} {c : Str}
end
end Sb

/-! Sb, part D12: x != y, the class with an own == and no own !=. -/
namespace Sb
open PySem PySem.Spec PyProof.Rows L2
section
variable {M : Model} {prog : Program} {w : World} {A : Around} {E : Value → Shared → Prop} {s : Shared} {K : PySem.W.Frag} {x y C f L : Addr} {ox : Obj} {od : Option Obj} {h₀ : Heap} {m : Str → Option Value}
end
section
variable {X : Cx} {M : MC} {E : L2.St → XK} {k : Nat} {f : Addr} {ps : List Str} {sp : Sp} {m : MF} {c : Str} {a b : Expr} {ga gb : ME} {pos : Pos}
end
end Sb

/-! Sb, part D13: <, <=, >, >= of tuples of whole numbers. -/
namespace Sb
open PySem PySem.Spec PyProof.Rows L2

end Sb

/-! Sb, part D14: str(i), a, b = a new list of the body's own, y. -/
namespace Sb
open PySem PySem.Spec PyProof.Rows L2

/-! ### a, b = [..], y -/
abbrev MLV := Ld → Res (List D × D)
section
variable {X : Cx} {M : MC} {E : L2.St → XK} {a b : Expr} {gl : ML} {ga : ME} {g : MLV} {pos : Pos}
end
/-! ### x.pop(i) -/
end Sb

/-! Sb, part D15: zip of two tuples, of two texts. -/
namespace Sb
open PySem PySem.Spec PyProof.Rows L2

section
variable {K : PySem.W.Frag} {a b : Addr} {xs ys : List V}
end
section
variable {X : Cx} {M : MC} {E : L2.St → XK} {gl : ML} {pos : Pos} {e : Expr}
end
end Sb

/-! Sb, part D16: x.insert(i, y); a comprehension whose names are locals of the body too. -/
namespace Sb
open PySem PySem.Spec PyProof.Rows L2

/-! ### names of a comprehension that are locals too -/
def rest (l : Ld) : List Nat → Ld → Ld
  | [], l2 => l2
  | i :: is, l2 => match l[i]? with
    | some o => (rest l is l2).set i o
    | none => rest l is l2
section
variable {M : MC} {E : L2.St → XK} {gl : ML} {t : MG} {gt : MT} {ge : ME} {ts vs : List Nat}
end
section
variable {X : Cx} {M : MC} {E : L2.St → XK} {gl : ML} {t : MG} {gt : MT} {ge : ME} {ts : List Nat} {pos : Pos}
end
end Sb

set_option maxHeartbeats 1000000
/-! Sb, part D17: a != b of nested data that is the same; own == within. -/
namespace Sb
open PySem PySem.Spec PyProof.Rows L2
open PySem.SeqAt
open AutoSeq1 (wpAny_loadPart')
open MeetsSeq MeetsSeq2 MeetsSeq3 SeqRoads2
section
variable {prog : Program} {w : World} {A : Around} {R : Result → Shared → Prop}
end
section
variable {prog : Program} {w : World} {A : Around} {E : Value → Shared → Prop} {s : Shared}
end
end Sb

set_option maxHeartbeats 1000000
/-! Sb, part D18: == and != of nested data that is the same, at the mirrors. -/
namespace Sb
open PySem PySem.Spec PyProof.Rows L2

def EqW (X : Cx) (n : Nat) (D : Eqv) : Prop :=
  ∀ (A : Around) (pins : List (Addr × Obj)) (s : Shared) (σ : L2.St) (H : Hp) (x y : V) (u v : Value), Still A → Sub X n A → Inv X pins σ H s → RelV x u → RelV y v → D x y H →
    wpAny (model X.prog X.w) A (eqBool u v) (fun r s' => r = true ∧ LoopI X pins σ H s') X.xe s
section
variable {X : Cx} {n j : Nat} {D : Eqv}
theorem EqW.mono (h : EqW X n D) (hn : n ≤ j) : EqW X j D := fun A pins s σ H x y u v stl sb => h A pins s σ H x y u v stl (sb.mono hn)
end
section
variable {X : Cx} {c : Str} {m : MF} {k : Nat} {f : Addr} {ps : List Str}
/-! ### a != b -/
end
section
variable {X : Cx} {M : MC} {E : L2.St → XK} {w : World} {c : Str} {m : MF} {k n : Nat} {f : Addr} {ps : List Str} {a b : Expr} {ga gb : ME} {pos : Pos}
end
end Sb

set_option maxHeartbeats 1000000
/-! Sb, part D19: x = f(..) where the result may be new and stays the body's own; d.clear() of an own dict. -/
namespace Sb
open PySem PySem.Spec PyProof.Rows L2

/-! ### results that stay own -/
abbrev MSl := Ld → Res Sl
def RetN (M : MC) (σ : L2.St) (H : Hp) (l' : Ld) (F' H' : Hp) (v : V) : Sl → Prop
  | .fr d => Rep M.K F' v d
  | .ow o => ∃ p h, v = .ref p ∧ H' p = some h ∧ F' p = none ∧ M.H0 p = none ∧ H p = none ∧ ¬ Own σ l' p ∧ OwH M.K F' p h o
def mSl (M : MC) (E : L2.St → XK) (g : MSl) : TE := fun σ H Q => ∃ F l, StM M F σ H l ∧ wR M E σ F H l (fun r l' F' H' => ∀ v, RetN M σ H l' F' H' v r → Q v H') (g l)
def sSetS (i : Nat) (g : MSl) : MS := fun l => (g l).thn fun r l1 => .nx (l1.set i (some r))
section
variable {M : MC} {E : L2.St → XK} {σ : L2.St} {F H F' H' : Hp} {l : Ld} {as : List Arg} {ss ss' : List Sl} {vs dvs : List V} {dd : List D}
end
section
variable {X : Cx} {M : MC} {E : L2.St → XK} {k n i : Nat} {ps : List Str} {m : MF} {dvs : List V} {dd : List D} {x : Str} {p pos pos' : Pos} {e : Expr} {es : List Expr} {g : MA} {gs : MSl}
theorem ms_setS (np : NoPar M i) (hN : X.N.Nodup) (hi : X.N[i]? = some x) (hx : Loc X.env.scope x) (he : PE X e (mSl M E gs)) (hs : swapsWith e (some (.Name x pos')) pos.line X.env = pure false := by rfl) (hf : X.fn x = true ∨ X.env.scope.names.lookup x = some .local := by first | exact .inl rfl | exact .inr rfl | assumption) :
    PS X (.Assign [.Name x pos'] e pos) (mS M E (sSetS i gs)) := ps_imp (ps_set hN hi hx he hs hf) fun Dn σ H z => by
  obtain ⟨F, l, st, w⟩ := z
  refine ⟨F, l, st, (wS.thn st w).mono fun r l1 F1 H1 g1 st1 w1 v rv => ?_⟩
  cases r with
  | fr d => exact w1 _ F1 H1 (Same.refl _) (st1.setFr' np rv)
  | ow o =>
    obtain ⟨p, h, rfl, hp, fp, h0, _, no, rs⟩ := rv
    exact w1 _ F1 H1 (Same.refl _) (st1.setOw' np hp fp h0 no rs)
end
/-! ### d.clear() -/
section
variable {X : Cx} {M : MC} {E : L2.St → XK} {i : Nat} {x : Str} {p apos cpos : Pos}
end
end Sb

set_option maxHeartbeats 1000000
/-! Sb, part D20: static methods called by the class; a dict comprehension over nothing; defs with keyword-only parameters that are left out. -/
namespace Sb
open PySem PySem.Spec PyProof.Rows L2

/-! ### C.f(..), a static method -/
section
variable {X : Cx} {M : MC} {E : L2.St → XK} {e : Expr} {es : List Expr} {g : MA} {p1 p2 pos : Pos} {k n : Nat} {x name : Str} {f S pp : Addr} {ps : List Str} {dvs : List V} {dd : List D} {m : MF}
end
/-! ### {k: v for .. in nothing} -/
theorem Inv.conv {X : Cx} {pins : List (Addr × Obj)} {σ : L2.St} {H : Hp} {s : Shared} {d : Addr} {u u' : HO} (I : Inv X pins σ H s) (h : H d = some u) (mu : Mut (some u)) (new : ObjOk X.prog X.w (upd H d u') s.heap d u') (ex : ∃ o, s.heap.get? d = some o) : Inv X pins σ (upd H d u') s :=
  I.write (x := d) (e := d) (t' := s.toks) (h' := s.heap) (by rw [h]; exact mu) (.inl rfl) (fun b v _ q => q) ex new
section
variable {X : Cx} {M : MC} {E : L2.St → XK} {gl : ML}
end
/-! ### keyword-only parameters, all left out -/
section
variable {P : Program} {w : World} {K : PySem.W.Frag} {mg : Str → Option Value} {base : Heap} {k n : Nat} {x qn : Str} {st : Stmt} {ps N : List Str} {dvs dv : List V} {kws : List (Str × V)} {f : Addr}
end
end Sb

set_option maxHeartbeats 1000000
/-! Sb, part D21: any, max and min of a list, sorted of whole numbers, reversed. -/
namespace Sb
open PySem PySem.Spec PyProof.Rows L2

section
variable {X : Cx} {K : PySem.W.Frag}
/-! ### max, min of a list of like data -/
/-! ### sorted of whole numbers -/
end
section
variable {X : Cx} {M : MC} {E : L2.St → XK} {gl : ML} {e : Expr} {es : List Expr} {p pos : Pos}
theorem ml_callB {id : String} {x : Str} {f : List D → Option (List D)} (hc : CallR X (.builtin id) (rDnL M.K f)) (hg : Gl X x) (hm : X.mg x = none) (hv : bootBuiltins x = some (.builtin id)) (ha : PA X (e :: es) (mV M E gl)) (hn : x ≠ "__name__" := by decide) (hdb : (x == ("__debug__" : Str)) = false := by decide)
    (he : starEach (e :: es) X.env = (false, eval e X.env) :: starEach es X.env := by rfl) (hpl : (backTo pos (starEach es X.env)).any (·.1) = false := by rfl) : PE X (.Call (.Name x p) (e :: es) [] pos) (mL M E (calL f gl)) :=
  pe_imp (pe_callB hc hg hm hv ha hn hdb he hpl) fun _ _ _ z => mL_calL z
end
/-! ### reversed(x) -/
section
variable {X : Cx} {M : MC} {E : L2.St → XK} {e : Expr} {ga : ME} {p pos : Pos}
end
end Sb

/-! Sb, part K1: mirrors with cells. A worth is data or a pointer to a cell; cells are lists and instances that point to one another. -/
namespace Sb
open PySem PySem.Spec PyProof.Rows L2

inductive A where
  | d (x : D) | p (n : Nat)
inductive Cell where
  | lst (xs : List A) | ins (c : Str) (fs : List (Str × A))
abbrev Cells := List Cell
abbrev Lk := List (Option A)
def RepA (K : PySem.W.Frag) (F : Hp) (φ : List Addr) (v : V) : A → Prop
  | .d x => Rep K F v x
  | .p n => ∃ a, φ[n]? = some a ∧ v = .ref a
abbrev RepAs (K : PySem.W.Frag) (F : Hp) (φ : List Addr) : List V → List A → Prop := Paired (RepA K F φ)
abbrev RepAf (K : PySem.W.Frag) (F : Hp) (φ : List Addr) : List (Str × V) → List (Str × A) → Prop := Paired fun g f => g.1 = f.1 ∧ RepA K F φ g.2 f.2
def CellOk (K : PySem.W.Frag) (F : Hp) (φ : List Addr) (h : HO) : Cell → Prop
  | .lst xs => ∃ vs, h = .lst vs ∧ RepAs K F φ vs xs
  | .ins c fs => ∃ dx gs, h = .ins (He.ga K c) dx gs ∧ RepAf K F φ gs fs
theorem pre_get {φ φ' : List Addr} (h : φ <+: φ') {n : Nat} {a : Addr} (e : φ[n]? = some a) : φ'[n]? = some a := by
  obtain ⟨t, rfl⟩ := h
  rw [List.getElem?_append_left (get_lt e)]
  exact e
theorem paired_mono {α β : Type} {R S : α → β → Prop} (h : ∀ a b, R a b → S a b) : ∀ {xs : List α} {ys : List β}, Paired R xs ys → Paired S xs ys
  | _, _, .nil => .nil
  | _, _, .cons r t => .cons (h _ _ r) (paired_mono h t)
section
variable {K : PySem.W.Frag} {F F' : Hp} {φ φ' : List Addr}
theorem RepA.up {v : V} {a : A} (h : RepA K F φ v a) (e : Same F F') (p : φ <+: φ') : RepA K F' φ' v a := by
  cases a with
  | d x => exact Rep.up (show Rep K F v x from h) e
  | p n =>
    obtain ⟨b, e1, e2⟩ := h
    exact ⟨b, pre_get p e1, e2⟩
theorem RepAs.up {vs : List V} {xs : List A} (h : RepAs K F φ vs xs) (e : Same F F') (p : φ <+: φ') : RepAs K F' φ' vs xs := paired_mono (fun _ _ r => r.up e p) h
theorem RepAf.up {vs : List (Str × V)} {xs : List (Str × A)} (h : RepAf K F φ vs xs) (e : Same F F') (p : φ <+: φ') : RepAf K F' φ' vs xs := paired_mono (fun _ _ r => ⟨r.1, r.2.up e p⟩) h
theorem CellOk.up {h : HO} {x : Cell} (c : CellOk K F φ h x) (e : Same F F') (p : φ <+: φ') : CellOk K F' φ' h x := by
  cases x with
  | lst xs =>
    obtain ⟨vs, e1, r⟩ := c
    exact ⟨vs, e1, RepAs.up r e p⟩
  | ins cl fs =>
    obtain ⟨dx, gs, e1, r⟩ := c
    exact ⟨dx, gs, e1, RepAf.up r e p⟩
end
structure CsOk (K : PySem.W.Frag) (cs : List Str) (F : Hp) (φ : List Addr) (H : Hp) (c : Cells) : Prop where
  sub : Same F H
  cls : ∀ (n : Nat) (cl : Str) (fs : List (Str × A)), c[n]? = some (.ins cl fs) → cl ∈ cs
  clen : φ.length = c.length
  nd : φ.Nodup
  cell : ∀ (n : Nat) (x : Cell), c[n]? = some x → ∃ a h, φ[n]? = some a ∧ H a = some h ∧ F a = none ∧ CellOk K F φ h x
structure MK where
  K : PySem.W.Frag
  cs : List Str
  F0 : Hp
  H0 : Hp
  p0 : List Addr
structure StK (M : MK) (F : Hp) (φ : List Addr) (σ : L2.St) (H : Hp) (l : Lk) (c : Cells) : Prop where
  cs : CsOk M.K M.cs F φ H c
  len : σ.length = l.length
  slot : ∀ (i : Nat) (a : A), l[i]? = some (some a) → ∃ v, σ[i]? = some (some v) ∧ RepA M.K F φ v a
  keepF : Same M.F0 F
  pre : M.p0 <+: φ
  newC : ∀ a ∈ φ, a ∈ M.p0 ∨ M.H0 a = none
  newF : ∀ a o, M.H0 a = some o → M.F0 a = none → F a = none
  keepH : ∀ a o, M.H0 a = some o → a ∉ M.p0 → H a = some o
  domH : ∀ a, H a = none → M.H0 a = none
structure GrK (F : Hp) (φ : List Addr) (H : Hp) (F' : Hp) (φ' : List Addr) (H' : Hp) : Prop where
  ext : Same F F'
  pre : φ <+: φ'
  frn : ∀ p o, H p = some o → F p = none → p ∉ φ → F' p = none ∧ H' p = some o ∧ p ∉ φ'
  dom : ∀ a, H' a = none → H a = none
theorem GrK.refl (F : Hp) (φ : List Addr) (H : Hp) : GrK F φ H F φ H := ⟨Same.refl _, List.prefix_refl _, fun _ _ a b c => ⟨b, a, c⟩, fun _ h => h⟩
theorem GrK.trans {F F1 F2 : Hp} {φ φ1 φ2 : List Addr} {H H1 H2 : Hp} (a : GrK F φ H F1 φ1 H1) (b : GrK F1 φ1 H1 F2 φ2 H2) : GrK F φ H F2 φ2 H2 where
  ext := a.ext.trans b.ext
  pre := a.pre.trans b.pre
  frn := fun p o h f n => by
    obtain ⟨f1, h1, n1⟩ := a.frn p o h f n
    exact b.frn p o h1 f1 n1
  dom := fun p h => a.dom p (b.dom p h)
/-! ### results -/
inductive RK (α : Type) where
  | ok (a : α) (c : Cells)
  | err (cl f : Str) (d : D) (c : Cells)
  | stuck
def RK.bind {α β : Type} : RK α → (α → Cells → RK β) → RK β
  | .ok a c, f => f a c
  | .err cl f d c, _ => .err cl f d c
  | .stuck, _ => .stuck
def RK.lift {α : Type} : Option α → Cells → RK α
  | some a, c => .ok a c
  | none, _ => .stuck
def wK {α : Type} (M : MK) (E : L2.St → XK) (σ : L2.St) (F : Hp) (φ : List Addr) (H : Hp) (l : Lk) (P : α → Cells → Hp → List Addr → Hp → Prop) : RK α → Prop
  | .ok a c' => ∀ F' φ' H', GrK F φ H F' φ' H' → StK M F' φ' σ H' l c' → P a c' F' φ' H'
  | .err cl f d c' => ∀ v dd F' φ' H', GrK F φ H F' φ' H' → StK M F' φ' σ H' l c' → H' dd = some (.xd [(f, v)]) → F' dd = none → H dd = none → dd ∉ φ' → Rep M.K F' v d → E σ (.ref (He.ga M.K cl)) (some dd) H'
  | .stuck => False
section
variable {α β : Type} {M : MK} {E : L2.St → XK} {σ : L2.St} {F H F1 H1 : Hp} {φ φ1 : List Addr} {l : Lk} {P P' : α → Cells → Hp → List Addr → Hp → Prop} {R : β → Cells → Hp → List Addr → Hp → Prop} {r : RK α}
theorem wK.mono (h : wK M E σ F φ H l P r) (k : ∀ a c1 F1 φ1 H1, GrK F φ H F1 φ1 H1 → StK M F1 φ1 σ H1 l c1 → P a c1 F1 φ1 H1 → P' a c1 F1 φ1 H1) : wK M E σ F φ H l P' r := by
  cases r with
  | ok a c' => exact fun F' φ' H' g s => k _ _ _ _ _ g s (h F' φ' H' g s)
  | err cl f d c' => exact h
  | stuck => exact h
theorem wK.later (g : GrK F φ H F1 φ1 H1) (h : wK M E σ F φ H l P r) : wK M E σ F1 φ1 H1 l P r := by
  cases r with
  | ok a c' => exact fun F' φ' H' g' s => h F' φ' H' (g.trans g') s
  | err cl f d c' => exact fun v dd F' φ' H' g' s a b c n => h v dd F' φ' H' (g.trans g') s a b (g.dom _ c) n
  | stuck => exact h
theorem wK.bind {f : α → Cells → RK β} (h : wK M E σ F φ H l R (r.bind f)) : wK M E σ F φ H l (fun a c1 F1 φ1 H1 => wK M E σ F1 φ1 H1 l R (f a c1)) r := by
  cases r with
  | ok a c' => exact fun F' φ' H' g s => wK.later g h
  | err cl f d c' => exact h
  | stuck => exact h
end
/-! ### readings -/
abbrev KE := Lk → Cells → RK A
abbrev KT := Lk → Cells → RK Bool
abbrev KA := Lk → Cells → RK (List A)
section
variable (M : MK) (E : L2.St → XK)
end
section
variable {M : MK} {E : L2.St → XK} {σ : L2.St} {F H F' H' : Hp} {φ : List Addr} {l : Lk} {c : Cells}
theorem CsOk.addr {K : PySem.W.Frag} {cs' : List Str} (cs : CsOk K cs' F φ H c) {a : Addr} (m : a ∈ φ) : (∃ h, H a = some h) ∧ F a = none := by
  obtain ⟨n, hn, e⟩ := List.mem_iff_getElem.mp m
  have hc : n < c.length := by rw [← cs.clen]; exact hn
  obtain ⟨b, h, e1, e2, e3, _⟩ := cs.cell n c[n] (List.getElem?_eq_getElem hc)
  rw [List.getElem?_eq_getElem hn, e] at e1
  cases e1
  exact ⟨⟨h, e2⟩, e3⟩
theorem StK.new (st : StK M F φ σ H l c) (nw : Nw F H F' H') : StK M F' φ σ H' l c ∧ GrK F φ H F' φ H' := by
  refine ⟨⟨⟨nw.s, st.cs.cls, st.cs.clen, st.cs.nd, fun n x e => ?_⟩, st.len, fun i a e => ?_, st.keepF.trans nw.f, st.pre, st.newC, fun a o h f => ?_, fun a o h n => nw.h _ _ (st.keepH a o h n), fun a h => st.domH a (nw.h.free h)⟩, nw.f, List.prefix_refl _, fun p o h f n => ⟨nw.n p o h f, nw.h p o h, n⟩, fun a h => nw.h.free h⟩
  · obtain ⟨a, h, e1, e2, e3, e4⟩ := st.cs.cell n x e
    exact ⟨a, h, e1, nw.h _ _ e2, nw.n _ _ e2 e3, e4.up nw.f (List.prefix_refl _)⟩
  · obtain ⟨v, e1, r⟩ := st.slot i a e
    exact ⟨v, e1, r.up nw.f (List.prefix_refl _)⟩
  · have f1 := st.newF a o h f
    by_cases m : a ∈ M.p0
    · obtain ⟨⟨h', e⟩, _⟩ := st.cs.addr (st.pre.subset m)
      exact nw.n _ _ e f1
    · exact nw.n _ _ (st.keepH a o h m) f1
theorem StK.alloc {p : Addr} {h : HO} {x : Cell} (st : StK M F φ σ H l c) (hp : H p = some h) (fp : F p = none) (np : p ∉ φ) (h0 : M.H0 p = none) (hcl : ∀ cl fs, x = .ins cl fs → cl ∈ M.cs) (ok : CellOk M.K F (φ ++ [p]) h x) : StK M F (φ ++ [p]) σ H l (c ++ [x]) ∧ φ <+: φ ++ [p] := by
  have pre : φ <+: φ ++ [p] := List.prefix_append _ _
  refine ⟨⟨⟨st.cs.sub, fun n cl fs e => ?_, by rw [List.length_append, List.length_append, st.cs.clen]; rfl, ?_, fun n y e => ?_⟩, st.len, fun i a e => ?_, st.keepF, st.pre.trans pre, fun a m => ?_, st.newF, st.keepH, st.domH⟩, pre⟩
  · rw [List.getElem?_append] at e
    split at e
    · exact st.cs.cls n cl fs e
    · have en : n - c.length = 0 := by
        have := get_lt e
        simp only [List.length_cons, List.length_nil] at this
        omega
      rw [en] at e
      cases e
      exact hcl cl fs rfl
  · refine List.nodup_append.mpr ⟨st.cs.nd, by simp, fun a ha b hb e => ?_⟩
    rw [List.mem_singleton.mp hb] at e
    exact np (e ▸ ha)
  · rw [List.getElem?_append] at e
    split at e
    · obtain ⟨a, h', e1, e2, e3, e4⟩ := st.cs.cell n y e
      exact ⟨a, h', pre_get pre e1, e2, e3, e4.up (Same.refl _) pre⟩
    · rename_i hn
      have en : n - c.length = 0 := by
        have := get_lt e
        simp only [List.length_cons, List.length_nil] at this
        omega
      rw [en] at e
      cases e
      refine ⟨p, h, ?_, hp, fp, ok⟩
      rw [List.getElem?_append_right (by rw [st.cs.clen]; omega), st.cs.clen, en]
      rfl
  · obtain ⟨v, e1, r⟩ := st.slot i a e
    exact ⟨v, e1, r.up (Same.refl _) pre⟩
  · rcases List.mem_append.mp m with m | m
    · exact st.newC a m
    · rw [List.mem_singleton.mp m]
      exact .inr h0
end
/-! ### expressions of data, the cells lent -/
mutual
/-- a worth seen as data -/
def view (c : Cells) : Nat → A → Option D
  | _, .d x => some x
  | 0, .p _ => none
  | f + 1, .p n => match c[n]? with
    | some (.lst xs) => (views c f xs).map .list
    | some (.ins cl fs) => (viewf c f fs).map (.ins cl)
    | none => none
def views (c : Cells) : Nat → List A → Option (List D)
  | _, [] => some []
  | f, a :: as => (view c f a).bind fun d => (views c f as).map (d :: ·)
def viewf (c : Cells) : Nat → List (Str × A) → Option (List (Str × D))
  | _, [] => some []
  | f, (k, a) :: as => (view c f a).bind fun d => (viewf c f as).map ((k, d) :: ·)
end
def viewL (f : Nat) (l : Lk) (c : Cells) : Ld := l.map fun o => match o with
  | some a => (view c f a).map .fr
  | none => none
def lentF (F : Hp) (φ : List Addr) (H : Hp) : Hp := fun a => if a ∈ φ then H a else F a
section
variable {K : PySem.W.Frag} {cs : List Str} {F H : Hp} {φ : List Addr} {c : Cells}
theorem lentF_same (ok : CsOk K cs F φ H c) : Same F (lentF F φ H) := fun a o h => by
  unfold lentF
  rw [if_neg fun m => ?_]
  · exact h
  · rw [(ok.addr m).2] at h
    cases h
theorem lentF_sub (ok : CsOk K cs F φ H c) : Same (lentF F φ H) H := fun a o h => by
  unfold lentF at h
  split at h
  · exact h
  · exact ok.sub _ _ h
theorem lentF_in {a : Addr} {h : HO} (m : a ∈ φ) (e : H a = some h) : lentF F φ H a = some h := by
  unfold lentF
  rw [if_pos m]
  exact e
theorem mem_of_get {n : Nat} {a : Addr} (e : φ[n]? = some a) : a ∈ φ := List.mem_of_getElem? e
mutual
theorem view_rep (ok : CsOk K cs F φ H c) : ∀ (f : Nat) (a : A) (v : V) (d : D), RepA K F φ v a → view c f a = some d → Rep K (lentF F φ H) v d
  | f, .d x, v, d, r, e => by
    rw [view] at e
    cases e
    exact Rep.up (show Rep K F v x from r) (lentF_same ok)
  | 0, .p n, v, d, r, e => by rw [view] at e; cases e
  | f + 1, .p n, v, d, r, e => by
    obtain ⟨a, ea, rfl⟩ := r
    rw [view] at e
    cases hc : c[n]? with
    | none => rw [hc] at e; cases e
    | some x =>
      rw [hc] at e
      obtain ⟨b, h, e1, e2, e3, e4⟩ := ok.cell n x hc
      rw [ea] at e1
      cases e1
      cases x with
      | lst xs =>
        obtain ⟨vs, rfl, rs⟩ := e4
        obtain ⟨ds, ed, rfl⟩ := Option.map_eq_some_iff.mp e
        exact .list (lentF_in (mem_of_get ea) e2) (views_rep ok f xs vs ds rs ed)
      | ins cl fs =>
        obtain ⟨dx, gs, rfl, rs⟩ := e4
        obtain ⟨ds, ed, rfl⟩ := Option.map_eq_some_iff.mp e
        exact .ins (lentF_in (mem_of_get ea) e2) (viewf_rep ok f fs gs ds rs ed)
theorem views_rep (ok : CsOk K cs F φ H c) : ∀ (f : Nat) (as : List A) (vs : List V) (ds : List D), RepAs K F φ vs as → views c f as = some ds → Reps K (lentF F φ H) vs ds
  | f, [], _, ds, .nil, e => by
    rw [views] at e
    cases e
    exact .nil
  | f, a :: as, _, ds, .cons r t, e => by
    rw [views] at e
    obtain ⟨d, e1, e⟩ := Option.bind_eq_some_iff.mp e
    obtain ⟨es, e2, rfl⟩ := Option.map_eq_some_iff.mp e
    exact .cons (view_rep ok f a _ d r e1) (views_rep ok f as _ es t e2)
theorem viewf_rep (ok : CsOk K cs F φ H c) : ∀ (f : Nat) (as : List (Str × A)) (vs : List (Str × V)) (ds : List (Str × D)), RepAf K F φ vs as → viewf c f as = some ds → RepF K (lentF F φ H) vs ds
  | f, [], _, ds, .nil, e => by
    rw [viewf] at e
    cases e
    exact .nil
  | f, (k, a) :: as, (k', v) :: _, ds, .cons r t, e => by
    rw [viewf] at e
    obtain ⟨d, e1, e⟩ := Option.bind_eq_some_iff.mp e
    obtain ⟨es, e2, rfl⟩ := Option.map_eq_some_iff.mp e
    obtain ⟨z, r⟩ := r
    have z : k' = k := z
    subst z
    exact .cons (view_rep ok f a _ d r e1) (viewf_rep ok f as _ es t e2)
end
end
section
variable {M : MK} {E : L2.St → XK} {σ : L2.St} {F H F' H' : Hp} {φ : List Addr} {l : Lk} {c : Cells}
theorem viewL_get {f : Nat} {i : Nat} {s : Sl} (h : (viewL f l c)[i]? = some (some s)) : ∃ a x, l[i]? = some (some a) ∧ view c f a = some x ∧ s = .fr x := by
  unfold viewL at h
  rw [List.getElem?_map] at h
  cases e : l[i]? with
  | none => rw [e] at h; cases h
  | some o =>
    rw [e] at h
    cases o with
    | none => cases h
    | some a =>
      cases hv : view c f a with
      | none => rw [show (Option.map _ (some (some a))) = some ((view c f a).map Sl.fr) from rfl, hv] at h; cases h
      | some x =>
        rw [show (Option.map _ (some (some a))) = some ((view c f a).map Sl.fr) from rfl, hv] at h
        cases h
        exact ⟨a, x, rfl, hv, rfl⟩
theorem StK.lent (st : StK M F φ σ H l c) (f : Nat) : StM ⟨M.K, lentF F φ H, H, []⟩ (lentF F φ H) σ H (viewL f l c) where
  sub := lentF_sub st.cs
  len := by unfold viewL; rw [List.length_map]; exact st.len
  slot := fun i s e => by
    obtain ⟨a, x, e1, e2, rfl⟩ := viewL_get e
    obtain ⟨v, ev, r⟩ := st.slot i a e1
    exact ⟨v, ev, view_rep st.cs f a v x r e2⟩
  inj := fun i j xs ys v a b _ _ => by
    obtain ⟨_, x, _, _, z⟩ := viewL_get a
    cases z
  keepF := Same.refl _
  newF := fun a o _ f _ => f
  keepH := fun a o h _ => h
  domH := fun a h => h
  pars := fun q h => by cases h
def Apart (K : PySem.W.Frag) (ps cs : List Str) : Prop := ∀ p ∈ ps, ∀ c ∈ cs, He.ga K p ≠ He.ga K c
end
section
variable {K : PySem.W.Frag} {F : Hp} {φ : List Addr} {ps cs : List Str}
end
end Sb

/-! Sb, part K2: expressions over cells. -/
namespace Sb
open PySem PySem.Spec PyProof.Rows L2

/-! ### readings of data with the cells lent -/
section
variable {X : Cx} {M : MK} {E : L2.St → XK} {e : Expr} {f : Nat} {ps : List Str}
end
/-! ### names, fields, items -/
section
variable {X : Cx} {M : MK} {E : L2.St → XK} {e a b : Expr} {g h : KE} {pos : Pos} {i : Nat} {x : Str}
theorem StK.at_ {σ : L2.St} {F H : Hp} {φ : List Addr} {l : Lk} {c : Cells} (st : StK M F φ σ H l c) {n : Nat} {v : V} {x : Cell} (r : RepA M.K F φ v (.p n)) (hc : c[n]? = some x) : ∃ p ho, v = .ref p ∧ φ[n]? = some p ∧ H p = some ho ∧ F p = none ∧ CellOk M.K F φ ho x := by
  obtain ⟨p, e1, rfl⟩ := r
  obtain ⟨p', ho, e2, e3, e4, e5⟩ := st.cs.cell n x hc
  rw [e1] at e2
  cases e2
  exact ⟨p, ho, rfl, e1, e3, e4, e5⟩
end
end Sb

/-! Sb, part K3: contracts of defs over cells, calls, methods, new instances. -/
namespace Sb
open PySem PySem.Spec PyProof.Rows L2

abbrev MFk := List A → Cells → RK A
section
variable {M : MK} {E : L2.St → XK} {σ : L2.St} {F H F' H' : Hp} {φ φ' : List Addr} {l : Lk} {c c' : Cells}
theorem StK.after (st : StK M F φ σ H l c) (g : GrK F φ H F' φ' H') (ok : CsOk M.K M.cs F' φ' H' c') : StK M F' φ' σ H' l c' where
  cs := ok
  len := st.len
  slot := fun i a e => by
    obtain ⟨v, e1, r⟩ := st.slot i a e
    exact ⟨v, e1, r.up g.ext g.pre⟩
  keepF := st.keepF.trans g.ext
  pre := st.pre.trans g.pre
  newC := fun a m => by
    by_cases ha : a ∈ φ
    · exact st.newC a ha
    · cases hH : H a with
      | none => exact .inr (st.domH a hH)
      | some o =>
        cases hF : F a with
        | none => exact ((g.frn a o hH hF ha).2.2 m).elim
        | some o' =>
          have := g.ext _ _ hF
          rw [(ok.addr m).2] at this
          cases this
  newF := fun a o h f => by
    have f1 := st.newF a o h f
    by_cases ha : a ∈ φ
    · exact (ok.addr (g.pre.subset ha)).2
    · exact (g.frn a o (st.keepH a o h fun z => ha (st.pre.subset z)) f1 ha).1
  keepH := fun a o h n => by
    have h1 := st.keepH a o h n
    by_cases ha : a ∈ φ
    · rcases st.newC a ha with z | z
      · exact (n z).elim
      · rw [z] at h; cases h
    · cases hF : F a with
      | none => exact (g.frn a o h1 hF ha).2.1
      | some o' =>
        have := st.cs.sub _ _ hF
        rw [h1] at this
        cases this
        exact ok.sub _ _ (g.ext _ _ hF)
  domH := fun a h => st.domH a (g.dom a h)
end
/-! ### arguments -/
section
variable {X : Cx} {M : MK} {E : L2.St → XK} {e : Expr} {es : List Expr} {g : KE} {h : KA} {pos : Pos}
end
/-! ### calls -/
section
variable {X : Cx} {M : MK} {E : L2.St → XK} {e : Expr} {es : List Expr} {g : KA} {pos p : Pos} {k n : Nat} {x : Str} {ps : List Str} {dvs : List V} {dd : List D} {m : MFk}
end
/-! ### methods, by the class of the cell -/
section
variable {X : Cx} {M : MK} {E : L2.St → XK} {o e : Expr} {es : List Expr} {go : KE} {ga : KA} {pos apos : Pos} {k n : Nat} {name : Str} {dd : List D} {ms : List (Str × MFk)} {pl : Sem Bool}
end
/-! ### new instances -/
section
variable {X : Cx} {M : MK} {E : L2.St → XK} {σ : L2.St} {F H : Hp} {φ : List Addr} {l : Lk} {c : Cells}
end
end Sb

/-! Sb, part K4: statements over cells. -/
namespace Sb
open PySem PySem.Spec PyProof.Rows L2

inductive SK where
  | nx (l : Lk) (c : Cells) | rt (a : A) (l : Lk) (c : Cells) | bk (l : Lk) (c : Cells) | ct (l : Lk) (c : Cells) | err (cl f : Str) (d : D) (l : Lk) (c : Cells) | stuck
abbrev KS := Lk → Cells → SK
def wSk (M : MK) (E : L2.St → XK) (F : Hp) (φ : List Addr) (Dn : Ends) : SK → Prop
  | .nx l' c' => ∀ σ' F' φ' H', Same F F' → φ <+: φ' → StK M F' φ' σ' H' l' c' → Dn.nx σ' H'
  | .rt a l' c' => ∀ v σ' F' φ' H', Same F F' → φ <+: φ' → StK M F' φ' σ' H' l' c' → RepA M.K F' φ' v a → Dn.rt v H'
  | .bk l' c' => ∀ σ' F' φ' H', Same F F' → φ <+: φ' → StK M F' φ' σ' H' l' c' → Dn.bk σ' H'
  | .ct l' c' => ∀ σ' F' φ' H', Same F F' → φ <+: φ' → StK M F' φ' σ' H' l' c' → Dn.ct σ' H'
  | .err cl f d l' c' => ∀ v dd σ' F' φ' H', Same F F' → φ <+: φ' → StK M F' φ' σ' H' l' c' → H' dd = some (.xd [(f, v)]) → F' dd = none → M.H0 dd = none → dd ∉ φ' → Rep M.K F' v d → E σ' (.ref (He.ga M.K cl)) (some dd) H'
  | .stuck => False
def kS (M : MK) (E : L2.St → XK) (g : KS) : TS := fun Dn σ H => ∃ F φ l c, StK M F φ σ H l c ∧ wSk M E F φ Dn (g l c)
def RK.thn {α : Type} : RK α → Lk → (α → Cells → SK) → SK
  | .ok a c, _, f => f a c
  | .err cl f d c, l, _ => .err cl f d l c
  | .stuck, _, _ => .stuck
def SK.seq : SK → KS → SK
  | .nx l c, f => f l c
  | r, _ => r
section
variable {M : MK} {E : L2.St → XK} {Dn : Ends} {σ : L2.St} {F H : Hp} {φ : List Addr} {l : Lk} {c : Cells}
theorem wSk.later {F' : Hp} {φ' : List Addr} {r : SK} (e : Same F F') (p : φ <+: φ') (w : wSk M E F φ Dn r) : wSk M E F' φ' Dn r := by
  cases r with
  | nx l1 c1 => exact fun σ' F1 φ1 H' e1 p1 => w σ' F1 φ1 H' (e.trans e1) (p.trans p1)
  | rt s l1 c1 => exact fun v σ' F1 φ1 H' e1 p1 => w v σ' F1 φ1 H' (e.trans e1) (p.trans p1)
  | bk l1 c1 => exact fun σ' F1 φ1 H' e1 p1 => w σ' F1 φ1 H' (e.trans e1) (p.trans p1)
  | ct l1 c1 => exact fun σ' F1 φ1 H' e1 p1 => w σ' F1 φ1 H' (e.trans e1) (p.trans p1)
  | err cl f d l1 c1 => exact fun v dd σ' F1 φ1 H' e1 p1 => w v dd σ' F1 φ1 H' (e.trans e1) (p.trans p1)
  | stuck => exact w
theorem wSk.thn {α : Type} {r : RK α} {f : α → Cells → SK} (st : StK M F φ σ H l c) (w : wSk M E F φ Dn (r.thn l f)) : wK M E σ F φ H l (fun a c1 F1 φ1 _ => wSk M E F1 φ1 Dn (f a c1)) r := by
  cases r with
  | ok a c1 => exact fun F' φ' H' g s => w.later g.ext g.pre
  | err cl f d c1 => exact fun v dd F' φ' H' g s a b n m r => w v dd σ F' φ' H' g.ext g.pre s a b (st.domH _ n) m r
  | stuck => exact w
theorem wSk.seq {r : SK} {f : KS} (w : wSk M E F φ Dn (r.seq f)) : wSk M E F φ { Dn with nx := kS M E f Dn } r := by
  cases r with
  | nx l1 c1 => exact fun σ' F' φ' H' e p s => ⟨F', φ', l1, c1, s, wSk.later e p w⟩
  | rt s l1 c1 => exact w
  | bk l1 c1 => exact w
  | ct l1 c1 => exact w
  | err cl f d l1 c1 => exact w
  | stuck => exact w
theorem StK.put {n : Nat} {p : Addr} {h' : HO} {x x' : Cell} (st : StK M F φ σ H l c) (e1 : φ[n]? = some p) (hc : c[n]? = some x) (hcl : ∀ cl fs, x' = .ins cl fs → cl ∈ M.cs) (ok : CellOk M.K F φ h' x') : StK M F φ σ (upd H p h') l (c.set n x') ∧ GrK F φ H F φ (upd H p h') := by
  have pm : p ∈ φ := List.mem_of_getElem? e1
  obtain ⟨⟨h0, hp⟩, fp⟩ := st.cs.addr pm
  have hn : n < c.length := get_lt hc
  refine ⟨⟨⟨fun a o z => ?_, fun m cl fs e => ?_, by rw [List.length_set]; exact st.cs.clen, st.cs.nd, fun m y e => ?_⟩, st.len, st.slot, st.keepF, st.pre, st.newC, st.newF, fun a o z n => ?_, fun a z => ?_⟩, Same.refl _, List.prefix_refl _, fun q o z f m => ?_, fun a z => ?_⟩
  · rw [upd_ne (fun q => by rw [q, fp] at z; cases z)]
    exact st.cs.sub _ _ z
  · by_cases hm : n = m
    · subst hm
      rw [List.getElem?_set_self hn] at e
      injection e with e
      exact hcl cl fs e
    · rw [List.getElem?_set_ne hm] at e
      exact st.cs.cls m cl fs e
  · by_cases hm : n = m
    · subst hm
      rw [List.getElem?_set_self hn] at e
      injection e with e
      subst e
      exact ⟨p, h', e1, upd_same, fp, ok⟩
    · rw [List.getElem?_set_ne hm] at e
      obtain ⟨a, h, a1, a2, a3, a4⟩ := st.cs.cell m y e
      have ne : a ≠ p := fun q => by
        subst q
        have i1 : n < φ.length := get_lt e1
        exact hm ((List.getElem?_inj i1 st.cs.nd).mp (e1.trans a1.symm))
      exact ⟨a, h, a1, by rw [upd_ne ne]; exact a2, a3, a4⟩
  · have ne : a ≠ p := fun q => by
      subst q
      rcases st.newC a pm with y | y
      · exact n y
      · rw [y] at z; cases z
    rw [upd_ne ne]
    exact st.keepH a o z n
  · by_cases q : a = p
    · subst q
      rw [upd_same] at z
      cases z
    · rw [upd_ne q] at z
      exact st.domH a z
  · have ne : q ≠ p := fun y => m (by rw [y]; exact pm)
    exact ⟨f, by rw [upd_ne ne]; exact z, m⟩
  · by_cases q : a = p
    · subst q
      rw [upd_same] at z
      cases z
    · rw [upd_ne q] at z
      exact z
end
section
variable {X : Cx} {M : MK} {E : L2.St → XK} {a b e o : Expr} {st : Stmt} {sts rest : List Stmt} {ga gb go gv : KE} {gt : KT} {g h : KS} {pos pos' : Pos} {i : Nat} {x : Str}
end
/-! ### methods of lists -/
section
variable {X : Cx} {M : MK} {E : L2.St → XK} {o e : Expr} {es : List Expr} {go : KE} {ga : KA} {cpos apos : Pos} {name : Str} {id : String} {r : V → List V → Hp → VK → Prop} {f : List A → List A → Option (A × List A)}
end
end Sb

/-! Sb, part K5: loops over cells; a def by its mirror. -/
namespace Sb
open PySem PySem.Spec PyProof.Rows L2

def loopK (r : SK) (k : KS) : SK := match r with
  | .nx l c => k l c
  | .ct l c => k l c
  | .bk l c => .nx l c
  | r => r
/-! ### while -/
section
variable {X : Cx} {M : MK} {E : L2.St → XK} {e : Expr} {ga : KE} {gt : KT} {g : KS} {pos : Pos} {i : Nat} {x : Str}
theorem wSk.loop {F : Hp} {φ : List Addr} {r : SK} {k : KS} {Dn : Ends} {N : L2.St → Hp → Prop} (w : wSk M E F φ Dn (loopK r k)) (hN : ∀ σ F' φ' H l c, Same F F' → φ <+: φ' → StK M F' φ' σ H l c → wSk M E F' φ' Dn (k l c) → N σ H) : wSk M E F φ { Dn with nx := N, ct := N, bk := Dn.nx } r := by
  cases r with
  | nx l' c' => exact fun σ F' φ' H e p st => hN σ F' φ' H l' c' e p st (wSk.later e p w)
  | ct l' c' => exact fun σ F' φ' H e p st => hN σ F' φ' H l' c' e p st (wSk.later e p w)
  | bk l' c' => exact w
  | rt s l' c' => exact w
  | err cl f d l' c' => exact w
  | stuck => exact w
/-! ### targets: names, tuples of data -/
/-! ### for, over data -/
end
/-! ### a def by its mirror -/
section
variable {K : PySem.W.Frag} {cs : List Str} {F H : Hp} {φ : List Addr} {c : Cells} {vs : List V} {as : List A}
end
end Sb

/-! Sb, part K6: defs over cells by their mirrors; a base class's def; defs over cells seen from outside. -/
namespace Sb
open PySem PySem.Spec PyProof.Rows L2

section
variable {P : Program} {w : World} {K : PySem.W.Frag} {cs : List Str} {mg : Str → Option Value} {base : Heap} {k n : Nat} {x qn : Str} {st : Stmt} {ps N : List Str} {dvs dv : List V} {f : Addr} {g : KS}
end
/-! ### seen from outside: data in, data out -/
/-! ### C.f(self, ..), a def of a base class -/
section
variable {X : Cx} {M : MK} {E : L2.St → XK} {e : Expr} {es : List Expr} {g : KA} {p1 p2 pos : Pos} {k n : Nat} {x name : Str} {f S : Addr} {ps : List Str} {dvs : List V} {dd : List D} {m : MFk}
end
end Sb

set_option maxHeartbeats 1000000
/-! Sb, part K7: readings over cells that touch no cell. -/
namespace Sb
open PySem PySem.Spec PyProof.Rows L2

def dataL (l : Lk) : Ld := l.map fun o => match o with
  | some (.d x) => some (.fr x)
  | _ => none
theorem dataL_get {l : Lk} {i : Nat} {s : Sl} (h : (dataL l)[i]? = some (some s)) : ∃ x, l[i]? = some (some (.d x)) ∧ s = .fr x := by
  unfold dataL at h
  rw [List.getElem?_map] at h
  cases e : l[i]? with
  | none => rw [e] at h; cases h
  | some o =>
    rw [e] at h
    match o, h with
    | some (.d x), h => cases h; exact ⟨x, rfl, rfl⟩
    | some (.p n), h => cases h
    | none, h => cases h
section
variable {M : MK} {E : L2.St → XK} {σ : L2.St} {F H F' H' : Hp} {φ : List Addr} {l : Lk} {c : Cells}
theorem StK.pure (st : StK M F φ σ H l c) : StM ⟨M.K, F, H, []⟩ F σ H (dataL l) where
  sub := st.cs.sub
  len := by unfold dataL; rw [List.length_map]; exact st.len
  slot := fun i s e => by
    obtain ⟨x, e1, rfl⟩ := dataL_get e
    obtain ⟨v, ev, r⟩ := st.slot i _ e1
    exact ⟨v, ev, r⟩
  inj := fun i j xs ys v a b _ _ => by
    obtain ⟨x, _, z⟩ := dataL_get a
    cases z
  keepF := Same.refl _
  newF := fun a o _ f _ => f
  keepH := fun a o h _ => h
  domH := fun a h => h
  pars := fun q h => by cases h
end
section
variable {X : Cx} {M : MK} {E : L2.St → XK} {e : Expr}
end
/-! ### classes apart, as a fact -/
theorem apartB_ok {K : PySem.W.Frag} {ps cs : List Str} (h : apartB K ps cs = true) : Apart K ps cs := by
  intro p mp c mc
  exact of_decide_eq_true (List.all_eq_true.mp (List.all_eq_true.mp h p mp) c mc)
/-! ### a def over cells, called with data from outside -/
section
variable {P : Program} {w : World} {K : PySem.W.Frag} {mg : Str → Option Value} {base : Heap} {CX : CXT} {k n : Nat} {x : Str} {ps : List Str} {dvs : List V} {cs : List Str} {m : MFk} {f : Addr}
end
end Sb

set_option maxHeartbeats 1000000
/-! Sb, part K8: methods that give a new list; tables of methods; constants of the module as data. -/
namespace Sb
open PySem PySem.Spec PyProof.Rows L2

section
variable {X : Cx} {M : MC} {E : L2.St → XK} {o : Expr} {go : ME} {pos apos : Pos}
end
section
variable {X : Cx} {cs : List Str} {k n : Nat} {K : PySem.W.Frag} {name c : Str} {dd : List D} {m : MFk} {ms : List (Str × MFk)} {f : Addr} {ps : List Str} {dvs : List V}
end
/-! ### constants -/
def vOf : Value → V
  | .none => .non
  | .bool b => .bl b
  | .int i _ => .int i
  | .str x _ => .str x
  | .ref a => .ref a
  | _ => .non
mutual
theorem dataB_ok {K : PySem.W.Frag} (F : Hp) : ∀ (d : D) (u : Value), dataB K u d = true → RelV (vOf u) u ∧ Rep K F (vOf u) d
  | .non, u, h => by
    cases u <;> simp [dataB] at h
    exact ⟨rfl, .non⟩
  | .bl b, u, h => by
    cases u <;> simp [dataB] at h
    subst h
    exact ⟨rfl, .bl _⟩
  | .int i, u, h => by
    cases u <;> simp [dataB] at h
    rename_i t
    subst h
    exact ⟨⟨t, rfl⟩, .int _⟩
  | .str x, u, h => by
    cases u <;> simp [dataB] at h
    rename_i t
    subst h
    exact ⟨⟨t, rfl⟩, .str _⟩
  | .tup ds, u, h => by
    cases u <;> simp only [dataB] at h <;> try exact (Bool.false_ne_true h).elim
    rename_i a
    split at h
    · rename_i n dd its m sl e
      simp only [Bool.and_eq_true, decide_eq_true_eq, beq_iff_eq] at h
      obtain ⟨⟨rfl, h2⟩, h3⟩ := h
      obtain ⟨vs, r, rs⟩ := datasB_ok F ds its.toList h3
      exact ⟨rfl, .tup (.inr ⟨_, its, _, e, rfl, rfl, h2, r⟩) rs⟩
    · cases h
  | .scr _, u, h => by cases u <;> simp [dataB] at h
  | .list _, u, h => by cases u <;> simp [dataB] at h
  | .ins _ _, u, h => by cases u <;> simp [dataB] at h
  | .cls _, u, h => by cases u <;> simp [dataB] at h
  | .dict _ _, u, h => by cases u <;> simp [dataB] at h
theorem datasB_ok {K : PySem.W.Frag} (F : Hp) : ∀ (ds : List D) (us : List Value), datasB K us ds = true → ∃ vs, Vals vs us ∧ Reps K F vs ds
  | [], [], _ => ⟨[], .nil, .nil⟩
  | [], _ :: _, h => by simp [datasB] at h
  | _ :: _, [], h => by simp [datasB] at h
  | d :: ds, u :: us, h => by
    rw [datasB, Bool.and_eq_true] at h
    obtain ⟨r, q⟩ := dataB_ok F d u h.1
    obtain ⟨vs, rs, qs⟩ := datasB_ok F ds us h.2
    exact ⟨_, .cons r rs, .cons q qs⟩
end
theorem dataRef {K : PySem.W.Frag} {a : Addr} {d : D} (h : dataB K (.ref a) d = true) (F : Hp) : Rep K F (.ref a) d := (dataB_ok F d _ h).2
/-! ### a new dict out of a lent reading -/
section
variable {X : Cx} {M : MK} {E : L2.St → XK} {e : Expr} {f : Nat} {ps : List Str}
end
/-! ### K-defs with keyword-only parameters -/
section
variable {P : Program} {w : World} {K : PySem.W.Frag} {cs : List Str} {mg : Str → Option Value} {base : Heap} {k n : Nat} {x qn : Str} {st : Stmt} {ps N : List Str} {dvs dv : List V} {kws : List (Str × V)} {f : Addr} {g : KS}
end
end Sb

set_option maxHeartbeats 1000000
/-! Sb, part K9: operators, comparisons, and, or, not over cells. -/
namespace Sb
open PySem PySem.Spec PyProof.Rows L2

section
variable {X : Cx} {M : MK} {E : L2.St → XK} {a b e : Expr} {ga gb : KE} {ta tb : KT} {pos : Pos} {rest : List Expr}
end
/-! ### calls without arguments -/
section
variable {X : Cx} {M : MK} {E : L2.St → XK} {E' : L2.St → XK} {pos p : Pos} {k n : Nat} {x : Str} {ps : List Str} {dvs : List V} {dd : List D} {m : MFk} {sp : Sp} {CX : CXT}
end
/-! ### y = [.. for ..] -/
section
variable {X : Cx} {M : MK} {E : L2.St → XK} {f : Nat} {ps : List Str} {i : Nat} {stm : Stmt}
end
section
variable {X : Cx} {M : MC} {E : L2.St → XK} {gl : ML}
end
end Sb

set_option maxHeartbeats 1000000
/-! Sb, part K10: a tuple times a number. -/
namespace Sb
open PySem PySem.Spec PyProof.Rows L2
end Sb

/-! Sb, part V: short names for what the walks say often. -/
namespace Sb
open PySem PySem.Spec PyProof.Rows L2
theorem mv {X : Cx} {M : MC} {E : L2.St → XK} {pos : Pos} (i : Nat) {x : Str} (hN : X.N[i]? = some x := by rfl) (hv : visB X.env.scope x = true := by rfl) (hd : (x == ("__debug__" : Str)) = false := by decide) (hcd : (x == ("__classdict__" : Str)) = false := by decide) :
    PE X (.Name x pos) (mE M E (rd i)) := me_var hN (vz hv) hd hcd
theorem pxa {X : Cx} {E : XK} {E₁ : Value → Shared → Prop} (hs : X.stack = X.env :: X.outer) (hf : X.env.frame = some X.env.locals) (hex : X.ex = [])
    (hx : X.xe = fun e s' => wpAny (model X.prog X.w) X.A (leaving X.env e) (fun _ s'' => L2.CX X.prog X.w X.outer X.H_0 X.s_0 E e s'') E₁ s') : ∀ σ : L2.St, PassesAt (L2.CX X.prog X.w) X σ E := fun σ => passAt (takes_of hs hf hex hx) σ
end Sb

set_option maxHeartbeats 1000000
/-! Sb, part D22: calls with keywords, constants of a class. -/
namespace Sb
open PySem PySem.Spec PyProof.Rows L2
/-! ### a def whose object is known, with its contract -/
def Core (P : Program) (w : World) (K : PySem.W.Frag) (mg : Str → Option Value) (base : Heap) (CX : CXT) (k : Nat) (x qn : Str) (st : Stmt) (dvs : List V) (kws : List (Str × V)) (f : Addr) (ps : List Str) (sp : Sp) : Prop :=
  ∃ fd, FunD K x qn (defArgs st) (defBody st) (defScope st) dvs kws f fd ∧ FnG P w K mg base CX k f fd ps sp
section
variable {P : Program} {w : World} {K : PySem.W.Frag} {mg : Str → Option Value} {base : Heap} {k : Nat} {x qn : Str} {st : Stmt} {ps N : List Str} {sp : Sp} {dvs dv : List V} {kws : List (Str × V)} {f : Addr}
theorem Core.has (C : Core P w K mg base (L2.CX P w) k x x st dvs kws (He.ga K x) ps sp) (g : mg x = some (.ref (He.ga K x))) (bnd : ∀ fd, FunD K x x (defArgs st) (defBody st) (defScope st) dvs kws (He.ga K x) fd → ∃ ds, Vals dv ds ∧ Binds K fd ps ds) : Has P w K mg base (L2.CX P w) k x ps dv sp := by
  obtain ⟨fd, F, G⟩ := C
  obtain ⟨ds, v, b⟩ := bnd fd F
  exact ⟨_, fd, ds, G, g, F.kp, b, v⟩
end
section
variable {K : PySem.W.Frag} {x qual : Str} {params : Arguments} {body : List Stmt} {scope : Scope} {dvs : List V} {kws : List (Str × V)} {f : Addr} {fd : FuncData} {ps : List Str}
end
section
variable {X : Cx} {k n : Nat} {f : Addr} {ps ks : List Str} {sp : Sp} {E : L2.St → XK} {x : Str} {p pos : Pos} {e : Expr} {es : List Expr} {kws : List Keyword} {t tk : TA} {gV : List V → List V → List V}
end
end Sb

set_option maxHeartbeats 1000000
/-! Sb, part D23: keyword calls of functions, classmethods and classes at the mirrors; constants of a class. -/
namespace Sb
open PySem PySem.Spec PyProof.Rows L2
/-! ### readings -/
section
variable {X : Cx} {M : MC} {E : L2.St → XK} {e : Expr} {kws : List Keyword} {ga : ME} {gl : ML} {t t' : TA} {nm : Option Str} {kpos : Pos}
end
/-! ### functions -/
section
variable {X : Cx} {M : MC} {E : L2.St → XK} {σ : L2.St} {H : Hp} {Q : VK} {m : MF} {π : List Nat} {dd p : List D} {dvs pv : List V} {ga gk : ML} {n j N : Nat}
end
section
variable {X : Cx} {M : MC} {E : L2.St → XK} {k n N : Nat} {f : Addr} {ps ks : List Str} {x : Str} {p pos : Pos} {e : Expr} {es : List Expr} {kws : List Keyword} {m : MF} {π : List Nat} {dd : List D} {dvs : List V} {ga gk : ML}
end
/-! ### classmethods, classes -/
section
variable {X : Cx} {k n : Nat} {f : Addr} {ps ks : List Str} {sp : Sp} {E : L2.St → XK} {x : Str} {p pos apos : Pos} {e o : Expr} {es : List Expr} {kws : List Keyword} {ta : TE} {t tk : TA} {gV : List V → List V → List V}
end
end Sb

set_option maxHeartbeats 1000000
/-! Sb, part D24: C.m(.., k = v), C(.., k = v), C.f (a whole number) at the mirrors. -/
namespace Sb
open PySem PySem.Spec PyProof.Rows L2
section
variable {X : Cx} {M : MC} {E : L2.St → XK} {k n N : Nat} {f q : Addr} {ps ks : List Str} {c x nm : Str} {p p' pos apos : Pos} {mc : Value} {pl : Sem Bool} {e : Expr} {es : List Expr} {kws : List Keyword} {m : MF} {π : List Nat} {dd : List D} {dvs : List V} {ga gk : ML}
end
/-! ### a new instance by keywords -/
section
variable {X : Cx} {k n : Nat} {f C : Addr} {ps ks : List Str} {sp : Sp} {E : L2.St → XK} {x : Str} {p pos : Pos} {e : Expr} {es : List Expr} {kws : List Keyword} {t tk : TA} {gV : List V → List V → List V}
end
section
variable {X : Cx} {M : MC} {E : L2.St → XK} {k n N : Nat} {f : Addr} {ps ks : List Str} {c x : Str} {p pos : Pos} {e : Expr} {es : List Expr} {kws : List Keyword} {m : MF} {π : List Nat} {dd : List D} {dvs : List V} {ga gk : ML}
/-! ### a constant of a class -/
end
end Sb

set_option maxHeartbeats 1000000
/-! Sb, part K11: cores of defs over cells, for calls with keywords. -/
namespace Sb
open PySem PySem.Spec PyProof.Rows L2
section
variable {P : Program} {w : World} {K : PySem.W.Frag} {mg : Str → Option Value} {base : Heap} {k n : Nat} {x qn : Str} {st : Stmt} {ps N : List Str} {sp sp' : Sp} {dvs dv : List V} {kws : List (Str × V)} {f : Addr} {cs : List Str} {g : KS} {m : MFk}
end
section
variable {K : PySem.W.Frag} {x qual : Str} {params : Arguments} {body : List Stmt} {scope : Scope} {kws : List (Str × V)} {f : Addr} {fd : FuncData} {ps : List Str}
end
end Sb

set_option maxHeartbeats 1000000
/-! Sb, part D25: sorted of tuples of whole numbers. -/
namespace Sb
open PySem PySem.Spec PyProof.Rows L2
def tupsD : List D → Option (List (List Int))
  | [] => some []
  | .tup ds :: r => (intsD ds).bind fun ns => (tupsD r).map (ns :: ·)
  | _ :: _ => none
theorem tupsD_ok : ∀ {ds : List D} {kz : List (List Int)}, tupsD ds = some kz → ds = kz.map fun ns => .tup (ns.map .int)
  | [], _, h => by cases h; rfl
  | .tup ds :: r, kz, h => by
    obtain ⟨ns, e1, h⟩ := Option.bind_eq_some_iff.mp (show (intsD ds).bind (fun ns => (tupsD r).map (ns :: ·)) = some kz from h)
    obtain ⟨k2, e2, rfl⟩ := Option.map_eq_some_iff.mp h
    rw [intsD_ok e1, tupsD_ok e2]
    rfl
  | .non :: _, _, h => by cases h
  | .bl _ :: _, _, h => by cases h
  | .int _ :: _, _, h => by cases h
  | .str _ :: _, _, h => by cases h
  | .scr _ :: _, _, h => by cases h
  | .list _ :: _, _, h => by cases h
  | .ins _ _ :: _, _, h => by cases h
  | .cls _ :: _, _, h => by cases h
  | .dict _ _ :: _, _, h => by cases h
def encT (ns : List Int) : PyData := .tuple (ns.map .int)
def sortTB : List D → Option (List D)
  | [.list xs] => (tupsD xs).bind fun kz => if (kz.all fun k => !k.isEmpty) = true then some ((kz.mergeSort (PySem.W.dataLe false encT)).map fun ns => .tup (ns.map .int)) else none
  | _ => none
open PySem.W in
theorem call_sortTD {X : Cx} {K : PySem.W.Frag} (eK : X.K = K) (room : X.A.units + 10 < cLine) : CallR X (.builtin "sorted") (rDnL K sortTB) := by
  subst eK
  intro pins s σ H xs us Q I rv h
  obtain ⟨F, ds, r, sm, rs, hf, q⟩ := h
  match ds, rs, hf with
  | [.list xs], .cons (.list hl r1) .nil, hf =>
    obtain ⟨kz, hk, hf⟩ := Option.bind_eq_some_iff.mp (show (tupsD xs).bind (fun kz => if (kz.all fun k => !k.isEmpty) = true then some ((kz.mergeSort (PySem.W.dataLe false encT)).map fun ns => D.tup (ns.map .int)) else none) = some r from hf)
    split at hf
    · rename_i ne
      cases hf
      have ex := tupsD_ok hk
      subst ex
      obtain ⟨its, rvs, pl, hz⟩ := I.list (SqL.of (sm _ _ hl))
      rw [Vals.ref1 rv]
      have gen : ∀ (kz : List (List Int)) (vs : List V) (its : List Value), Reps X.K F vs (kz.map fun ns => D.tup (ns.map .int)) → Vals vs its → EachIs (fun u (ns : List Int) => ∃ v, RelV v u ∧ Rep X.K F v (.tup (ns.map .int))) its kz ∧ EachIs (fun u (ns : List Int) => ∃ as, Reads s.heap u (encT ns) as) its kz := by
        intro kz
        induction kz with
        | nil => intro vs its r q; cases r; cases q; exact ⟨.nil, .nil⟩
        | cons n kz ih =>
          intro vs its r q
          cases r with
          | cons r rs =>
            cases q with
            | cons q qs =>
              obtain ⟨a, b⟩ := ih _ _ rs qs
              exact ⟨.cons ⟨_, q, r⟩ a, .cons ⟨[], reads_ints I sm r q⟩ b⟩
      obtain ⟨items, keys⟩ := gen kz _ _ r1 rvs
      have hal : AllAlike (kz.map encT) := AllAlike.of fun x y => by
        show alikeAll (x.map .int) (y.map .int) = true
        exact alike_ints x y
      have hsk : Sortable (kz.map encT) := .inl fun d hd => by
        obtain ⟨ns, m, rfl⟩ := List.mem_map.mp hd
        have := List.all_eq_true.mp ne ns m
        cases ns with
        | nil => cases this
        | cons n ns => exact ⟨_, _, rfl⟩
      have hu : ∀ b, b ∈ kz → X.A.units + 2 + (encT b).depth < cLine := fun ns _ => by
        have : (encT ns).depth = 1 := by
          show PyData.depthAll (ns.map .int) + 1 = 1
          rw [depth_ints]
        omega
      have lk : kz.length = its.length := items.length.symm
      have hZ : its.length ≤ sizeLine := by rw [← rvs.length]; exact hz
      refine sorted_data (enc := encT) pl.isList items keys hal hsk (by rw [lk]; exact hZ) hu fun out lo each => ?_
      have outs : ∀ (bs : List (List Int)) (ws : List Value), EachIs (fun u (ns : List Int) => ∃ v, RelV v u ∧ Rep X.K F v (.tup (ns.map .int))) ws bs → ∃ us, Vals us ws ∧ Reps X.K F us (bs.map fun ns => D.tup (ns.map .int)) := by
        intro bs
        induction bs with
        | nil => intro ws e; cases e; exact ⟨[], .nil, .nil⟩
        | cons b bs ih =>
          intro ws e
          cases e with
          | cons h t =>
            obtain ⟨us, a1, a2⟩ := ih _ t
            obtain ⟨v, b1, b2⟩ := h
            exact ⟨v :: us, .cons b1 a1, .cons b2 a2⟩
      obtain ⟨vs', v1, v2⟩ := outs _ _ each
      obtain ⟨ep, he'⟩ := PyProof.Rows.sortedAll_at s.heap its out.toArray
      have hlen : vs'.length ≤ sizeLine := by
        rw [v1.length, lo, lk]
        exact hZ
      exact ⟨.ref _, upd H (s.heap.objs.size + 1) (.lst vs'), I.laid (t' := s.toks) (fun _ _ => PyProof.Rows.sortedAll_old) (Nat.le_succ _) ⟨hlen, out, ep, v1, he'⟩, rfl, q _ vs' (I.hok.fresh (Nat.le_succ _)) v2⟩
    · cases hf
end Sb

set_option maxHeartbeats 1000000
/-! Sb, part D26: x, a, b = e, {}, {}. -/
namespace Sb
open PySem PySem.Spec PyProof.Rows L2
end Sb

set_option autoImplicit false
/-! x = [.. for y in ..], y being a name of the def, too: its slot is as before when the list is made. -/
namespace Sb
open PySem PySem.Spec PyProof.Rows L2
section
variable {X : Cx} {M : MC} {E : L2.St → XK} {gl : ML}
end
/-! xs.extend(t), t a tuple, too. -/
theorem extend_tup (l : Addr) (items : Array Value) (n : Nat) (b : Addr) (items2 : Array Value) (n2 : Nat) (dd : Option Addr) (sl : Array (Option Value)) (hs0 : ¬(!items.isEmpty && Builtin.List.listTooLong (items.size + items2.size)) = true) (hs1 : items.size ≤ sizeLine) (hs2 : items.size + items2.size ≤ sizeLine + 1) :
    Meets (Builtin.«list.extend» ⟨[.ref l, .ref b], []⟩) (fun _ R s => s.heap.get? l = some { cls := .type "list", dict := none, data := .seq items n, slots := #[] } ∧ s.heap.get? b = some { cls := .type "tuple", dict := dd, data := .seq items2 n2, slots := sl } ∧ R (.ok (.ret Value.none)) { s with heap := s.heap.update l (Obj.mapSeq fun x => x ++ items2), toks := s.toks }) :=
  .of_wp fun prog w A R s h => by
    obtain ⟨hp, g, d, tk, os⟩ := s; obtain ⟨hl, hb, h⟩ := h; have f1 := AutoSeq1.idx_int; have f2 := AutoSeq1.sub_tuple_tuple; have f3 := AutoSeq1.sub_list_list; have f4 := AutoSeq1.sub_tuple_list; have f5 := AutoSeq1.sub_list_tuple
    have hz' : (items ++ items2).size ≤ sizeLine + 1 := by rw [Array.size_append]; exact hs2
    wp_walk using (wpAny_updateSeq hl rfl (hz := hs1) (_hz' := hz')), AutoSeq1.wpAny_loadPart' hl, AutoSeq1.wpAny_loadPart' hb; exact ⟨_, rfl, h⟩
def rExtend2 (X : Cx) : V → List V → Hp → VK → Prop := fun x vs H Q => ∃ l b xs zs, x = .ref l ∧ vs = [.ref b] ∧ H l = some (.lst xs) ∧ (H b = some (.lst zs) ∨ SqT X.K H b zs) ∧ xs.length + zs.length ≤ sizeLine ∧ Q .non (upd H l (.lst (xs ++ zs)))
theorem mt_extend2 {X : Cx} : MtM X "list.extend" (rExtend2 X) := by
  intro pins s σ H x vs v us Q I rx rv h
  obtain ⟨l, b, xs, zs, rfl, rfl, hH, hB, hz, q⟩ := h
  rcases hB with hB | hB
  · exact mt_extend pins s σ H _ _ v us Q I rx rv ⟨l, b, xs, zs, rfl, rfl, hH, hB, hz, q⟩
  cases rx
  obtain ⟨u, rfl, ru⟩ := rv.one
  cases ru
  obtain ⟨z, its, n, r, hl, e⟩ := I.lstM hH
  obtain ⟨its2, r2, ⟨o, e2, hc, n2, hd⟩, z2⟩ := I.tuple hB
  obtain ⟨oc, od, oa, os⟩ := o
  have hc : oc = .type "tuple" := hc
  have hd : oa = .seq its2.toArray n2 := hd
  subst hc hd
  have hl2 := r2.length
  have hsz : its.toArray.size + its2.toArray.size ≤ sizeLine := by rw [List.size_toArray, List.size_toArray]; omega
  have hlong : ¬ (!its.toArray.isEmpty && Builtin.List.listTooLong (its.toArray.size + its2.toArray.size)) = true := by
    rw [notLongL hsz, Bool.and_false]
    exact Bool.false_ne_true
  refine call_meets F.slot_list_extend ⟨_, e, rfl⟩ F.entry_list_extend (F.args_list_extend_2 _ _)
    (extend_tup l its.toArray n b its2.toArray n2 od os hlong (by rw [List.size_toArray]; omega) (by omega)) ⟨e, e2, ?_⟩
  refine ⟨.non, _, I.lset (its' := its ++ its2) hH e (by simp) (r.append r2) ?_, rfl, q⟩
  rw [List.length_append]
  omega
def fExtend2 (xs : List D) : List D → Option (D × List D)
  | [.list zs] => if xs.length + zs.length ≤ sizeLine then some (.non, xs ++ zs) else none
  | [.tup zs] => if xs.length + zs.length ≤ sizeLine then some (.non, xs ++ zs) else none
  | _ => none
theorem md_extend2 {X : Cx} {K : PySem.W.Frag} (eK : X.K = K) : MtD K (rExtend2 X) fExtend2 := by
  subst eK
  intro q vs ws xs ds rr ys F H Q hq fq s rv rs hf k
  match ds, rs, hf with
  | [.list zs], .cons (.list h r) .nil, hf =>
    have hf : (if xs.length + zs.length ≤ sizeLine then some (D.non, xs ++ zs) else none) = some (rr, ys) := hf
    split at hf
    · rename_i hz
      cases hf
      exact ⟨q, _, vs, _, rfl, rfl, hq, .inl (s _ _ h), by rw [rv.length, r.length]; exact hz, k _ _ .non (rv.append r)⟩
    · cases hf
  | [.tup zs], .cons (.tup h r) .nil, hf =>
    have hf : (if xs.length + zs.length ≤ sizeLine then some (D.non, xs ++ zs) else none) = some (rr, ys) := hf
    split at hf
    · rename_i hz
      cases hf
      exact ⟨q, _, vs, _, rfl, rfl, hq, .inr (seqT_same s h), by rw [rv.length, r.length]; exact hz, k _ _ .non (rv.append r)⟩
    · cases hf
end Sb

set_option maxHeartbeats 1000000
/-! Sb, part D28: a != b where the two are one value: dicts with their keys in any order, own == inside; else by plain data or by the own ==. -/
namespace Sb
open PySem PySem.Spec PyProof.Rows L2

section
variable {X : Cx} {c : Str} {m : MF} {k : Nat} {f : Addr} {ps : List Str}
/-! ### a != b -/
end
section
variable {X : Cx} {M : MC} {E : L2.St → XK} {w : World} {c : Str} {m : MF} {k n : Nat} {f : Addr} {ps : List Str} {a b : Expr} {ga gb : ME} {pos : Pos}
end
end Sb

set_option maxHeartbeats 1000000
/-! Sb, part D29: C.m(a, ..), m a classmethod whose last parameter is a star. -/
namespace Sb
open PySem PySem.Spec PyProof.Rows L2

def StarF (P : Program) (w : World) (K : PySem.W.Frag) (mg : Str → Option Value) (base : Heap) (CX : CXT) (k : Nat) (f : Addr) (sp : Sp) : Prop :=
  ∀ (A : Around) (outer : List Env) (s : Shared) (H : Hp) (us : List Value) (vs : List V) (Q : VK) (E : XK), Still A → Room k A → Env0 P w K mg base A outer s H → Vals vs us → sp vs H Q E → codeAny (model P w) A (.call (.ref f) ⟨us, []⟩) (CR CX outer P w H s Q E) s
theorem StarF.up {P : Program} {w : World} {K : PySem.W.Frag} {mg : Str → Option Value} {base : Heap} {CX : CXT} {j k : Nat} {f : Addr} {sp : Sp} (F : StarF P w K mg base CX j f sp) (h : j ≤ k) : StarF P w K mg base CX k f sp := fun A o s H us vs Q E st hr => F A o s H us vs Q E st (hr.mono h)
section
variable {X : Cx} {M : MC} {E : L2.St → XK} {k : Nat} {f p : Addr} {c x m : Str} {mm : MF} {gl : ML} {e : Expr} {es : List Expr} {pos apos p' : Pos} {mc : Value} {pl : Sem Bool}
end
/-! ### an own list lent where the reader may raise -/
end Sb

/-! Sb, part D30: len, str, repr and x[i] of an instance by its class's own defs. -/
namespace Sb
open PySem PySem.Spec PyProof.Rows L2
section
variable {X : Cx} {k : Nat} {C f : Addr} {ps : List Str} {sp : Sp}
end
/-! by data -/
section
variable {X : Cx} {M : MC} {E : L2.St → XK} {k : Nat} {f : Addr} {ps : List Str} {m : MF} {c : Str} {gl : ML} {p : D → Bool} {P : V → Prop}
end
end Sb

/-! Sb, part D31: calls of len, str, repr of instances; x[i] and constants of instances; f-strings. -/
namespace Sb
open PySem PySem.Spec PyProof.Rows L2
section
variable {X : Cx} {M : MC} {E : L2.St → XK} {k : Nat} {f : Addr} {ps : List Str} {m : MF} {c : Str} {gl : ML} {e a b : Expr} {es : List Expr} {p pos : Pos} {ga gb : ME}
/-! ### x[i] -/
/-! ### a constant of the class, by an instance -/
/-! ### f-strings -/
end
/-! ### {n:02x} -/
section
open PySem.W PySem.Builtin
end
section
variable {X : Cx} {M : MC} {E : L2.St → XK} {a sp : Expr} {ga : ME} {pos : Pos}
end
end Sb

/-! Sb, part D33: xs[::-1] of a list. -/
namespace Sb
open PySem PySem.Spec PyProof.Rows L2
section
variable {X : Cx} {M : MC} {E : L2.St → XK} {e : Expr} {g : ME} {k : Nat} {p1 p2 p3 pos : Pos}
end
end Sb

/-! Sb, part D34: a text times a number. -/
namespace Sb
open PySem PySem.Spec PyProof.Rows L2
end Sb

set_option maxHeartbeats 1000000
/-! Sb, part D35: o.m(a, ..), m a method whose last parameter is a star. -/
namespace Sb
open PySem PySem.Spec PyProof.Rows L2
section
variable {X : Cx} {M : MC} {E : L2.St → XK} {k : Nat} {f C : Addr} {c m : Str} {mm : MF} {go : ME} {gl : ML} {o e : Expr} {es : List Expr} {ta : TE} {t : TA} {sp : Sp} {pos apos : Pos} {pl : Sem Bool}
end
/-! ### a field of an own object, which stays own -/
def fldO (f : Str) (cs : List Str) (i : Nat) : ME := fun l => match l[i]? with
  | some (some (.ow (.ins c fs))) => if c ∈ cs then Res.lift (fs.lookup f) l else .stuck
  | _ => un1 (fldD f cs) (rd i) l
section
variable {X : Cx} {M : MC} {E : L2.St → XK} {pos p' : Pos}
theorem me_fldO {i : Nat} {x f : Str} {cs : List Str} (eK : X.K = M.K) (T : FldF M.K f cs) (hN : X.N[i]? = some x) (hv : Vis X.env.scope x) (hb : attributeBase (.Name x p') f X.env (eval (.Name x p') X.env) = eval (.Name x p') X.env := by rfl) (hd : (x == ("__debug__" : Str)) = false := by decide) (hcd : (x == ("__classdict__" : Str)) = false := by decide) :
    PE X (.Attribute (.Name x p') f pos) (mE M E (fldO f cs i)) := by
  refine ⟨fun pins s σ H Q I z => ?_⟩
  obtain ⟨F, l, st, w⟩ := z
  unfold fldO at w
  split at w
  · rename_i c fs hl
    split at w
    · rename_i hc
      cases hf : fs.lookup f with
      | none => rw [hf] at w; exact w.elim
      | some d =>
        rw [hf] at w
        obtain ⟨v, ev, p, vs, rfl, hp, fp, ⟨dx, gs, rfl, rs⟩, own⟩ := st.slot i _ hl
        obtain ⟨u, eu, ru⟩ := rs.get hf
        refine (pe_fld (pe_var hN hv hd hcd) hb).run pins s σ H Q I ⟨_, ev, p, _, dx, gs, u, rfl, hp, ?_, ?_, eu, w F H (Gr.refl _ _ _ _) st u ru⟩
        · rw [eK]; exact (T c hc).1
        · rw [eK]; exact (T c hc).2
    · exact w.elim
  · exact (me_fld eK T (me_var hN hv hd hcd) hb).run pins s σ H Q I ⟨F, l, st, w⟩
end
end Sb

/-! Sb, part M18: tuple(o) of an own class with __iter__ (iter of a tuple in a field) and __len__. -/
namespace Sb
open PySem PySem.Spec PyProof.Rows L2
section
variable {X : Cx} {pins : List (Addr × Obj)} {σ : L2.St} {H : Hp} {s : Shared} {A1 : Around} {C fi fl : Addr} {fld : Str} {n : Nat} {fdI fdL : FuncData} {psI psL : List Str}
end
end Sb

/-! Sb, part D37: > of two lists. -/
namespace Sb
open PySem PySem.Spec PyProof.Rows L2
end Sb

set_option maxHeartbeats 1000000
/-! Sb, part D38: tuple(x), x an own list that stays own; x = o.m(..) whose result stays own. -/
namespace Sb
open PySem PySem.Spec PyProof.Rows L2
section
variable {X : Cx} {M : MC} {E : L2.St → XK} {i : Nat} {x : Str} {p p' pos : Pos}
end
/-! ### o.m(..) whose result stays own -/
section
variable {X : Cx} {M : MC} {E : L2.St → XK} {go : ME} {o : Expr} {pos apos : Pos}
end
end Sb

set_option maxHeartbeats 1000000
/-! Sb, part D39: objects of the body's own that have methods: o.m(..) with o in a slot, o.f += e, x = C(..) that stays own; ^ of whole numbers. -/
namespace Sb
open PySem PySem.Spec PyProof.Rows L2
/-! ### x = C(..), the body's own -/
def mkAppS (c : Str) (m : MF) (dd : List D) (as : List Arg) (l : Ld) : Res Sl := match resolve l as with
  | none => .stuck
  | some ss => if (slotsOf as).Nodup then (match m (.ow (.ins c []) :: (ss ++ dd.map .fr)) with
    | .ok (.fr .non) (s0 :: ss') => if ss'.length = ss.length + dd.length then .ok s0 (putA as (ss'.take ss.length) l) else .stuck
    | .err x f d (_ :: ss') => if ss'.length = ss.length + dd.length then .err x f d (putA as (ss'.take ss.length) l) else .stuck
    | _ => .stuck) else .stuck
def mkS (c : Str) (m : MF) (dd : List D) (g : MA) : MSl := fun l => (g l).bind fun as l1 => mkAppS c m dd as l1
section
variable {M : MC} {E : L2.St → XK} {σ : L2.St} {F H F' H' : Hp} {l : Ld} {as : List Arg} {vs dvs : List V} {dd : List D} {c : Str}
theorem make_coreS {m : MF} {n : Nat} {Q : VK} {Hb : Hp} (hb : ∀ a, H a = none → Hb a = none) (st : StM M F σ H l) (ar : ArgsR M.K F σ vs as) (dr : Reps M.K F dvs dd) (hn : as.length + 1 + dd.length = n)
    (w : wR M E σ F H l (fun r l' F' H' => ∀ v, RetN M σ Hb l' F' H' v r → Q v H') (mkAppS c m dd as l)) (x dx : Addr) (nx : H x = none) (ndx : H dx = none) (ne : dx ≠ x) :
    spM M.K n m (.ref x :: (vs ++ dvs)) (upd (upd H dx (.own x)) x (.ins (He.ga M.K c) dx [])) (fun v H2 => v = .non ∧ Q (.ref x) H2) (E σ) := by
  have sm : Same H (upd (upd H dx (.own x)) x (.ins (He.ga M.K c) dx [])) := fun b o e => by
    rw [upd_ne (ne_of_none e nx), upd_ne (ne_of_none e ndx)]
    exact e
  have fx : F x = none := st.sub.free nx
  have n0 : M.H0 x = none := st.domH _ nx
  unfold mkAppS at w
  split at w
  · exact w.elim
  · rename_i ss re
    split at w
    · rename_i nd
      have ok := args_ok st ar re nd
      have okd := args_dd ok dr
      have hl0 : (ss ++ dd.map Sl.fr).length = ss.length + dd.length := by rw [List.length_append, List.length_map]
      have okx : ArgsOk M.K F (upd (upd H dx (.own x)) x (.ins (He.ga M.K c) dx [])) (.ref x :: (vs ++ dvs)) (.ow (.ins c []) :: (ss ++ dd.map .fr)) := by
        refine ⟨by rw [List.length_cons, List.length_cons, okd.len], fun i s e => ?_, fun i j xs ys v a b cc d => ?_⟩
        · cases i with
          | zero =>
            cases e
            exact ⟨.ref x, rfl, x, _, rfl, upd_same, fx, dx, [], rfl, .nil⟩
          | succ i =>
            obtain ⟨v, ev, r⟩ := okd.at_ i s (by simpa using e)
            refine ⟨v, by simpa using ev, ?_⟩
            cases s with
            | fr d => exact r
            | ow o =>
              obtain ⟨p, h, z1, z2, z3, z4⟩ := r
              exact ⟨p, h, z1, sm _ _ z2, z3, z4⟩
        · have far : ∀ (k : Nat) (zs : O), (ss ++ dd.map Sl.fr)[k]? = some (.ow zs) → (vs ++ dvs)[k]? = some (.ref x) → False := by
            intro k zs z1 z2
            obtain ⟨u, eu, p, h, rfl, hp, _⟩ := okd.at_ k _ z1
            rw [z2] at eu
            cases eu
            rw [nx] at hp
            cases hp
          cases i with
          | zero =>
            cases j with
            | zero => rfl
            | succ j =>
              cases cc
              exact (far j ys (by simpa using b) (by simpa using d)).elim
          | succ i =>
            cases j with
            | zero =>
              cases d
              exact (far i xs (by simpa using a) (by simpa using cc)).elim
            | succ j => exact congrArg (· + 1) (okd.inj i j xs ys v (by simpa using a) (by simpa using b) (by simpa using cc) (by simpa using d))
      refine ⟨F, _, by rw [List.length_cons, hl0, resolve_len re]; omega, st.sub.trans sm, okx, ?_⟩
      -- from what the init leaves to what the caller sees
      have tail : ∀ F' H' s0 ss', After M.K F (upd (upd H dx (.own x)) x (.ins (He.ga M.K c) dx [])) F' H' (.ref x :: (vs ++ dvs)) (.ow (.ins c []) :: (ss ++ dd.map .fr)) (s0 :: ss') → After M.K F H F' H' (vs ++ dvs) (ss ++ dd.map .fr) ss' ∧ ArgOk M.K F' H' (.ref x) s0 := by
        intro F' H' s0 ss' af
        refine ⟨⟨af.ext, af.sub, fun p o h f n => af.frn p o (sm _ _ h) f fun z => ?_, fun a z => ?_, fun i s' xs a b => ?_, fun i d a => ?_⟩, ?_⟩
        · obtain ⟨i, xs, a, b⟩ := z
          cases i with
          | zero =>
            cases b
            rw [nx] at h
            cases h
          | succ i => exact n ⟨i, xs, by simpa using a, by simpa using b⟩
        · have := af.dom a z
          by_cases e : a = x
          · rw [e]
            exact nx
          · by_cases e2 : a = dx
            · rw [e2]
              exact ndx
            · rwa [upd_ne e, upd_ne e2] at this
        · obtain ⟨v, e, r⟩ := af.at_ (i + 1) s' xs (by simpa using a) (by simpa using b)
          exact ⟨v, by simpa using e, r⟩
        · simpa using af.fr (i + 1) d (by simpa using a)
        · obtain ⟨v, e, r⟩ := af.at_ 0 s0 _ rfl rfl
          cases e
          exact r
      split at w
      · rename_i s0 ss' hm
        rw [hm]
        split at w
        · rename_i hl
          intro v F' H' af rv
          cases rv
          refine ⟨rfl, ?_⟩
          obtain ⟨af', ax⟩ := tail F' H' s0 ss' af
          have hl' : (ss'.take ss.length).length = ss.length := by rw [List.length_take]; omega
          obtain ⟨st', gr⟩ := after_ok st ar re nd hl' (after_dd ok dr af')
          cases s0 with
          | fr d => exact w F' H' gr st' _ ax
          | ow o =>
            obtain ⟨p, h, z1, hp, fp, ow⟩ := ax
            cases z1
            have no : ¬ Own σ (putA as (ss'.take ss.length) l) x := fun o => by
              obtain ⟨⟨ws, z⟩, _⟩ := st.ownH (gr.own _ o)
              rw [nx] at z
              cases z
            exact w F' H' gr st' _ ⟨x, h, rfl, hp, fp, n0, hb x nx, no, ow⟩
        · exact w.elim
      · rename_i c' f d s0 ss' hm
        rw [hm]
        split at w
        · rename_i hl
          intro v y F' H' af hx fy h0 rv
          obtain ⟨af', _⟩ := tail F' H' s0 ss' af
          have hl' : (ss'.take ss.length).length = ss.length := by rw [List.length_take]; omega
          obtain ⟨st', gr⟩ := after_ok st ar re nd hl' (after_dd ok dr af')
          refine w v y F' H' gr st' hx fy ?_ rv
          by_cases e : y = x
          · rw [e]; exact nx
          · by_cases e2 : y = dx
            · rw [e2]; exact ndx
            · rwa [upd_ne e, upd_ne e2] at h0
        · exact w.elim
      · exact w.elim
    · exact w.elim
end
section
variable {X : Cx} {M : MC} {E : L2.St → XK} {k n : Nat} {f : Addr} {ps : List Str} {m : MF} {dvs : List V} {dd : List D} {x c : Str} {p pos : Pos} {e : Expr} {es : List Expr} {g : MA}
theorem msl_make (C : HasF X.prog X.w X.K X.mg X.base (L2.CX X.prog X.w) k f ps dvs (spM X.K n m)) (eK : X.K = M.K) (mk : Mk M.K (He.ga M.K c) f) (hmg : X.mg x = some (.ref (He.ga M.K c))) (dr : ∀ F, Reps M.K F dvs dd) (hn : (e :: es).length + 1 + dd.length = n) (px : ∀ σ, PassesAt (L2.CX X.prog X.w) X σ (E σ)) (sl : Still X.A) (room : Room (k + 1) X.A) (gl : Gl X x) (as : PA X (e :: es) (mA M E g)) (al : ALen g (e :: es).length)
    (nd : (x == ("__debug__" : Str)) = false := by decide) (st : starEach (e :: es) X.env = (false, eval e X.env) :: starEach es X.env := by rfl) (pl : (backTo pos (starEach es X.env)).any (·.1) = false := by rfl) :
    PE X (.Call (.Name x p) (e :: es) [] pos) (mSl M E (mkS c m dd g)) :=
  pe_imp (pe_makeS (C := He.ga M.K c) (by rw [eK]; exact mk) C sl room px gl hmg as nd st pl) fun σ H Q z => by
    obtain ⟨F, l, st, w⟩ := z
    refine ⟨F, l, st, ?_⟩
    cases hg : g l with
    | stuck => unfold mkS at w; rw [hg] at w; exact w.elim
    | err c f d l' => unfold mkS at w; rw [hg] at w; exact w
    | ok bs l1 =>
      unfold mkS at w
      rw [hg] at w
      intro F1 H1 g1 st1 vs ar
      rw [eK]
      exact make_coreS g1.dom st1 ar (dr F1) (by rw [al _ _ _ hg]; exact hn) (wR.later g1 w)
end
/-! ### o.m(..), o in a slot -/
def methO (c name : Str) (m : MF) (dd : List D) (i : Nat) (ga : MA) : ME := fun l => match l[i]? with
  | some (some (.ow (.ins c' fs))) => if c' = c ∧ (fs.lookup name).isNone = true then (ga l).bind fun as l2 => appE m dd (.sl i :: as) l2 else .stuck
  | _ => .stuck
section
variable {X : Cx} {M : MC} {E : L2.St → XK} {k n i : Nat} {f : Addr} {ps : List Str} {mm : MF} {dvs : List V} {dd : List D} {x c m : Str} {p pos apos : Pos} {e : Expr} {es : List Expr} {gA : MA} {pl : Sem Bool}
theorem me_methO (C : HasF X.prog X.w X.K X.mg X.base (L2.CX X.prog X.w) k f ps dvs (spM X.K n mm)) (eK : X.K = M.K) (T : MethF M.K c m f) (dr : ∀ F, Reps M.K F dvs dd) (hn : (e :: es).length + 1 + dd.length = n) (px : ∀ σ, PassesAt (L2.CX X.prog X.w) X σ (E σ)) (sl : Still X.A) (room : Room k X.A)
    (hN : X.N[i]? = some x) (hv : Vis X.env.scope x) (as : PA X (e :: es) (mA M E gA)) (al : ALen gA (e :: es).length) (hd : (x == ("__debug__" : Str)) = false := by decide) (hcd : (x == ("__classdict__" : Str)) = false := by decide)
    (hst : starEach (e :: es) X.env = (false, eval e X.env) :: starEach es X.env := by rfl) (hpl : (backTo pos (starEach es X.env)).any (·.1) = false := by rfl)
    (ht : eval (.Call (.Attribute (.Name x p) m apos) (e :: es) [] pos) X.env = (do
      let ov ← eval (.Name x p) X.env
      standAt apos.atName
      let (f, first) ← holding [ov] (getMethod ov m pl)
      callWith pos f first (backTo pos (starEach (e :: es) X.env)) (backToKw pos (keywordEach [] X.env))) := by rfl) :
    PE X (.Call (.Attribute (.Name x p) m apos) (e :: es) [] pos) (mE M E (methO c m mm dd i gA)) :=
  pe_imp (pe_methS (C := He.ga M.K c) (pe_var hN hv hd hcd) (by rw [eK]; exact T.cl) (by rw [eK]; exact T.me) C sl room px as hst hpl ht) fun σ H Q z => by
    obtain ⟨F, l, st, w⟩ := z
    unfold methO at w
    split at w
    · rename_i c' fs hl
      split at w
      · rename_i hc
        obtain ⟨rfl, hno⟩ := hc
        have hno : fs.lookup m = none := Option.isNone_iff_eq_none.mp hno
        obtain ⟨v, ev, q, vs, rfl, hp, fp, ⟨dx, gs, rfl, rs⟩, own⟩ := st.slot i _ hl
        refine ⟨_, ev, q, dx, gs, rfl, hp, rs.none_ hno, F, l, st, ?_⟩
        cases hg : gA l with
        | stuck => rw [hg] at w; exact w.elim
        | err c f d l' => rw [hg] at w; exact w
        | ok bs l2 =>
          rw [hg] at w
          intro F2 H2 g2 st2 vs ar
          rw [eK]
          exact call_core (vs := .ref q :: vs) st2 (.cons (show ArgR M.K F2 σ (.ref q) (.sl i) from ev) ar) (dr F2) (by
            have := al _ _ _ hg
            simp only [List.length_cons] at this hn ⊢
            omega) (wR.later g2 w)
      · exact w.elim
    · exact w.elim
theorem me_methO0 (C : HasF X.prog X.w X.K X.mg X.base (L2.CX X.prog X.w) k f ps dvs (spM X.K n mm)) (eK : X.K = M.K) (T : MethF M.K c m f) (dr : ∀ F, Reps M.K F dvs dd) (hn : 1 + dd.length = n) (px : ∀ σ, PassesAt (L2.CX X.prog X.w) X σ (E σ)) (sl : Still X.A) (room : Room k X.A)
    (hN : X.N[i]? = some x) (hv : Vis X.env.scope x) (hd : (x == ("__debug__" : Str)) = false := by decide) (hcd : (x == ("__classdict__" : Str)) = false := by decide)
    (ht : eval (.Call (.Attribute (.Name x p) m apos) [] [] pos) X.env = (do
      let ov ← eval (.Name x p) X.env
      standAt apos.atName
      let (f, first) ← holding [ov] (getMethod ov m pl)
      callWith pos f first (backTo pos (starEach [] X.env)) (backToKw pos (keywordEach [] X.env))) := by rfl) :
    PE X (.Call (.Attribute (.Name x p) m apos) [] [] pos) (mE M E (methO c m mm dd i aNil)) :=
  pe_imp (pe_methS0 (C := He.ga M.K c) (pe_var hN hv hd hcd) (by rw [eK]; exact T.cl) (by rw [eK]; exact T.me) C sl room px ht) fun σ H Q z => by
    obtain ⟨F, l, st, w⟩ := z
    unfold methO at w
    split at w
    · rename_i c' fs hl
      split at w
      · rename_i hc
        obtain ⟨rfl, hno⟩ := hc
        have hno : fs.lookup m = none := Option.isNone_iff_eq_none.mp hno
        obtain ⟨v, ev, q, vs, rfl, hp, fp, ⟨dx, gs, rfl, rs⟩, own⟩ := st.slot i _ hl
        refine ⟨_, ev, q, dx, gs, rfl, hp, rs.none_ hno, ?_⟩
        show spM X.K n mm (.ref q :: ([] ++ dvs)) H Q (E σ)
        rw [eK]
        exact call_core (vs := [.ref q]) (as := [.sl i]) st (.cons (show ArgR M.K F σ (.ref q) (.sl i) from ev) .nil) (dr F) (by simpa using hn) w
      · exact w.elim
    · exact w.elim
/-! ### o.f += e, o in a slot -/
def sFldAug (g2 : Int → Int → Int) (i : Nat) (f : Str) (cs : List Str) (g : ME) : MS := fun l => match l[i]? with
  | some (some (.ow (.ins c fs))) => if c ∈ cs then (match fs.lookup f with
    | some (.int a) => (g l).thn fun d l1 => match d with
      | .int b => (match l1[i]? with
        | some (some (.ow (.ins c' fs'))) => if c' = c ∧ fs'.length < 1000 then .nx (l1.set i (some (.ow (.ins c (putFD f (.int (g2 a b)) fs'))))) else .stuck
        | _ => .stuck)
      | _ => .stuck
    | _ => .stuck) else .stuck
  | _ => .stuck
theorem ms_fldAug {op : Operator} {g2 : Int → Int → Int} {i : Nat} {x f : Str} {cs : List Str} {p tpos : Pos} {value : Expr} {ga : ME} (hop : InOp X op (fun x y H Q => ∃ i j, x = .int i ∧ y = .int j ∧ Q (.int (g2 i j)) H)) (eK : X.K = M.K) (T : FldF M.K f cs) (hN : X.N[i]? = some x) (hv : Vis X.env.scope x) (hval : PE X value (mE M E ga)) (hd : (x == ("__debug__" : Str)) = false := by decide) (hcd : (x == ("__classdict__" : Str)) = false := by decide) :
    PS X (.AugAssign (.Attribute (.Name x p) f tpos) op value pos) (mS M E (sFldAug g2 i f cs ga)) :=
  ps_imp (ps_fldaug (pe_var hN hv hd hcd) hval hop) fun Dn σ H z => by
    obtain ⟨F, l, st, w⟩ := z
    unfold sFldAug at w
    split at w
    · rename_i c fs hl
      split at w
      · rename_i hc
        obtain ⟨v, ev, q, vs, rfl, hp, fp, ⟨dx, gs, rfl, rs⟩, own⟩ := st.slot i _ hl
        split at w
        · rename_i a0 hf
          obtain ⟨u, eu, ru⟩ := rs.get hf
          cases ru
          refine ⟨_, ev, q, _, dx, gs, _, rfl, hp, by rw [eK]; exact (T c hc).1, by rw [eK]; exact (T c hc).2, eu, F, l, st, ?_⟩
          refine (wS.thn st w).mono fun d l1 F1 H1 g1 st1 w1 y ry => ?_
          split at w1
          · rename_i b0
            cases ry
            split at w1
            · rename_i c' fs' hl1
              split at w1
              · rename_i hc'
                obtain ⟨rfl, hlen⟩ := hc'
                obtain ⟨u, eu', q', _, rfl, hq, fq, ⟨dx', gs', rfl, rs'⟩, _⟩ := st1.slot i _ hl1
                rw [ev] at eu'
                cases eu'
                obtain ⟨st2, _⟩ := st1.put (vs := .ins (He.ga M.K c') dx' (putF f (.int (g2 a0 b0)) gs')) (ys := .ins c' (putFD f (.int (g2 a0 b0)) fs')) hl1 ev ⟨dx', _, rfl, repF_put (.int _) rs'⟩
                exact ⟨a0, b0, rfl, rfl, dx', gs', hq, by rw [repF_len rs']; exact hlen, w1 σ F1 _ (Same.refl _) st2⟩
              · exact w1.elim
            · exact w1.elim
          · exact w1.elim
        · exact w.elim
      · exact w.elim
    · exact w.elim
end
/-! ### ^ of whole numbers -/
def xorD := intD (fun _ _ => true) fun i j => Builtin.bitXor i j
theorem op_xorD {X : Cx} {K : PySem.W.Frag} : OpR X (binaryOp .BitXor) (rD2 K xorD) := op_intD (C' := fun _ _ => True) (opr_imp op_xor fun x y H Q ⟨i, j, a, b, _, q⟩ => ⟨i, j, a, b, q⟩) fun _ _ _ => trivial
end Sb

set_option maxHeartbeats 1000000
/-! Sb, part D41: x in d, d an own dict that stays own. -/
namespace Sb
open PySem PySem.Spec PyProof.Rows L2
noncomputable def dinO (w : World) (i : Nat) (g : ME) : ME := fun l => (g l).bind fun d l1 => match l1[i]? with
  | some (some (.ow (.dct w' kvs))) => Res.lift (dinD w false d (.dict w' kvs)) l1
  | _ => .stuck
section
variable {X : Cx} {M : MC} {E : L2.St → XK} {a : Expr} {ga : ME} {i : Nat} {x : Str} {p pos : Pos} {w : World}
theorem op_dinO (hr : X.A.units + 64 < cLine) : OpR X (compareOp .In) (fun x y H Q => ∃ F kvs d b p ob es, Same F H ∧ Rep X.K F x d ∧ y = .ref p ∧ H p = some (ObjO p ob) ∧ DctOk p ob es ∧ RepD X.K F X.w es kvs ∧ (kvs.map fun p => nkOf p.1).Nodup ∧ dinD X.w false d (.dict X.w kvs) = some b ∧ ∀ v, Rep X.K F v b → Q v H) := by
  intro pins s σ H x y v u Q I rx ry h
  obtain ⟨F, kvs, d, b, a, o, es, sm, rd, rfl, ha, ok, rr, nd, hf, q⟩ := h
  unfold dinD at hf
  dsimp only at hf
  rw [if_pos rfl] at hf
  obtain ⟨k, hk, hf⟩ := Option.bind_eq_some_iff.mp hf
  split at hf
  · rename_i h8
    cases hf
    cases ry
    obtain ⟨xs, dn, few, p1, p2⟩ := dict_nk I sm ha ok rr nd
    have same : (atN xs k).isSome = (dFind k kvs).isSome := by
      cases hd : dFind k kvs with
      | none => rw [(find_rel rr p1 p2).2 hd]; rfl
      | some e =>
        obtain ⟨z, v', hz, _⟩ := (find_rel rr p1 p2).1 e hd
        rw [hz]; rfl
    have key := key_nk I sm d _ _ k rd rx hk
    have fin := q (.bl ((dFind k kvs).isSome != false)) (.bl _)
    refine in_nk (in1_room hr) key h8 ok.sys dn ⟨_, H, I.tok _, ?_, fin⟩
    rw [same, Bool.bne_false]
    rfl
  · cases hf
def rDinO (X : Cx) : R2 := fun x y H Q => ∃ F kvs d b p ob es, Same F H ∧ Rep X.K F x d ∧ y = .ref p ∧ H p = some (ObjO p ob) ∧ DctOk p ob es ∧ RepD X.K F X.w es kvs ∧ (kvs.map fun p => nkOf p.1).Nodup ∧ dinD X.w false d (.dict X.w kvs) = some b ∧ ∀ v, Rep X.K F v b → Q v H
theorem dinO_t (eK : X.K = M.K) {σ : L2.St} {H : Hp} {Q : VK} (z : mE M E (dinO X.w i ga) σ H Q) : tOp (rDinO X) (mE M E ga) (fun σ H Q => ∃ v, σ[i]? = some (some v) ∧ Q v H) σ H Q := by
  obtain ⟨F, l, st, w⟩ := z
  refine ⟨F, l, st, (wR.bind w).mono fun d l1 F1 H1 g1 st1 w1 v rv => ?_⟩
  split at w1
  · rename_i w' kvs hl
    obtain ⟨o, eo, p, vs, rfl, hp, fp, ⟨ob, es, rfl, k, rr, nd⟩, own⟩ := st1.slot i _ hl
    refine ⟨_, eo, ?_⟩
    cases hd : dinD X.w false d (.dict w' kvs) with
    | none => rw [hd] at w1; exact w1.elim
    | some b =>
      rw [hd] at w1
      have ww : w' = X.w := by
        unfold dinD at hd
        dsimp only at hd
        split at hd
        · assumption
        · cases hd
      subst ww
      exact ⟨F1, kvs, d, b, p, ob, es, st1.sub, by rw [eK]; exact rv, rfl, hp, k, by rw [eK]; exact rr, nd, hd, fun v rv => w1 F1 H1 (Gr.refl _ _ _ _) st1 v (by rw [← eK]; exact rv)⟩
  · exact w1.elim
theorem mt_dinO (eK : X.K = M.K) (ew : X.w = w) (hr : X.A.units + 64 < cLine) (ha : PE X a (mE M E ga)) (hN : X.N[i]? = some x) (hv : Vis X.env.scope x) (hm : behindInMarks .In (.Name x p) = false) (hd : (x == ("__debug__" : Str)) = false := by decide) (hcd : (x == ("__classdict__" : Str)) = false := by decide) :
    PT X (.Compare a [.In] [.Name x p] pos) (mT M E (asB (dinO w i ga))) := by
  subst ew
  exact pt_imp (pt_cmpR (op_dinO hr) ha (pe_var hN hv hd hcd) hm) fun σ H Q z => dinO_t eK (mT_asB z)
end
end Sb

namespace Sb
open PySem PySem.Spec PyProof.Rows L2
noncomputable def b__law_bag : MS := (sSeq (sSet 2 (ifE (asB (bin2 ltD (rd 1) (lenSl 0))) (ixSl 0 (rd 1)) (bin2 addD (bin2 mulD (cst (.int 11)) (rd 1)) (cst (.int 5)))))
  (sRetL (lstL (vCons (ifE (asB (bin2 geD (rd 2) (bin2 powD (cst (.int 10)) (cst (.int 18))))) (rd 2) (cst (.int 0))) (vCons (bin2 modD (calB intB (vCons (rd 2) vNil)) (cst (.int 1000000007))) (vCons (cst (.int 0)) (vCons (slE (rd 0) oNone (oSome (cst (.int 64)))) (vCons (cst (.int 4)) vNil))))))))
noncomputable def m__law_bag : MF := runF b__law_bag 3 [2]
noncomputable def b__law_take : MS := (sSeq (sIf (asB (bin2 gtD (ixSl 0 (cst (.int 0))) (cst (.int 0)))) (sSeq (sSet 2 (bin2 modD (calB intB (vCons (ixSl 0 (cst (.int 0))) vNil)) (rd 1)))
  (sSeq (sPut 0 (cst (.int 0)) (bin2 fdivD (ixSl 0 (cst (.int 0))) (rd 1)))
  (sRet (rd 2)))) sNil)
  (sSeq (sPut 0 (cst (.int 2)) (bin2 addD (ixSl 0 (cst (.int 2))) (cst (.int 1))))
  (sSeq (sSet 3 (ifE (asB (bin2 neD (ixSl 0 (cst (.int 3))) (frz (lstL vNil)))) (bin2 ixD (ixSl 0 (cst (.int 3))) (bin2 modD (calB intB (vCons (ixSl 0 (cst (.int 2))) vNil)) (calB lenB (vCons (ixSl 0 (cst (.int 3))) vNil)))) (cst (.int 7))))
  (sSeq (sPut 0 (cst (.int 1)) (bin2 modD (calB intB (vCons (bin2 addD (bin2 addD (bin2 mulD (ixSl 0 (cst (.int 1))) (cst (.int 69069))) (bin2 modD (calB intB (vCons (rd 3) vNil)) (cst (.int 999983)))) (bin2 mulD (cst (.int 31)) (ixSl 0 (cst (.int 2))))) vNil)) (cst (.int 2147483647))))
  (sSeq (sSet 4 (bin2 modD (calB intB (vCons (bin2 addD (bin2 mulD (ixSl 0 (cst (.int 1))) (ixSl 0 (cst (.int 1)))) (bin2 mulD (cst (.int 77773)) (ixSl 0 (cst (.int 2))))) vNil)) (cst (.int 4294967291))))
  (sRet (bin2 modD (calB intB (vCons (bin2 fdivD (rd 4) (cst (.int 64))) vNil)) (rd 1))))))))
noncomputable def m__law_take : MF := runF b__law_take 5 [2, 3, 4]
noncomputable def _law_code_c0 : MT := (asB (bin2 gtD (rd 0) (cst (.int 0))))
noncomputable def _law_code_b1 : MS := (sSeq (sSet 1 (bin2 addD (frz (lstL (vCons (bin2 modD (calB intB (vCons (rd 0) vNil)) (cst (.int 256))) vNil))) (rd 1)))
  (sSet 0 (bin2 fdivD (rd 0) (cst (.int 256)))))
noncomputable def b__law_code : MS := (sSeq (sIf (asB (bin2 ltD (rd 0) (cst (.int 192)))) (sRet (frz (lstL (vCons (rd 0) vNil)))) sNil)
  (sSeq (sSet 1 (frz (lstL vNil)))
  (sSeq (whileM _law_code_c0 _law_code_b1)
  (sRet (bin2 addD (frz (lstL (vCons (bin2 addD (cst (.int 191)) (lenSl 1)) vNil))) (rd 1))))))
noncomputable def m__law_code : MF := runF b__law_code 2 [0, 1]
noncomputable def _law_number_b0 : MS := (sSet 2 (bin2 addD (bin2 mulD (rd 2) (cst (.int 256))) (callE m__law_take [] (aSl 0 (aVal (cst (.int 256)) aNil)))))
noncomputable def b__law_number : MS := (sSeq (sSet 1 (callE m__law_take [] (aSl 0 (aVal (cst (.int 5)) aNil))))
  (sSeq (sIf (asB (bin2 eqD (rd 1) (cst (.int 0)))) (sRet (callE m__law_take [] (aSl 0 (aVal (cst (.int 6)) aNil)))) sNil)
  (sSeq (sIf (asB (bin2 eqD (rd 1) (cst (.int 1)))) (sRet (bin2 addD (bin2 ixD (frz (lstL (vCons (cst (.int 190)) (vCons (cst (.int 254)) (vCons (cst (.int 65534)) (vCons (bin2 subD (bin2 powD (cst (.int 256)) (cst (.int 62))) (cst (.int 2))) (vCons (bin2 subD (bin2 powD (cst (.int 256)) (cst (.int 63))) (cst (.int 4))) vNil))))))) (callE m__law_take [] (aSl 0 (aVal (cst (.int 5)) aNil)))) (callE m__law_take [] (aSl 0 (aVal (cst (.int 4)) aNil))))) sNil)
  (sSeq (sSet 2 (cst (.int 0)))
  (sSeq (sForT (tName 3) (rng1 (vCons (bin2 addD (cst (.int 1)) (callE m__law_take [] (aSl 0 (aVal (bin2 ixD (frz (lstL (vCons (cst (.int 1)) (vCons (cst (.int 3)) (vCons (cst (.int 63)) vNil))))) (bin2 subD (rd 1) (cst (.int 2)))) aNil)))) vNil)) _law_number_b0)
  (sRet (rd 2)))))))
noncomputable def m__law_number : MF := runF b__law_number 4 [1, 2, 3]
noncomputable def b_is_integer : MS := (sRet (andE (isiE tab_int (rd 0)) (notE (isiE tab_bool (rd 0)))))
noncomputable def m_is_integer : MF := runF b_is_integer 1 []
noncomputable def b_is_byte : MS := (sRet (andE (callE m_is_integer [] (aSl 0 aNil)) (chn leD leD (cst (.int 0)) (rd 0) (cst (.int 255)))))
noncomputable def m_is_byte : MF := runF b_is_byte 1 []
noncomputable def base_bytes_c0 : MT := (asB (bin2 gtD (rd 0) (cst (.int 0))))
noncomputable def base_bytes_b1 : MS := (sSeq (sEx (mtS 1 fAppend (vCons (bin2 andD (rd 0) (cst (.int 255))) vNil)))
  (sSet 0 (bin2 shrD (rd 0) (cst (.int 8)))))
noncomputable def b_base_bytes : MS := (sSeq (sSetL 1 (lstL vNil))
  (sSeq (whileM base_bytes_c0 base_bytes_b1)
  (sSeq (sEx (mtS 1 fReverse vNil))
  (sRetS 1))))
noncomputable def m_base_bytes : MF := runF b_base_bytes 2 [0, 1]
noncomputable def b_plain_code : MS := (sSeq (sIf (asB (bin2 ltD (rd 0) (cst (.int 192)))) (sRet (frz (lstL (vCons (rd 0) vNil)))) sNil)
  (sSeq (sSet 1 (callE m_base_bytes [] (aSl 0 aNil)))
  (sRet (bin2 addD (frz (lstL (vCons (bin2 addD (cst (.int 191)) (lenSl 1)) vNil))) (rd 1)))))
noncomputable def m_plain_code : MF := runF b_plain_code 2 [1]
noncomputable def b_is_char_code : MS := (sRet (orE (andE (chn leD leD (cst (.int 32)) (rd 0) (cst (.int 126))) (bin2 neD (rd 0) (cst (.int 37)))) (orE (bin2 eqD (rd 0) (cst (.int 9))) (bin2 eqD (rd 0) (cst (.int 10))))))
noncomputable def m_is_char_code : MF := runF b_is_char_code 1 []
noncomputable def integer_row_e0 : ME := (bin2 subD (cst (.int 255)) (rd 1))
noncomputable def b_integer_row : MS := (sSeq (sIf (asB (bin2 geD (rd 0) (cst (.int 0)))) (sRet (bin2 addD (frz (lstL (vCons (cst (.int 5)) vNil))) (callE m_plain_code [] (aSl 0 aNil)))) sNil)
  (sRet (bin2 addD (frz (lstL (vCons (cst (.int 4)) vNil))) (frz (lcL [1] (tName 1) yes integer_row_e0 (itE (callE m_plain_code [] (aVal (bin2 subD (un1 negD (cst (.int 1))) (rd 0)) aNil))))))))
noncomputable def m_integer_row : MF := runF b_integer_row 2 [1]
noncomputable def b_Document___init__ : MS := (sSeq (sFldM 0 "data" ["Document"] (rd 1))
  (sFldM 0 "kind" ["Document"] (bin2 ixD (cst (.tup (vKINDS.map .str))) (ixSl 1 (cst (.int 0))))))
noncomputable def m_Document___init__ : MF := runF b_Document___init__ 2 []
noncomputable def b_document_of_row : MS := (sRet (mkE "Document" m_Document___init__ [] (aVal (calB tupleB (vCons (rd 0) vNil)) aNil)))
noncomputable def m_document_of_row : MF := runF b_document_of_row 1 []
noncomputable def b_LooseReader___init__ : MS := (sSeq (sFldM 0 "row" ["LooseReader"] (calB tupleB (vCons (rd 1) vNil)))
  (sFldM 0 "spot" ["LooseReader"] (cst (.int 0))))
noncomputable def m_LooseReader___init__ : MF := runF b_LooseReader___init__ 2 []
noncomputable def b_LooseReader_look : MS := (sSeq (sIf (asB (bin2 geD (fldO "spot" ["LooseReader"] 0) (calB lenB (vCons (fldO "row" ["LooseReader"] 0) vNil)))) (sRaise "Unfinished" "at" (calB lenB (vCons (fldO "row" ["LooseReader"] 0) vNil))) sNil)
  (sSeq (sIf (notT (tru (callE m_is_byte [] (aVal (bin2 ixD (fldO "row" ["LooseReader"] 0) (fldO "spot" ["LooseReader"] 0)) aNil)))) (sRaise "WrongByte" "at" (fldO "spot" ["LooseReader"] 0)) sNil)
  (sRet (bin2 ixD (fldO "row" ["LooseReader"] 0) (fldO "spot" ["LooseReader"] 0)))))
noncomputable def m_LooseReader_look : MF := runF b_LooseReader_look 1 []
noncomputable def b_LooseReader_take : MS := (sSeq (sSet 1 (methO "LooseReader" "look" m_LooseReader_look [] 0 aNil))
  (sSeq (sFldAug (fun i j => i + j) 0 "spot" ["LooseReader"] (cst (.int 1)))
  (sRet (rd 1))))
noncomputable def m_LooseReader_take : MF := runF b_LooseReader_take 2 [1]
noncomputable def LooseReader_take_code_b0 : MS := (sSet 4 (bin2 addD (bin2 mulD (rd 4) (cst (.int 256))) (bin2 xorD (methO "LooseReader" "take" m_LooseReader_take [] 0 aNil) (rd 2))))
noncomputable def b_LooseReader_take_code : MS := (sSeq (sSet 2 (cst (.int 0)))
  (sSeq (sIf (truSl 1) (sSet 2 (cst (.int 255))) sNil)
  (sSeq (sSet 3 (bin2 xorD (methO "LooseReader" "look" m_LooseReader_look [] 0 aNil) (rd 2)))
  (sSeq (sIf (asB (bin2 eqD (rd 3) (cst (.int 255)))) (sRaise "WrongByte" "at" (fldO "spot" ["LooseReader"] 0)) sNil)
  (sSeq (sFldAug (fun i j => i + j) 0 "spot" ["LooseReader"] (cst (.int 1)))
  (sSeq (sIf (asB (bin2 ltD (rd 3) (cst (.int 192)))) (sRet (rd 3)) sNil)
  (sSeq (sSet 4 (cst (.int 0)))
  (sSeq (sForT (tName 5) (rng1 (vCons (bin2 subD (rd 3) (cst (.int 191))) vNil)) LooseReader_take_code_b0)
  (sRet (rd 4))))))))))
noncomputable def m_LooseReader_take_code : MF := runF b_LooseReader_take_code 6 [2, 3, 4, 5]
noncomputable def LooseReader_take_gaps_b0 : MS := (sEx (methO "LooseReader" "take" m_LooseReader_take [] 0 aNil))
noncomputable def LooseReader_take_gaps_c1 : MT := (asB (bin2 eqD (methO "LooseReader" "look" m_LooseReader_look [] 0 aNil) (cst (.int 15))))
noncomputable def LooseReader_take_gaps_b2 : MS := (sSeq (sFldAug (fun i j => i + j) 0 "spot" ["LooseReader"] (cst (.int 1)))
  (sSeq (sSet 1 (methO "LooseReader" "take_code" m_LooseReader_take_code [] 0 (aVal (cst (.bl false)) aNil)))
  (sForT (tName 2) (rng1 (vCons (rd 1) vNil)) LooseReader_take_gaps_b0)))
noncomputable def b_LooseReader_take_gaps : MS := (whileM LooseReader_take_gaps_c1 LooseReader_take_gaps_b2)
noncomputable def m_LooseReader_take_gaps : MF := runF b_LooseReader_take_gaps 3 [1, 2]
noncomputable def b_LooseReader_take_kind : MS := (sSeq (sEx (methO "LooseReader" "take_gaps" m_LooseReader_take_gaps [] 0 aNil))
  (sSeq (sSet 2 (methO "LooseReader" "look" m_LooseReader_look [] 0 aNil))
  (sSeq (sIf (asB (bin2 notInD (rd 2) (rd 1))) (sRaise "WrongByte" "at" (fldO "spot" ["LooseReader"] 0)) sNil)
  (sSeq (sFldAug (fun i j => i + j) 0 "spot" ["LooseReader"] (cst (.int 1)))
  (sRet (rd 2))))))
noncomputable def m_LooseReader_take_kind : MF := runF b_LooseReader_take_kind 3 [2]
noncomputable def LooseReader_take_content_b0 : MS := (sSeq (sSet 5 (methO "LooseReader" "look" m_LooseReader_look [] 0 aNil))
  (sSeq (sIf (andT (asB (bin2 eqD (rd 1) (cst (.int 7)))) (notT (tru (callE m_is_char_code [] (aSl 5 aNil))))) (sRaise "WrongByte" "at" (fldO "spot" ["LooseReader"] 0)) sNil)
  (sSeq (sFldAug (fun i j => i + j) 0 "spot" ["LooseReader"] (cst (.int 1)))
  (sEx (mtS 3 fAppend (vCons (rd 5) vNil))))))
noncomputable def b_LooseReader_take_content : MS := (sSeq (sSet 2 (methO "LooseReader" "take_code" m_LooseReader_take_code [] 0 (aVal (cst (.bl false)) aNil)))
  (sSeq (sSetL 3 (lstL vNil))
  (sSeq (sForT (tName 4) (rng1 (vCons (rd 2) vNil)) LooseReader_take_content_b0)
  (sRetS 3))))
noncomputable def m_LooseReader_take_content : MF := runF b_LooseReader_take_content 6 [2, 3, 4, 5]
noncomputable def LooseReader_take_scalar_c0 : MT := (asB (bin2 neD (methO "LooseReader" "take_kind" m_LooseReader_take_kind [] 0 (aVal (tupE (vCons (cst (.int 0)) (vCons (bin2 subD (rd 1) (cst (.int 5))) vNil))) aNil)) (cst (.int 0))))
noncomputable def LooseReader_take_scalar_b1 : MS := (sEx (mtS 2 fExtend (vCons (methO "LooseReader" "take_content" m_LooseReader_take_content [] 0 (aVal (bin2 subD (rd 1) (cst (.int 5))) aNil)) vNil)))
noncomputable def b_LooseReader_take_scalar : MS := (sSeq (sIf (asB (bin2 leD (rd 1) (cst (.int 3)))) (sRet (frz (lstL (vCons (rd 1) vNil)))) sNil)
  (sSeq (sIf (asB (bin2 eqD (rd 1) (cst (.int 4)))) (sRet (callE m_integer_row [] (aVal (bin2 subD (un1 negD (cst (.int 1))) (methO "LooseReader" "take_code" m_LooseReader_take_code [] 0 (aVal (cst (.bl true)) aNil))) aNil))) sNil)
  (sSeq (sIf (asB (bin2 eqD (rd 1) (cst (.int 5)))) (sRet (callE m_integer_row [] (aVal (methO "LooseReader" "take_code" m_LooseReader_take_code [] 0 (aVal (cst (.bl false)) aNil)) aNil))) sNil)
  (sSeq (sIf (orT (asB (bin2 eqD (rd 1) (cst (.int 6)))) (asB (bin2 eqD (rd 1) (cst (.int 7))))) (sSeq (sSet 2 (methO "LooseReader" "take_content" m_LooseReader_take_content [] 0 (aSl 1 aNil)))
  (sRet (bin2 addD (bin2 addD (frz (lstL (vCons (rd 1) vNil))) (callE m_plain_code [] (aVal (lenSl 2) aNil))) (rd 2)))) sNil)
  (sSeq (sSetL 2 (lstL vNil))
  (sSeq (whileM LooseReader_take_scalar_c0 LooseReader_take_scalar_b1)
  (sRet (bin2 addD (bin2 addD (frz (lstL (vCons (bin2 subD (rd 1) (cst (.int 5))) vNil))) (callE m_plain_code [] (aVal (lenSl 2) aNil))) (rd 2)))))))))
noncomputable def m_LooseReader_take_scalar : MF := runF b_LooseReader_take_scalar 3 [2]
noncomputable def LooseReader_take_parts_b0 (w : World) (rec : MF) : MS := (sEx (mtS 1 fAppend (vCons (methO "LooseReader" "take_item" rec [] 0 (aVal (bin2 subD (rd 2) (cst (.int 1))) aNil)) vNil)))
noncomputable def b_LooseReader_take_parts (w : World) (rec : MF) : MS := (sSeq (sSet 3 (methO "LooseReader" "take_code" m_LooseReader_take_code [] 0 (aVal (cst (.bl false)) aNil)))
  (sForT (tName 4) (rng1 (vCons (rd 3) vNil)) (LooseReader_take_parts_b0 w rec)))
noncomputable def m_LooseReader_take_parts (w : World) (rec : MF) : MF := runF (b_LooseReader_take_parts w rec) 5 [3, 4]
noncomputable def LooseReader_take_pairs_b0 (w : World) (rec : MF) : MS := (sSeq (sSet 5 (methO "LooseReader" "take_kind" m_LooseReader_take_kind [] 0 (aVal (cst vKEYS) aNil)))
  (sSeq (sSet 6 (bin2 subD (fldO "spot" ["LooseReader"] 0) (cst (.int 1))))
  (sSeq (sSet 7 (calB tupleB (vCons (methO "LooseReader" "take_scalar" m_LooseReader_take_scalar [] 0 (aSl 5 aNil)) vNil)))
  (sSeq (sIf (asB (dinO w 1 (rd 7))) (sRaise "DuplicateKey" "at" (rd 6)) sNil)
  (sDPut w 1 (rd 7) (methO "LooseReader" "take_item" rec [] 0 (aVal (bin2 subD (rd 2) (cst (.int 1))) aNil)))))))
noncomputable def b_LooseReader_take_pairs (w : World) (rec : MF) : MS := (sSeq (sSet 3 (methO "LooseReader" "take_code" m_LooseReader_take_code [] 0 (aVal (cst (.bl false)) aNil)))
  (sForT (tName 4) (rng1 (vCons (rd 3) vNil)) (LooseReader_take_pairs_b0 w rec)))
noncomputable def m_LooseReader_take_pairs (w : World) (rec : MF) : MF := runF (b_LooseReader_take_pairs w rec) 8 [3, 4, 5, 6, 7]
noncomputable def LooseReader_take_list_c0 (w : World) (rec : MF) : MT := (asB (bin2 neD (methO "LooseReader" "take_kind" m_LooseReader_take_kind [] 0 (aVal (tupE (vCons (cst (.int 0)) (vCons (cst (.int 8)) vNil))) aNil)) (cst (.int 0))))
noncomputable def LooseReader_take_list_b1 (w : World) (rec : MF) : MS := (sEx (methO "LooseReader" "take_parts" (m_LooseReader_take_parts w rec) [] 0 (aSl 3 (aSl 2 aNil))))
noncomputable def LooseReader_take_list_b2 (w : World) (rec : MF) : MS := (sEx (mtS 4 fExtend (vCons (rd 5) vNil)))
noncomputable def b_LooseReader_take_list (w : World) (rec : MF) : MS := (sSeq (sSetL 3 (lstL vNil))
  (sSeq (sIf (asB (bin2 eqD (rd 1) (cst (.int 8)))) (sEx (methO "LooseReader" "take_parts" (m_LooseReader_take_parts w rec) [] 0 (aSl 3 (aSl 2 aNil)))) (whileM (LooseReader_take_list_c0 w rec) (LooseReader_take_list_b1 w rec)))
  (sSeq (sSetL 4 (bin2L catD (frz (lstL (vCons (cst (.int 8)) vNil))) (callE m_plain_code [] (aVal (lenSl 3) aNil))))
  (sSeq (sForT (tName 5) (itE (rd 3)) (LooseReader_take_list_b2 w rec))
  (sRetS 4)))))
noncomputable def m_LooseReader_take_list (w : World) (rec : MF) : MF := runF (b_LooseReader_take_list w rec) 6 [3, 4, 5]
noncomputable def LooseReader_take_map_c0 (w : World) (rec : MF) : MT := (asB (bin2 neD (methO "LooseReader" "take_kind" m_LooseReader_take_kind [] 0 (aVal (tupE (vCons (cst (.int 0)) (vCons (cst (.int 9)) vNil))) aNil)) (cst (.int 0))))
noncomputable def LooseReader_take_map_b1 (w : World) (rec : MF) : MS := (sEx (methO "LooseReader" "take_pairs" (m_LooseReader_take_pairs w rec) [] 0 (aSl 3 (aSl 2 aNil))))
noncomputable def LooseReader_take_map_b2 (w : World) (rec : MF) : MS := (sSeq (sEx (mtS 4 fExtend2 (vCons (rd 5) vNil)))
  (sEx (mtS 4 fExtend2 (vCons (bin2 (dixD w) (rd 3) (rd 5)) vNil))))
noncomputable def b_LooseReader_take_map (w : World) (rec : MF) : MS := (sSeq (sSetN 3 (dict0 w))
  (sSeq (sIf (asB (bin2 eqD (rd 1) (cst (.int 9)))) (sEx (methO "LooseReader" "take_pairs" (m_LooseReader_take_pairs w rec) [] 0 (aSl 3 (aSl 2 aNil)))) (whileM (LooseReader_take_map_c0 w rec) (LooseReader_take_map_b1 w rec)))
  (sSeq (sSetL 4 (bin2L catD (frz (lstL (vCons (cst (.int 9)) vNil))) (callE m_plain_code [] (aVal (calB lenBD (vCons (rd 3) vNil)) aNil))))
  (sSeq (sForT (tName 5) (itE (frz (calL sortTB (vCons (frz (calL listBD (vCons (rd 3) vNil))) vNil)))) (LooseReader_take_map_b2 w rec))
  (sRetS 4)))))
noncomputable def m_LooseReader_take_map (w : World) (rec : MF) : MF := runF (b_LooseReader_take_map w rec) 6 [3, 4, 5]
noncomputable def b_LooseReader_take_item (w : World) (rec : MF) : MS := (sSeq (sSet 2 (cst vSCALARS))
  (sSeq (sIf (asB (bin2 gtD (rd 1) (cst (.int 0)))) (sSet 2 (bin2 addD (cst vSCALARS) (cst vNESTS))) sNil)
  (sSeq (sSet 3 (methO "LooseReader" "take_kind" m_LooseReader_take_kind [] 0 (aSl 2 aNil)))
  (sSeq (sIf (asB (bin2 inD (rd 3) (cst vSCALARS))) (sRet (methO "LooseReader" "take_scalar" m_LooseReader_take_scalar [] 0 (aSl 3 aNil))) sNil)
  (sSeq (sIf (asB (bin2 eqD (rd 3) (cst (.int 10)))) (sSeq (sSet 4 (methO "LooseReader" "take_code" m_LooseReader_take_code [] 0 (aVal (cst (.bl false)) aNil)))
  (sRet (bin2 addD (bin2 addD (frz (lstL (vCons (cst (.int 10)) vNil))) (callE m_plain_code [] (aSl 4 aNil))) (methO "LooseReader" "take_item" rec [] 0 (aVal (bin2 subD (rd 1) (cst (.int 1))) aNil))))) sNil)
  (sSeq (sIf (orT (asB (bin2 eqD (rd 3) (cst (.int 8)))) (asB (bin2 eqD (rd 3) (cst (.int 13))))) (sRet (methO "LooseReader" "take_list" (m_LooseReader_take_list w rec) [] 0 (aSl 3 (aSl 1 aNil)))) sNil)
  (sRet (methO "LooseReader" "take_map" (m_LooseReader_take_map w rec) [] 0 (aSl 3 (aSl 1 aNil))))))))))
noncomputable def m_LooseReader_take_item (w : World) : Nat → MF
  | 0 => fun _ => .stuck
  | n + 1 => runF (b_LooseReader_take_item w (m_LooseReader_take_item w n)) 5 [2, 3, 4]
noncomputable def b_shorten (w : World) : MS := (sSeq (sSetS 1 (mkS "LooseReader" m_LooseReader___init__ [] (aSl 0 aNil)))
  (sSeq (sSet 2 (methO "LooseReader" "take_item" (m_LooseReader_take_item w 26) [] 1 (aVal (cst (.int (24))) aNil)))
  (sSeq (sIf (asB (bin2 ltD (fldO "spot" ["LooseReader"] 1) (calB lenB (vCons (fldO "row" ["LooseReader"] 1) vNil)))) (sRaise "WrongByte" "at" (fldO "spot" ["LooseReader"] 1)) sNil)
  (sRet (callE m_document_of_row [] (aSl 2 aNil))))))
noncomputable def m_shorten (w : World) : MF := runF (b_shorten w) 3 [1, 2]
noncomputable def _law_digits_c0 : MT := (asB (bin2 gtD (rd 0) (cst (.int 0))))
noncomputable def _law_digits_b1 : MS := (sSeq (sSet 1 (bin2 addD (frz (lstL (vCons (bin2 modD (calB intB (vCons (rd 0) vNil)) (cst (.int 256))) vNil))) (rd 1)))
  (sSet 0 (bin2 fdivD (rd 0) (cst (.int 256)))))
noncomputable def b__law_digits : MS := (sSeq (sSet 1 (frz (lstL vNil)))
  (sSeq (whileM _law_digits_c0 _law_digits_b1)
  (sRet (rd 1))))
noncomputable def m__law_digits : MF := runF b__law_digits 2 [0, 1]
noncomputable def b__law_loose_code : MS := (sSeq (sSet 2 (callE m__law_digits [] (aSl 1 aNil)))
  (sSeq (sSet 3 (bin2 subD (cst (.int 63)) (lenSl 2)))
  (sSeq (sSet 4 (bin2 ixD (frz (lstL (vCons (cst (.int 0)) (vCons (cst (.int 1)) (vCons (rd 3) (vCons (callE m__law_take [] (aSl 0 (aVal (bin2 addD (rd 3) (cst (.int 1))) aNil))) vNil)))))) (callE m__law_take [] (aSl 0 (aVal (cst (.int 4)) aNil)))))
  (sSeq (sSet 5 (bin2 addD (bin2 mulDL (frz (lstL (vCons (cst (.int 0)) vNil))) (calB min2 (vCons (calB intB (vCons (rd 4) vNil)) (vCons (bin2 subD (cst (.int 63)) (lenSl 2)) vNil)))) (rd 2)))
  (sRet (ifE (asB (bin2 neD (rd 5) (frz (lstL vNil)))) (bin2 addD (frz (lstL (vCons (bin2 addD (cst (.int 191)) (lenSl 5)) vNil))) (rd 5)) (frz (lstL (vCons (cst (.int 0)) vNil)))))))))
noncomputable def m__law_loose_code : MF := runF b__law_loose_code 6 [2, 3, 4, 5]
noncomputable def _law_right_e0 (w : World) : ME := (bin2 subD (cst (.int 255)) (rd 4))
noncomputable def _law_right_e1 (w : World) : ME := (bin2 subD (cst (.int 255)) (rd 4))
noncomputable def b__law_right (w : World) : MS := (sSeq (sPar 2 3 (vCons (callE m__law_loose_code [] (aSl 0 (aSl 1 aNil))) (vCons (callE m__law_code [] (aSl 1 aNil)) vNil)))
  (sSeq (sIf (orT (asB (bin2 neD (un1 (fldD "data" ["Document"]) (callE (m_shorten w) [] (aVal (bin2 addD (frz (lstL (vCons (cst (.int 5)) vNil))) (rd 2)) aNil))) (calB tupleB (vCons (bin2 addD (frz (lstL (vCons (cst (.int 5)) vNil))) (rd 3)) vNil)))) (asB (bin2 neD (un1 (fldD "data" ["Document"]) (callE (m_shorten w) [] (aVal (bin2 addD (bin2 addD (frz (lstL (vCons (cst (.int 10)) vNil))) (rd 2)) (frz (lstL (vCons (cst (.int 3)) vNil)))) aNil))) (calB tupleB (vCons (bin2 addD (bin2 addD (frz (lstL (vCons (cst (.int 10)) vNil))) (rd 3)) (frz (lstL (vCons (cst (.int 3)) vNil)))) vNil))))) (sRet (cst (.bl false))) sNil)
  (sSeq (sSet 5 (frz (lcL [4] (tName 4) yes (_law_right_e0 w) (itE (rd 2)))))
  (sSeq (sIf (asB (bin2 neD (un1 (fldD "data" ["Document"]) (callE (m_shorten w) [] (aVal (calB tupleB (vCons (bin2 addD (frz (lstL (vCons (cst (.int 4)) vNil))) (rd 5)) vNil)) aNil))) (calB tupleB (vCons (bin2 addD (frz (lstL (vCons (cst (.int 4)) vNil))) (frz (lcL [4] (tName 4) yes (_law_right_e1 w) (itE (rd 3))))) vNil)))) (sRet (cst (.bl false))) sNil)
  (sSeq (sSet 6 (ifE (asB (bin2 eqD (callE m__law_take [] (aSl 0 (aVal (cst (.int 4)) aNil))) (cst (.int 0)))) (callE m__law_take [] (aSl 0 (aVal (cst (.int 300)) aNil))) (callE m__law_take [] (aSl 0 (aVal (cst (.int 4)) aNil)))))
  (sSeq (sPar 2 3 (vCons (callE m__law_loose_code [] (aSl 0 (aSl 6 aNil))) (vCons (callE m__law_code [] (aSl 6 aNil)) vNil)))
  (sSeq (sSet 7 (bin2 mulDL (frz (lstL (vCons (callE m__law_take [] (aSl 0 (aVal (cst (.int 256)) aNil))) vNil))) (rd 6)))
  (sSeq (sIf (asB (bin2 neD (un1 (fldD "data" ["Document"]) (callE (m_shorten w) [] (aVal (bin2 addD (bin2 addD (frz (lstL (vCons (cst (.int 6)) vNil))) (rd 2)) (rd 7)) aNil))) (calB tupleB (vCons (bin2 addD (bin2 addD (frz (lstL (vCons (cst (.int 6)) vNil))) (rd 3)) (rd 7)) vNil)))) (sRet (cst (.bl false))) sNil)
  (sSeq (sSet 7 (bin2 mulDL (frz (lstL (vCons (bin2 addD (cst (.int 32)) (callE m__law_take [] (aSl 0 (aVal (cst (.int 5)) aNil)))) vNil))) (rd 6)))
  (sSeq (sIf (asB (bin2 neD (un1 (fldD "data" ["Document"]) (callE (m_shorten w) [] (aVal (bin2 addD (bin2 addD (frz (lstL (vCons (cst (.int 7)) vNil))) (rd 2)) (rd 7)) aNil))) (calB tupleB (vCons (bin2 addD (bin2 addD (frz (lstL (vCons (cst (.int 7)) vNil))) (rd 3)) (rd 7)) vNil)))) (sRet (cst (.bl false))) sNil)
  (sSeq (sSet 7 (bin2 mulDL (frz (lstL (vCons (bin2 addD (cst (.int 1)) (callE m__law_take [] (aSl 0 (aVal (cst (.int 3)) aNil)))) vNil))) (rd 6)))
  (sSeq (sIf (asB (bin2 neD (un1 (fldD "data" ["Document"]) (callE (m_shorten w) [] (aVal (bin2 addD (bin2 addD (frz (lstL (vCons (cst (.int 8)) vNil))) (rd 2)) (rd 7)) aNil))) (calB tupleB (vCons (bin2 addD (bin2 addD (frz (lstL (vCons (cst (.int 8)) vNil))) (rd 3)) (rd 7)) vNil)))) (sRet (cst (.bl false))) sNil)
  (sSeq (sSet 8 (bin2 addD (bin2 addD (frz (lstL (vCons (cst (.int 6)) vNil))) (rd 2)) (bin2 mulDL (frz (lstL (vCons (cst (.int 7)) vNil))) (rd 6))))
  (sRet (bin2 eqD (un1 (fldD "data" ["Document"]) (callE (m_shorten w) [] (aVal (bin2 addD (bin2 addD (bin2 addD (frz (lstL (vCons (cst (.int 9)) (vCons (cst (.int 192)) (vCons (cst (.int 1)) vNil))))) (rd 8)) (slE (rd 7) oNone (oSome (cst (.int 1))))) (bin2 mulDL (frz (lstL (vCons (cst (.int 2)) vNil))) (calB intB (vCons (bin2 eqD (rd 6) (cst (.int 0))) vNil)))) aNil))) (calB tupleB (vCons (bin2 addD (bin2 addD (bin2 addD (bin2 addD (frz (lstL (vCons (cst (.int 9)) (vCons (cst (.int 1)) (vCons (cst (.int 6)) vNil))))) (rd 3)) (bin2 mulDL (frz (lstL (vCons (cst (.int 7)) vNil))) (rd 6))) (slE (rd 7) oNone (oSome (cst (.int 1))))) (bin2 mulDL (frz (lstL (vCons (cst (.int 2)) vNil))) (calB intB (vCons (bin2 eqD (rd 6) (cst (.int 0))) vNil)))) vNil)))))))))))))))))
noncomputable def m__law_right (w : World) : MF := runF (b__law_right w) 9 [2, 3, 4, 5, 6, 7, 8]
noncomputable def law_b0 (w : World) : MS := (sSeq (sSetL 2 (callL m__law_bag [] (aSl 0 (aSl 1 aNil))))
  (sIf (orT (notT (tru (callE (m__law_right w) [] (aSl 2 (aVal (callE m__law_number [] (aSl 2 aNil)) aNil))))) (notT (tru (callE (m__law_right w) [] (aSl 2 (aVal (callE m__law_take [] (aSl 2 (aVal (cst (.int 192)) aNil))) aNil)))))) (sRet (cst (.bl false))) sNil))
noncomputable def b_law (w : World) : MS := (sSeq (sForT (tName 1) (rng1 (vCons (calB max2 (vCons (cst (.int 2)) (vCons (calB min2 (vCons (cst (.int 20)) (vCons (lenSl 0) vNil))) vNil))) vNil)) (law_b0 w))
  (sRet (cst (.bl true))))
noncomputable def m_law (w : World) : MF := runF (b_law w) 3 [1, 2]
end Sb
namespace Sb
open PySem PySem.Spec PyProof.Rows L2
/-! ### codes of numbers -/
def digs (n : Nat) : List Int := if h : n = 0 then [] else digs (n / 256) ++ [((n % 256 : Nat) : Int)]
termination_by n
decreasing_by omega
theorem digs_zero : digs 0 = [] := by rw [digs]; simp
theorem digs_pos {n : Nat} (h : n ≠ 0) : digs n = digs (n / 256) ++ [((n % 256 : Nat) : Int)] := by rw [digs]; simp [h]
def codeN (n : Nat) : List Int := if n < 192 then [(n : Int)] else (191 + (digs n).length : Int) :: digs n
theorem digs_len : ∀ (k n : Nat), n < 256 ^ k → (digs n).length ≤ k
  | 0, n, h => by
    have e : n = 0 := by simp at h; omega
    rw [e, digs_zero]
    exact Nat.le_refl 0
  | k + 1, n, h => by
    by_cases e : n = 0
    · rw [e, digs_zero]
      exact Nat.zero_le _
    · rw [digs_pos e, List.length_append]
      have := digs_len k (n / 256) (by rw [Nat.pow_succ] at h; omega)
      simp only [List.length_cons, List.length_nil]
      omega
theorem digs_byte (n : Nat) : ∀ d ∈ digs n, 0 ≤ d ∧ d ≤ 255 := by
  induction n using Nat.strongRecOn with
  | ind n ih =>
    by_cases e : n = 0
    · rw [e, digs_zero]
      exact fun d h => (nomatch h)
    · rw [digs_pos e]
      intro d h
      rcases List.mem_append.mp h with h | h
      · exact ih (n / 256) (by omega) d h
      · have := List.mem_singleton.mp h
        omega
theorem codeN_len {n : Nat} (h : n < 256 ^ 63) : (codeN n).length ≤ 64 := by
  unfold codeN
  split
  · exact (by decide : 1 ≤ 64)
  · have := digs_len 63 n h
    simp only [List.length_cons]
    omega
theorem codeN_byte {n : Nat} (h : n < 256 ^ 63) : ∀ d ∈ codeN n, 0 ≤ d ∧ d ≤ 255 := by
  unfold codeN
  split
  · intro d m
    have := List.mem_singleton.mp m
    omega
  · intro d m
    have l := digs_len 63 n h
    rcases List.mem_cons.mp m with m | m
    · omega
    · exact digs_byte n d m
theorem and255 {n : Int} (h : 0 ≤ n) : Builtin.bitAnd n 255 = ((n.toNat % 256 : Nat) : Int) := by
  obtain ⟨k, rfl⟩ := Int.eq_ofNat_of_zero_le h
  show ((k &&& 255 : Nat) : Int) = _
  rw [show (255 : Nat) = 2 ^ 8 - 1 by decide, Nat.and_two_pow_sub_one_eq_mod]
  rfl

/-! ### codes in order -/
def vlO (ds : List Int) : Int := ds.foldl (fun n d => n * 256 + d) 0
/-! ### the order of codes -/
theorem fold_shift : ∀ (ds : List Int) (s : Int), ds.foldl (fun n d => n * 256 + d) s = s * 256 ^ ds.length + vlO ds
  | [], s => by
    show s = s * 256 ^ 0 + 0
    omega
  | d :: ds, s => by
    have e1 := fold_shift ds (s * 256 + d)
    have e2 := fold_shift ds (0 * 256 + d)
    show ds.foldl _ (s * 256 + d) = s * 256 ^ (ds.length + 1) + ds.foldl _ (0 * 256 + d)
    rw [e1, e2, Int.pow_succ, Int.add_mul, Int.add_mul, Int.mul_assoc, Int.mul_comm 256 (256 ^ ds.length)]
    omega
theorem vlO_cons (d : Int) (ds : List Int) : vlO (d :: ds) = d * 256 ^ ds.length + vlO ds := by
  show ds.foldl _ (0 * 256 + d) = _
  rw [fold_shift, show (0 : Int) * 256 + d = d by omega]
theorem vlO_snoc (ds : List Int) (d : Int) : vlO (ds ++ [d]) = vlO ds * 256 + d := by
  unfold vlO
  rw [List.foldl_append]
  rfl
theorem pow_pos256 (k : Nat) : (0 : Int) < 256 ^ k := Int.pow_pos (by decide)
theorem vlO_bounds : ∀ (ds : List Int), (∀ d ∈ ds, 0 ≤ d ∧ d ≤ 255) → 0 ≤ vlO ds ∧ vlO ds < 256 ^ ds.length
  | [], _ => ⟨Int.le_refl 0, by show (0 : Int) < 256 ^ 0; decide⟩
  | d :: ds, h => by
    obtain ⟨i1, i2⟩ := vlO_bounds ds fun x m => h x (List.mem_cons_of_mem _ m)
    obtain ⟨d0, d1⟩ := h d List.mem_cons_self
    have p := pow_pos256 ds.length
    rw [vlO_cons, List.length_cons, Int.pow_succ]
    have m1 : 0 ≤ d * 256 ^ ds.length := Int.mul_nonneg d0 (Int.le_of_lt p)
    have m2 : d * 256 ^ ds.length ≤ 255 * 256 ^ ds.length := Int.mul_le_mul_of_nonneg_right d1 (Int.le_of_lt p)
    omega
theorem vlO_digs (n : Nat) : vlO (digs n) = n := by
  induction n using Nat.strongRecOn with
  | ind n ih =>
    by_cases e : n = 0
    · rw [e, digs_zero]
      rfl
    · rw [digs_pos e, vlO_snoc, ih (n / 256) (by omega)]
      omega
theorem digs_first (n : Nat) : ∀ d r, digs n = d :: r → 1 ≤ d := by
  induction n using Nat.strongRecOn with
  | ind n ih =>
    intro d r h
    by_cases e : n = 0
    · rw [e, digs_zero] at h
      cases h
    · rw [digs_pos e] at h
      cases q : digs (n / 256) with
      | nil =>
        rw [q] at h
        have hd : ((n % 256 : Nat) : Int) = d := (List.cons.inj h).1
        have z : n / 256 = 0 := by
          have v := vlO_digs (n / 256)
          rw [q] at v
          have v' : (0 : Int) = ((n / 256 : Nat) : Int) := v
          omega
        omega
      | cons x y =>
        rw [q] at h
        have hd : x = d := (List.cons.inj h).1
        have := ih (n / 256) (by omega) x y q
        omega
theorem digs_ne {n : Nat} (h : n ≠ 0) : digs n ≠ [] := by
  rw [digs_pos h]
  simp
theorem digs_low {n : Nat} (h : n ≠ 0) : ((256 ^ ((digs n).length - 1) : Nat) : Int) ≤ n := by
  cases q : digs n with
  | nil => exact (digs_ne h q).elim
  | cons d r =>
    have d1 := digs_first n d r q
    have v := vlO_digs n
    rw [q, vlO_cons] at v
    have b := vlO_bounds r fun x m => digs_byte n x (by rw [q]; exact List.mem_cons_of_mem _ m)
    have p := pow_pos256 r.length
    have m1 : 1 * 256 ^ r.length ≤ d * 256 ^ r.length := Int.mul_le_mul_of_nonneg_right d1 (Int.le_of_lt p)
    show ((256 ^ (r.length + 1 - 1) : Nat) : Int) ≤ n
    rw [Nat.add_sub_cancel]
    have e : ((256 ^ r.length : Nat) : Int) = (256 : Int) ^ r.length := by exact_mod_cast rfl
    omega
theorem digs_high (n : Nat) : (n : Int) < ((256 ^ (digs n).length : Nat) : Int) := by
  have b := vlO_bounds (digs n) (digs_byte n)
  rw [vlO_digs] at b
  have e : ((256 ^ (digs n).length : Nat) : Int) = (256 : Int) ^ (digs n).length := by exact_mod_cast rfl
  omega
theorem lex_digits : ∀ (xs ys : List Int), xs.length = ys.length → (∀ d ∈ xs, 0 ≤ d ∧ d ≤ 255) → (∀ d ∈ ys, 0 ≤ d ∧ d ≤ 255) → HT.lexLt xs ys = decide (vlO xs < vlO ys)
  | [], [], _, _, _ => rfl
  | [], _ :: _, e, _, _ => by cases e
  | _ :: _, [], e, _, _ => by cases e
  | x :: xs, y :: ys, e, hx, hy => by
    have el : xs.length = ys.length := by simpa using e
    have hx' : ∀ d ∈ xs, 0 ≤ d ∧ d ≤ 255 := fun d m => hx d (List.mem_cons_of_mem _ m)
    have hy' : ∀ d ∈ ys, 0 ≤ d ∧ d ≤ 255 := fun d m => hy d (List.mem_cons_of_mem _ m)
    obtain ⟨x0, x1⟩ := vlO_bounds xs hx'
    obtain ⟨y0, y1⟩ := vlO_bounds ys hy'
    rw [HT.lexLt_cons, vlO_cons, vlO_cons]
    rw [← el] at y1 ⊢
    have p := pow_pos256 xs.length
    by_cases c : x = y
    · rw [if_pos c, lex_digits xs ys el hx' hy', c]
      apply decide_eq_decide.mpr
      omega
    · rw [if_neg c]
      apply decide_eq_decide.mpr
      generalize (256 : Int) ^ xs.length = M at *
      constructor
      · intro lt
        have := Int.mul_le_mul_of_nonneg_right (show x + 1 ≤ y by omega) (Int.le_of_lt p)
        rw [Int.add_mul] at this
        omega
      · intro lt
        refine Int.not_le.mp fun ge => ?_
        have := Int.mul_le_mul_of_nonneg_right (show y + 1 ≤ x by omega) (Int.le_of_lt p)
        rw [Int.add_mul] at this
        omega
theorem lex_code (n m : Nat) : HT.lexLt (codeN n) (codeN m) = decide (n < m) := by
  unfold codeN
  by_cases a : n < 192
  · rw [if_pos a]
    by_cases b : m < 192
    · rw [if_pos b, HT.lexLt_cons]
      by_cases c : (n : Int) = m
      · rw [if_pos c, decide_eq_false (by omega)]
        rfl
      · rw [if_neg c]
        apply decide_eq_decide.mpr
        omega
    · have l : 1 ≤ (digs m).length := List.length_pos_iff.mpr (digs_ne (by omega))
      rw [if_neg b, HT.lexLt_cons, if_neg (by omega)]
      apply decide_eq_decide.mpr
      omega
  · rw [if_neg a]
    have ln : 1 ≤ (digs n).length := List.length_pos_iff.mpr (digs_ne (by omega))
    by_cases b : m < 192
    · rw [if_pos b, HT.lexLt_cons, if_neg (by omega)]
      apply decide_eq_decide.mpr
      omega
    · have lm : 1 ≤ (digs m).length := List.length_pos_iff.mpr (digs_ne (by omega))
      rw [if_neg b, HT.lexLt_cons]
      have hn := digs_high n
      have hm := digs_high m
      have gn := digs_low (n := n) (by omega)
      have gm := digs_low (n := m) (by omega)
      by_cases c : (digs n).length = (digs m).length
      · rw [if_pos (by omega), lex_digits _ _ c (digs_byte n) (digs_byte m), vlO_digs, vlO_digs]
        apply decide_eq_decide.mpr
        omega
      · rw [if_neg (by omega)]
        apply decide_eq_decide.mpr
        constructor
        · intro lt
          have le : (digs n).length ≤ (digs m).length - 1 := by omega
          have := Nat.pow_le_pow_right (n := 256) (by decide) le
          omega
        · intro lt
          refine Int.not_le.mp fun ge => ?_
          have le : (digs m).length ≤ (digs n).length - 1 := by omega
          have := Nat.pow_le_pow_right (n := 256) (by decide) le
          omega
/-! ### numbers, by data -/
theorem size_1000 {n : Nat} (h : n ≤ 100000) : n ≤ sizeLine := Nat.le_trans h (by decide)
theorem lt_1000 {n : Nat} (h : n < 100000) : n < sizeLine := Nat.lt_of_lt_of_le h (by decide)
theorem e_is_integer_int (i : Int) : m_is_integer [.fr (.int i)] = .ok (.fr (.bl true)) [.fr (.int i)] := by rfl
theorem e_is_byte_int (i : Int) : m_is_byte [.fr (.int i)] = .ok (.fr (.bl (decide (0 ≤ i ∧ i ≤ 255)))) [.fr (.int i)] := by
  by_cases h : 0 ≤ i
  · simp [m_is_byte, b_is_byte, runF, frees, back, sRet, asB, andE, notE, rd, cst, callE, appE, resolve, slotsOf, putA, aSl, aNil, has?, chn, Res.bind, Res.thn, Res.lift, SRes.seq, Sl.toD, O.toD, cmpD, leD, isiE, tyK, e_is_integer_int, h]
  · simp [m_is_byte, b_is_byte, runF, frees, back, sRet, asB, andE, notE, rd, cst, callE, appE, resolve, slotsOf, putA, aSl, aNil, has?, chn, Res.bind, Res.thn, Res.lift, SRes.seq, Sl.toD, O.toD, cmpD, leD, isiE, tyK, e_is_integer_int, h]
theorem e_base_loop (N : Nat) : ∀ (n : Nat) (ds : List Int), ds.length + (digs n).length ≤ N → N ≤ 1000 →
    whileM base_bytes_c0 base_bytes_b1 [some (.fr (.int n)), some (.ow (.lst (ds.map .int)))] = .nx [some (.fr (.int 0)), some (.ow (.lst ((ds ++ (digs n).reverse).map .int)))] := by
  intro n
  induction n using Nat.strongRecOn with
  | ind n ih =>
    intro ds hl hN
    rw [whileM_eq]
    by_cases e : n = 0
    · subst e
      simp [base_bytes_c0, sSeq, sEx, sSet, asB, bin2, rd, cst, vNil, vCons, has?, isOw, mtS, Res.bind, Res.thn, Res.lift, SRes.seq, loopR, Sl.toD, O.toD, fAppend, intD, shrD, andD, cmpD, gtD, digs_zero]
    · have pos : (0 : Int) < n := by omega
      have hd := digs_pos e
      have l1 : (digs n).length = (digs (n / 256)).length + 1 := by rw [hd]; simp
      have a1 : Builtin.bitAnd (n : Int) 255 = ((n % 256 : Nat) : Int) := by rw [and255 (by omega)]; rfl
      have step := ih (n / 256) (by omega) (ds ++ [((n % 256 : Nat) : Int)]) (by rw [List.length_append]; simp only [List.length_cons, List.length_nil]; omega) hN
      have sz' : ds.length < sizeLine := lt_1000 (by omega)
      have c : base_bytes_c0 [some (.fr (.int n)), some (.ow (.lst (ds.map .int)))] = .ok true [some (.fr (.int n)), some (.ow (.lst (ds.map .int)))] := by
        simp [base_bytes_c0, sSeq, sEx, sSet, asB, bin2, rd, cst, vNil, vCons, has?, isOw, mtS, Res.bind, Res.thn, Res.lift, SRes.seq, loopR, Sl.toD, O.toD, fAppend, intD, shrD, andD, cmpD, gtD]
        omega
      have b : base_bytes_b1 [some (.fr (.int n)), some (.ow (.lst (ds.map .int)))] = .nx [some (.fr (.int ((n / 256 : Nat) : Int))), some (.ow (.lst ((ds ++ [((n % 256 : Nat) : Int)]).map .int)))] := by
        simp [base_bytes_b1, sSeq, sEx, sSet, asB, bin2, rd, cst, vNil, vCons, has?, isOw, mtS, Res.bind, Res.thn, Res.lift, SRes.seq, loopR, Sl.toD, O.toD, fAppend, intD, shrD, andD, cmpD, gtD, sz', a1]
      rw [c]
      show loopR (base_bytes_b1 _) _ = _
      rw [b]
      show whileM _ _ _ = _
      rw [step, hd]
      simp
theorem e_base_bytes {n : Nat} (h : n < 256 ^ 63) : m_base_bytes [.fr (.int n)] = .ok (.ow (.lst ((digs n).map .int))) [.fr (.int n)] := by
  have l := digs_len 63 n h
  have st := e_base_loop 63 n [] (by simpa using l) (by decide)
  simp only [List.map_nil, List.nil_append] at st
  simp [m_base_bytes, b_base_bytes, runF, frees, back, sSeq, sRetS, sEx, sSet, sSetL, asB, bin2, rd, cst, lstL, vNil, vCons, has?, isOw, mtS, Res.bind, Res.thn, Res.lift, SRes.seq, loopR, Sl.toD, O.toD, fAppend, fReverse, intD, shrD, andD, cmpD, gtD, st]
theorem e_plain_code {n : Nat} (h : n < 256 ^ 63) : m_plain_code [.fr (.int n)] = .ok (.fr (.list ((codeN n).map .int))) [.fr (.int n)] := by
  have l := digs_len 63 n h
  have s1 : 1 ≤ sizeLine := by decide
  have s2 : 1 + (digs n).length ≤ sizeLine := size_1000 (by omega)
  by_cases c : n < 192
  · have c' : (n : Int) < 192 := by omega
    simp [m_plain_code, b_plain_code, runF, frees, back, sSeq, sIf, sRet, sRetS, sNil, sEx, sSet, sSetL, asB, bin2, rd, cst, frz, lstL, vNil, vCons, callE, appE, resolve, slotsOf, putA, aSl, aNil, has?, isOw, lenSl, mtS, Res.bind, Res.thn, Res.lift, SRes.seq, loopR, Sl.toD, O.toD, fAppend, fReverse, addD, intD, shrD, andD, cmpD, gtD, ltD, lenD, c', codeN, c, s1]
  · have c' : ¬ (n : Int) < 192 := by omega
    simp [m_plain_code, b_plain_code, runF, frees, back, sSeq, sIf, sRet, sRetS, sNil, sEx, sSet, sSetL, asB, bin2, rd, cst, frz, lstL, vNil, vCons, callE, appE, resolve, slotsOf, putA, aSl, aNil, has?, isOw, lenSl, mtS, Res.bind, Res.thn, Res.lift, SRes.seq, loopR, Sl.toD, O.toD, fAppend, fReverse, addD, intD, shrD, andD, cmpD, gtD, ltD, lenD, c', codeN, c, s1, s2, e_base_bytes h]

/-! ### loops and comprehensions, by data -/
theorem lcM_map {vs : List Nat} {t : MG} {c : MT} {e : ME} (f : D → D) (l : Ld) : ∀ (xs acc : List D), acc.length + xs.length ≤ sizeLine →
    (∀ x ∈ xs, ∃ l1 l2 l3, t x l = some l1 ∧ c l1 = .ok true l2 ∧ e l2 = .ok (f x) l3 ∧ clr vs l3 = l) → lcM vs t c e xs acc l = .ok (acc ++ xs.map f) l
  | [], acc, _, _ => by rw [lcM, List.map_nil, List.append_nil]
  | x :: xs, acc, hl, step => by
    obtain ⟨l1, l2, l3, e1, e2, e3, e4⟩ := step x List.mem_cons_self
    rw [List.length_cons] at hl
    rw [lcM, e1]
    dsimp only
    rw [e2]
    dsimp only
    rw [e3]
    dsimp only
    rw [if_pos (by omega), e4, lcM_map f l xs (acc ++ [f x]) (by rw [List.length_append]; simp only [List.length_cons, List.length_nil]; omega) fun y m => step y (List.mem_cons_of_mem _ m)]
    simp
theorem forT_at {t : MG} {b : MS} {xs : List D} {l : Ld} (I : Nat → Ld → Prop) (h : I 0 l) (step : ∀ (j : Nat) (x : D) (l : Ld), xs[j]? = some x → I j l → ∃ l1 l2, t x l = some l1 ∧ b l1 = .nx l2 ∧ I (j + 1) l2) :
    ∃ l', forT t b xs l = .nx l' ∧ I xs.length l' := by
  have gen : ∀ (ys : List D) (k : Nat) (l : Ld), I k l → (∀ (j : Nat) (x : D), ys[j]? = some x → xs[k + j]? = some x) → ∃ l', forT t b ys l = .nx l' ∧ I (k + ys.length) l' := by
    intro ys
    induction ys with
    | nil => exact fun k l h _ => ⟨l, rfl, h⟩
    | cons y ys ih =>
      intro k l h at_
      obtain ⟨l1, l2, e1, e2, i2⟩ := step k y l (by simpa using at_ 0 y rfl) h
      obtain ⟨l', e3, i3⟩ := ih (k + 1) l2 i2 fun j x e => by
        have := at_ (j + 1) x (by simpa using e)
        rwa [show k + (j + 1) = k + 1 + j by omega] at this
      refine ⟨l', ?_, ?_⟩
      · rw [forT, e1]
        show loopR (b l1) (forT t b ys) = _
        rw [e2]
        exact e3
      · rw [List.length_cons, show k + (ys.length + 1) = k + 1 + ys.length by omega]
        exact i3
  have := gen xs 0 l h fun j x e => by simpa using e
  simpa using this
theorem range_lt {n j : Nat} {x : D} {f : Nat → D} (h : ((List.range n).map f)[j]? = some x) : j < n ∧ x = f j := by
  have hj : j < n := by
    have := get_lt h
    simpa using this
  rw [List.getElem?_map, List.getElem?_range hj] at h
  cases h
  exact ⟨hj, rfl⟩
theorem while_go {c : MT} {b : MS} {l l1 l2 : Ld} (hc : c l = .ok true l1) (hb : b l1 = .nx l2) : whileM c b l = whileM c b l2 := by
  rw [whileM_eq, hc, Res.thn, if_pos rfl, hb]
  rfl
theorem while_end {c : MT} {b : MS} {l l1 : Ld} (hc : c l = .ok false l1) : whileM c b l = .nx l1 := by
  rw [whileM_eq, hc, Res.thn, if_neg (by decide)]
theorem while_err {c : MT} {b : MS} {l l1 l2 : Ld} {x f : Str} {d : D} (hc : c l = .ok true l1) (hb : b l1 = .err x f d l2) : whileM c b l = .err x f d l2 := by
  rw [whileM_eq, hc, Res.thn, if_pos rfl, hb]
  rfl

def charCodes : List Nat := vCHARS.cps.toList
def strOf (cs : List Nat) : Str := ⟨cs.toArray⟩
theorem str_cps (cs : List Nat) : (strOf cs).cps.toList = cs := rfl
/-! ### scalars -/
inductive Sc : D → Prop
  | non : Sc .non
  | bl (b : Bool) : Sc (.bl b)
  | int {i : Int} : -(256 ^ 63) ≤ i → i < 256 ^ 63 → Sc (.int i)
  | tup {bs : List Int} : (∀ b ∈ bs, 0 ≤ b ∧ b ≤ 255) → bs.length ≤ 2500 → Sc (.tup (bs.map .int))
  | str {cs : List Nat} : (∀ c ∈ cs, c ∈ charCodes) → cs.length ≤ 2500 → Sc (.str (strOf cs))
def flip255 (ds : List Int) : List Int := ds.map fun d => 255 - d
inductive Row : D → List Int → Prop
  | non : Row .non [1]
  | bl (b : Bool) : Row (.bl b) [if b then 3 else 2]
  | pos (n : Nat) : n < 256 ^ 63 → Row (.int n) (5 :: codeN n)
  | neg (n : Nat) : n < 256 ^ 63 → Row (.int (-1 - n)) (4 :: flip255 (codeN n))
  | tup {bs : List Int} : (∀ b ∈ bs, 0 ≤ b ∧ b ≤ 255) → bs.length ≤ 2500 → Row (.tup (bs.map .int)) (6 :: (codeN bs.length ++ bs))
  | str {cs : List Nat} : (∀ c ∈ cs, c ∈ charCodes) → cs.length ≤ 2500 → Row (.str (strOf cs)) (7 :: (codeN cs.length ++ cs.map fun (c : Nat) => (c : Int)))
theorem Sc.row {d : D} (h : Sc d) : ∃ r, Row d r := by
  cases h with
  | non => exact ⟨_, .non⟩
  | bl b => exact ⟨_, .bl b⟩
  | int a b =>
    rename_i i
    by_cases c : 0 ≤ i
    · obtain ⟨n, rfl⟩ := Int.eq_ofNat_of_zero_le c
      exact ⟨_, .pos n (by exact_mod_cast b)⟩
    · obtain ⟨n, hn⟩ := Int.eq_ofNat_of_zero_le (show 0 ≤ -1 - i by omega)
      have e : i = -1 - (n : Int) := by omega
      rw [e]
      exact ⟨_, .neg n (by have : (n : Int) < 256 ^ 63 := by omega
                           exact_mod_cast this)⟩
  | tup a b => exact ⟨_, .tup a b⟩
  | str a b => exact ⟨_, .str a b⟩
theorem small63 {n : Nat} (h : n ≤ 2500) : n < 256 ^ 63 := Nat.lt_of_le_of_lt h (by decide)
theorem charCode_bound {c : Nat} (h : c ∈ charCodes) : c ≤ 126 := by
  have : ∀ c ∈ charCodes, c ≤ 126 := by decide +kernel
  exact this c h
theorem Row.byte {d : D} {r : List Int} (h : Row d r) : ∀ b ∈ r, 0 ≤ b ∧ b ≤ 255 := by
  intro b m
  cases h with
  | non => simp at m; omega
  | bl x => cases x <;> simp at m <;> omega
  | pos n hn =>
    rcases List.mem_cons.mp m with rfl | m
    · omega
    · exact codeN_byte hn b m
  | neg n hn =>
    rcases List.mem_cons.mp m with rfl | m
    · omega
    · obtain ⟨x, hx, rfl⟩ := List.mem_map.mp m
      have := codeN_byte hn x hx
      omega
  | tup hb hl =>
    rcases List.mem_cons.mp m with rfl | m
    · omega
    · rcases List.mem_append.mp m with m | m
      · exact codeN_byte (small63 hl) b m
      · exact hb b m
  | str hb hl =>
    rcases List.mem_cons.mp m with rfl | m
    · omega
    · rcases List.mem_append.mp m with m | m
      · exact codeN_byte (small63 hl) b m
      · obtain ⟨c, hc, rfl⟩ := List.mem_map.mp m
        have := charCode_bound (hb c hc)
        omega
theorem Row.len {d : D} {r : List Int} (h : Row d r) : r.length ≤ 2600 := by
  cases h with
  | non => decide
  | bl x => exact (by decide : 1 ≤ 2600)
  | pos n hn =>
    have := codeN_len hn
    simp only [List.length_cons]
    omega
  | neg n hn =>
    have := codeN_len hn
    simp only [List.length_cons, flip255, List.length_map]
    omega
  | tup hb hl =>
    have := codeN_len (small63 hl)
    simp only [List.length_cons, List.length_append]
    omega
  | str hb hl =>
    have := codeN_len (small63 hl)
    simp only [List.length_cons, List.length_append, List.length_map]
    omega
/-! is_text, is_octets, is_key -/
/-! rows -/
theorem catList {xs ys : List D} (h : xs.length + ys.length ≤ sizeLine) : addD (.list xs) (.list ys) = some (.list (xs ++ ys)) := if_pos h
theorem catList1 {x : Int} {ys : List Int} (h : 1 + ys.length ≤ sizeLine) : addD (.list [.int x]) (.list (ys.map .int)) = some (.list (.int x :: ys.map .int)) := catList (xs := [.int x]) (by rw [List.length_map]; exact h)
theorem e_integer_pos {n : Nat} (h : n < 256 ^ 63) : m_integer_row [.fr (.int n)] = .ok (.fr (.list ((5 :: codeN n).map .int))) [.fr (.int n)] := by
  have l := codeN_len h
  have s1 : 1 ≤ sizeLine := by decide
  have c := catList1 (x := 5) (ys := codeN n) (size_1000 (by omega))
  have g : geD (.int n) (.int 0) = some (.bl true) := by simp [geD, cmpD]
  simp [m_integer_row, b_integer_row, runF, frees, back, sSeq, sIf, sRet, sRetS, sNil, sEx, sSet, sSetL, asB, bin2, un1, rd, cst, frz, lstL, vNil, vCons, callE, appE, resolve, slotsOf, putA, aSl, aVal, aNil, has?, isOw, lenSl, mtS, tName, itE, Res.bind, Res.thn, Res.lift, SRes.seq, loopR, Sl.toD, O.toD, lcL, emp, yes, g, e_plain_code h, s1, c]
theorem neg_loop {ds : List Int} (e0 : ME) (he : ∀ (d : Int) (s : Sl), e0 [some s, some (.fr (.int d))] = .ok (.int (255 - d)) [some s, some (.fr (.int d))]) (hl : ds.length ≤ 2500) (s : Sl) : lcM [1] (tName 1) yes e0 (ds.map .int) [] [some s, none] = .ok ((flip255 ds).map .int) [some s, none] := by
  have e := lcM_map (vs := [1]) (t := tName 1) (c := yes) (e := e0) (fun x => match x with | .int d => .int (255 - d) | x => x) [some s, none] (ds.map .int) [] (by simp only [List.length_map, List.length_nil]; exact size_1000 (by omega)) (by
    intro x m
    obtain ⟨d, md, rfl⟩ := List.mem_map.mp m
    exact ⟨_, _, [some s, some (.fr (.int d))], rfl, rfl, he d s, rfl⟩)
  rw [e, List.nil_append, List.map_map, flip255, List.map_map]
  rfl
theorem e_integer_neg {n : Nat} (h : n < 256 ^ 63) : m_integer_row [.fr (.int (-1 - n))] = .ok (.fr (.list ((4 :: flip255 (codeN n)).map .int))) [.fr (.int (-1 - n))] := by
  have l := codeN_len h
  have s1 : 1 ≤ sizeLine := by decide
  have c := catList1 (x := 4) (ys := flip255 (codeN n)) (size_1000 (by rw [flip255, List.length_map]; omega))
  have g : geD (.int (-1 - n)) (.int 0) = some (.bl false) := by
    simp only [geD, cmpD]
    rw [decide_eq_false (by omega)]
  have b : subD (.int (-1)) (.int (-1 - n)) = some (.int n) := by
    simp only [subD, intD, if_true]
    congr 2
    omega
  have ng : negD (.int 1) = some (.int (-1)) := rfl
  have lp := neg_loop integer_row_e0 (fun d s => by simp [integer_row_e0, runF, frees, back, sSeq, sIf, sRet, sRetS, sNil, sEx, sSet, sSetL, asB, bin2, un1, rd, cst, frz, lstL, vNil, vCons, callE, appE, resolve, slotsOf, putA, aSl, aVal, aNil, has?, isOw, lenSl, mtS, tName, itE, walkD, Res.bind, Res.thn, Res.lift, SRes.seq, loopR, Sl.toD, O.toD, fAppend, fReverse, addD, subD, intD, shrD, andD, cmpD, gtD, geD, ltD, negD, lenD, lcL, emp, yes]) (ds := codeN n) (by omega) (.fr (.int (-1 - n)))
  simp [m_integer_row, b_integer_row, runF, frees, back, sSeq, sIf, sRet, sRetS, sNil, sEx, sSet, sSetL, asB, bin2, un1, rd, cst, frz, lstL, vNil, vCons, callE, appE, resolve, slotsOf, putA, aSl, aVal, aNil, has?, isOw, lenSl, mtS, tName, itE, Res.bind, Res.thn, Res.lift, SRes.seq, loopR, Sl.toD, O.toD, lcL, emp, yes, g, b, ng, e_plain_code h, s1, c, lp, walkD]
/-! ### keys in order -/
theorem lex_split_len : ∀ (a b : List Int), a.length = b.length → HT.lexLt a b = true → ∃ (p : List Int) (x y : Int) (s t : List Int), a = p ++ x :: s ∧ b = p ++ y :: t ∧ x < y
  | [], [], _, h => by cases h
  | [], _ :: _, e, _ => by cases e
  | _ :: _, [], e, _ => by cases e
  | x :: xs, y :: ys, e, h => by
    rw [HT.lexLt_cons] at h
    by_cases c : x = y
    · rw [if_pos c] at h
      obtain ⟨p, u, v, s, t, e1, e2, lt⟩ := lex_split_len xs ys (by simpa using e) h
      exact ⟨x :: p, u, v, s, t, by rw [e1]; rfl, by rw [e2, c]; rfl, lt⟩
    · rw [if_neg c] at h
      exact ⟨[], x, y, xs, ys, rfl, rfl, of_decide_eq_true h⟩
theorem lex_split : ∀ (p : List Int) {x y : Int} (s t : List Int), x < y → HT.lexLt (p ++ x :: s) (p ++ y :: t) = true
  | [], x, y, s, t, h => by
    show HT.lexLt (x :: s) (y :: t) = true
    rw [HT.lexLt_cons, if_neg (by omega)]
    exact decide_eq_true h
  | a :: p, x, y, s, t, h => by
    show HT.lexLt (a :: (p ++ x :: s)) (a :: (p ++ y :: t)) = true
    rw [HT.lexLt_cons, if_pos rfl]
    exact lex_split p s t h
theorem codeN_head (n : Nat) : ∃ c cs, codeN n = c :: cs ∧ (if c < 192 then (1 : Int) else c - 190) = (codeN n).length := by
  unfold codeN
  split
  · rename_i h
    refine ⟨n, [], rfl, ?_⟩
    rw [if_pos (by omega)]
    rfl
  · rename_i h
    have : 1 ≤ (digs n).length := by
      have := digs_ne (n := n) (by omega)
      cases hd : digs n with
      | nil => exact (this hd).elim
      | cons a b => simp
    refine ⟨_, _, rfl, ?_⟩
    rw [if_neg (by omega)]
    simp only [List.length_cons]
    omega
theorem code_split {n m : Nat} (h : n < m) : ∃ (p : List Int) (x y : Int) (s t : List Int), codeN n = p ++ x :: s ∧ codeN m = p ++ y :: t ∧ x < y := by
  have l := lex_code n m
  rw [decide_eq_true h] at l
  obtain ⟨c, cs, e1, l1⟩ := codeN_head n
  obtain ⟨d, ds, e2, l2⟩ := codeN_head m
  by_cases q : c = d
  · subst q
    exact lex_split_len _ _ (by omega) l
  · rw [e1, e2, HT.lexLt_cons, if_neg q] at l
    exact ⟨[], c, d, cs, ds, e1, e2, of_decide_eq_true l⟩
theorem Row.ne {d : D} {r : List Int} (h : Row d r) : r.isEmpty = false := by
  cases h <;> rfl
/-! ### keys -/
theorem nks_ints : ∀ bs : List Int, nksOf (bs.map .int) = some (bs.map .num)
  | [] => by simp [nksOf]
  | b :: bs => by
    rw [List.map_cons, nksOf, nks_ints bs, nkOf]
    rfl
theorem nkdepth_ints : ∀ bs : List Int, NestedKey.depthAll (bs.map .num) ≤ 1
  | [] => by decide
  | b :: bs => by
    have := nkdepth_ints bs
    rw [List.map_cons, NestedKey.depthAll, NestedKey.depth]
    omega
/-! ### draws, counted -/
/-! ### keys -/
inductive Ky where
  | int (i : Int) | oct (bs : List Int) | txt (cs : List Nat)
  deriving DecidableEq
def rowI (i : Int) : List Int := if 0 ≤ i then 5 :: codeN i.toNat else 4 :: flip255 (codeN (-1 - i).toNat)
namespace Ky
def ok : Ky → Prop
  | .int i => -(256 ^ 63) ≤ i ∧ i < 256 ^ 63
  | .oct bs => (∀ b ∈ bs, 0 ≤ b ∧ b ≤ 255) ∧ bs.length ≤ 2500
  | .txt cs => (∀ c ∈ cs, c ∈ charCodes) ∧ cs.length ≤ 2500
def v : Ky → D
  | .int i => .int i
  | .oct bs => .tup (bs.map .int)
  | .txt cs => .str (strOf cs)
def word : Ky → Str
  | .int _ => "integer"
  | .oct _ => "octets"
  | .txt _ => "text"
def m (k : Ky) : D := .tup [.str k.word, k.v]
def row : Ky → List Int
  | .int i => rowI i
  | .oct bs => 6 :: (codeN bs.length ++ bs)
  | .txt cs => 7 :: (codeN cs.length ++ cs.map fun (c : Nat) => (c : Int))
def nk : Ky → NestedKey
  | .int i => .num i
  | .oct bs => .tup (bs.map .num)
  | .txt cs => .text (strOf cs)
end Ky
theorem strOf_inj {a b : List Nat} (h : strOf a = strOf b) : a = b := by
  have := congrArg (fun s : Str => s.cps.toList) h
  simpa [str_cps] using this
theorem num_inj : ∀ {a b : List Int}, a.map NestedKey.num = b.map NestedKey.num → a = b
  | [], [], _ => rfl
  | [], _ :: _, h => by cases h
  | _ :: _, [], h => by cases h
  | x :: a, y :: b, h => by
    rw [List.map_cons, List.map_cons] at h
    injection h with h1 h2
    injection h1 with h1
    rw [h1, num_inj h2]
/-! ### models -/
inductive Mo where
  | non | bl (b : Bool) | int (i : Int) | oct (bs : List Int) | txt (cs : List Nat)
  | lst (ms : List Mo) | map (kvs : List (Ky × Mo)) | tag (n : Nat) (m : Mo)
mutual
/-- bounds; the keys of a map are unlike -/
def okM : Nat → Mo → Prop
  | _, .non => True
  | _, .bl _ => True
  | _, .int i => -(256 ^ 63) ≤ i ∧ i < 256 ^ 63
  | _, .oct bs => (∀ b ∈ bs, 0 ≤ b ∧ b ≤ 255) ∧ bs.length ≤ 2500
  | _, .txt cs => (∀ c ∈ cs, c ∈ charCodes) ∧ cs.length ≤ 2500
  | 0, .lst _ => False
  | d + 1, .lst ms => ms.length ≤ 2500 ∧ okMs d ms
  | 0, .map _ => False
  | d + 1, .map kvs => kvs.length ≤ 2500 ∧ (kvs.map (·.1)).Nodup ∧ okMp d kvs
  | 0, .tag _ _ => False
  | d + 1, .tag n m => n < 256 ^ 63 ∧ okM d m
def okMs : Nat → List Mo → Prop
  | _, [] => True
  | d, m :: r => okM d m ∧ okMs d r
def okMp : Nat → List (Ky × Mo) → Prop
  | _, [] => True
  | d, (k, m) :: r => k.ok ∧ okM d m ∧ okMp d r
end
mutual
/-- how many items -/
def cntM : Mo → Nat
  | .non | .bl _ | .int _ | .oct _ | .txt _ => 1
  | .lst ms => 1 + cntMs ms
  | .map kvs => 1 + cntMp kvs
  | .tag _ m => 1 + cntM m
def cntMs : List Mo → Nat
  | [] => 0
  | m :: r => cntM m + cntMs r
def cntMp : List (Ky × Mo) → Nat
  | [] => 0
  | (_, m) :: r => cntM m + cntMp r
end
/-! keys, told apart -/
def Ky.py : Ky → PyData
  | .int i => .tuple [.str "integer", .int i]
  | .oct bs => .tuple [.str "octets", .tuple (bs.map .int)]
  | .txt cs => .tuple [.str "text", .str (strOf cs)]
theorem toPys_ints : ∀ bs : List Int, toPys (bs.map .int) = some (bs.map .int)
  | [] => by simp [toPys]
  | b :: bs => by simp [toPys, toPy, toPys_ints bs]
theorem Ky.toPy (k : Ky) : Sb.toPy k.m = some k.py := by
  cases k <;> simp [Ky.m, Ky.word, Ky.v, Ky.py, Sb.toPy, toPys, toPys_ints]
theorem eqvI_all : ∀ a b : List Int, PyData.eqvAll (a.map .int) (b.map .int) = decide (a = b)
  | [], [] => by simp [PyData.eqvAll]
  | [], _ :: _ => by simp [PyData.eqvAll]
  | _ :: _, [] => by simp [PyData.eqvAll]
  | x :: a, y :: b => by
    simp only [List.map_cons, PyData.eqvAll, PyData.eqv, eqvI_all a b]
    by_cases h : x = y <;> by_cases h' : a = b <;> simp [h, h']
theorem Ky.eqv (a b : Ky) : PyData.eqv a.py b.py = decide (a = b) := by
  have n1 : (("integer" : Str) == "octets") = false := by decide +kernel
  have n2 : (("integer" : Str) == "text") = false := by decide +kernel
  have n3 : (("octets" : Str) == "text") = false := by decide +kernel
  have n4 : (("octets" : Str) == "integer") = false := by decide +kernel
  have n5 : (("text" : Str) == "integer") = false := by decide +kernel
  have n6 : (("text" : Str) == "octets") = false := by decide +kernel
  have si : ∀ x y : List Nat, (strOf x == strOf y) = decide (x = y) := fun x y => by
    by_cases h : x = y
    · simp [h]
    · rw [decide_eq_false h]
      exact beq_eq_false_iff_ne.mpr fun z => h (strOf_inj z)
  have ib : ∀ i j : Int, (i == j) = decide (i = j) := fun i j => by by_cases h : i = j <;> simp [h]
  cases a <;> cases b <;> simp [Ky.py, PyData.eqv, PyData.eqvAll, eqvI_all, si, ib, n1, n2, n3, n4, n5, n6]
theorem lay_ints : ∀ bs : List Int, PyData.canLayAll0 (bs.map .int) = true
  | [] => rfl
  | b :: bs => by
    rw [List.map_cons, PyData.canLayAll0, lay_ints bs, PyData.canLay0]
    rfl
theorem dep_ints : ∀ bs : List Int, PyData.depthAll (bs.map .int) ≤ 1
  | [] => by simp [PyData.depthAll]
  | b :: bs => by
    have := dep_ints bs
    rw [List.map_cons, PyData.depthAll, PyData.depth]
    omega
/-! ### trees: the law's draws -/
structure BagT (xs : List D) (m q : Nat) : Prop where
  ex : ∃ (d e c : Int) (ns : List Int), xs = [.int d, .int e, .int c, .list (ns.map .int), .int q] ∧ 0 ≤ d ∧ 0 ≤ e ∧ e < 2147483647 ∧ 0 ≤ c ∧ c ≤ m ∧ q ≤ 4
theorem BagT.more {xs : List D} {m n q : Nat} (h : BagT xs m q) (l : m ≤ n) : BagT xs n q := by
  obtain ⟨d, e, c, ns, h1, h2, h3, h4, h5, h6, h7⟩ := h.ex
  exact ⟨d, e, c, ns, h1, h2, h3, h4, h5, by omega, h7⟩
theorem BagT.q4 {xs : List D} {m q : Nat} (h : BagT xs m q) : q ≤ 4 := by
  obtain ⟨d, e, c, ns, h1, h2, h3, h4, h5, h6, h7⟩ := h.ex
  exact h7
theorem fmod_ge (a : Int) {b : Int} (h : 0 < b) : 0 ≤ a.fmod b := Int.fmod_nonneg_of_pos a h
theorem fmod_lt (a : Int) {b : Int} (h : 0 < b) : a.fmod b < b := Int.fmod_lt_of_pos a h
theorem fdiv_ge {a b : Int} (ha : 0 ≤ a) (hb : 0 ≤ b) : 0 ≤ a.fdiv b := Int.fdiv_nonneg ha hb
theorem e__law_bag {ns : List Int} {i : Int} (i0 : 0 ≤ i) (i1 : i < 64) : ∃ xs, m__law_bag [.fr (.scr ns), .fr (.int i)] = .ok (.ow (.lst xs)) [.fr (.scr ns), .fr (.int i)] ∧ BagT xs 0 4 := by
  have s5 : 5 ≤ sizeLine := by decide
  have fin : ∀ (x y : Int) (ms : List Int), 0 ≤ y → BagT [.int y, .int (x.fmod 1000000007), .int 0, .list (ms.map .int), .int 4] 0 4 := fun x y ms y0 => by
    have k0 := fmod_ge x (b := 1000000007) (by decide)
    have k1 := fmod_lt x (b := 1000000007) (by decide)
    exact ⟨_, _, _, _, rfl, y0, by omega, by omega, by omega, by omega, by omega⟩
  have cp : cPow 10 18 = true := by decide
  have cm : cMul 11 i = true := by simp [cMul]
  by_cases h : i < (ns.length : Int)
  · have hj : i.toNat < ns.length := by omega
    have ha : atI ns i = some ns[i.toNat] := by
      have := atI_nat (xs := ns) (j := i.toNat) (v := ns[i.toNat]) (List.getElem?_eq_getElem hj)
      rwa [Int.toNat_of_nonneg i0] at this
    by_cases g : (1000000000000000000 : Int) ≤ ns[i.toNat]
    · refine ⟨[.int ns[i.toNat], .int (ns[i.toNat].fmod 1000000007), .int 0, .list ((cutD ns none (some 64)).map .int), .int 4], ?_, fin _ _ _ (by omega)⟩
      simp [m__law_bag, b__law_bag, runF, frees, back, sSeq, sRetL, sSet, asB, ifE, bin2, rd, cst, lstL, vNil, vCons, calB, has?, ixSl, lenSl, slE, oSome, oNone, Res.bind, Res.thn, Res.lift, SRes.seq, Sl.toD, O.toD, addD, intD, mulD, modD, powD, cmpD, geD, ltD, lenD, intB, ixD, slD, h, ha, g, s5, cp]
    · refine ⟨[.int 0, .int (ns[i.toNat].fmod 1000000007), .int 0, .list ((cutD ns none (some 64)).map .int), .int 4], ?_, fin _ _ _ (by omega)⟩
      simp [m__law_bag, b__law_bag, runF, frees, back, sSeq, sRetL, sSet, asB, ifE, bin2, rd, cst, lstL, vNil, vCons, calB, has?, ixSl, lenSl, slE, oSome, oNone, Res.bind, Res.thn, Res.lift, SRes.seq, Sl.toD, O.toD, addD, intD, mulD, modD, powD, cmpD, geD, ltD, lenD, intB, ixD, slD, h, ha, g, s5, cp]
  · by_cases g : (1000000000000000000 : Int) ≤ 11 * i + 5
    · exfalso; omega
    · refine ⟨[.int 0, .int ((11 * i + 5).fmod 1000000007), .int 0, .list ((cutD ns none (some 64)).map .int), .int 4], ?_, fin _ _ _ (by omega)⟩
      simp [m__law_bag, b__law_bag, runF, frees, back, sSeq, sRetL, sSet, asB, ifE, bin2, rd, cst, lstL, vNil, vCons, calB, has?, ixSl, lenSl, slE, oSome, oNone, Res.bind, Res.thn, Res.lift, SRes.seq, Sl.toD, O.toD, addD, intD, mulD, modD, powD, cmpD, geD, ltD, lenD, intB, ixD, slD, h, g, s5, cp, cm]
theorem toPys_intsT : ∀ ns : List Int, toPys (ns.map .int) = some (ns.map .int)
  | [] => by simp [toPys]
  | n :: ns => by simp [toPys, toPy, toPys_intsT ns]
theorem dep_intsT : ∀ a : List Int, PyData.depthAll (a.map .int) = 0
  | [] => by simp [PyData.depthAll]
  | x :: a => by
    have := dep_intsT a
    rw [List.map_cons, PyData.depthAll, PyData.depth, this]
    rfl
theorem lay_intsT : ∀ a : List Int, PyData.canLayAll0 (a.map .int) = true
  | [] => by simp [PyData.canLayAll0]
  | x :: a => by
    rw [List.map_cons, PyData.canLayAll0, lay_intsT a]
    rfl
theorem ne_emptyT (ns : List Int) : neD (.list (ns.map .int)) (.list []) = some (.bl (!decide (ns = []))) := by
  have e : toPy (.list (ns.map .int)) = some (.list (ns.map .int)) := by rw [toPy, toPys_intsT]; rfl
  have e0 : toPy (.list []) = some (.list []) := by rw [toPy, toPys]; rfl
  have sh : SeqAt.shaped (.list (ns.map .int)) = true := by
    simp [SeqAt.shaped, PyData.canLay0, lay_intsT, PyData.depth, dep_intsT]
  have sh0 : SeqAt.shaped (.list []) = true := by simp [SeqAt.shaped, PyData.canLay0, PyData.canLayAll0, PyData.depth, PyData.depthAll]
  show (eqB (.list (ns.map .int)) (.list [])).map _ = _
  have : eqB (.list (ns.map .int)) (.list []) = some (decide (ns = [])) := by
    show ((toPy (.list (ns.map .int))).bind fun p => (toPy (.list [])).bind fun q => if SeqAt.shaped p = true ∧ SeqAt.shaped q = true then some (PyData.eqv p q) else none) = _
    rw [e, e0]
    show (if _ then _ else _) = _
    rw [if_pos ⟨sh, sh0⟩]
    cases ns <;> simp [PyData.eqv, PyData.eqvAll]
  rw [this]
  rfl
theorem e__law_take {xs : List D} {m q : Nat} {n : Int} (hB : BagT xs m q) (m1 : m < 1048576) (n0 : 0 < n) (n1 : n < 1073741824) :
    ∃ r ys, m__law_take [.ow (.lst xs), .fr (.int n)] = .ok (.fr (.int r)) [.ow (.lst ys), .fr (.int n)] ∧ 0 ≤ r ∧ r < n ∧ BagT ys (m + 1) q := by
  obtain ⟨d, e, c, ns, rfl, h2, h3, h4, h5, h6, h7⟩ := hB.ex
  have nz : n ≠ 0 := by omega
  have cd : cDiv d n = true := by
    unfold cDiv
    exact decide_eq_true ⟨nz, by omega⟩
  have ne := ne_emptyT ns
  by_cases h : 0 < d
  · refine ⟨d.fmod n, [.int (d.fdiv n), .int e, .int c, .list (ns.map .int), .int q], ?_, fmod_ge _ n0, fmod_lt _ n0, ⟨_, _, _, _, rfl, fdiv_ge h2 (by omega), h3, h4, h5, by omega, h7⟩⟩
    simp [m__law_take, b__law_take, runF, frees, back, sSeq, sIf, sRet, sNil, sSet, sPut, asB, ifE, bin2, rd, cst, frz, lstL, vNil, vCons, calB, has?, ixSl, Res.bind, Res.thn, Res.lift, SRes.seq, Sl.toD, O.toD, addD, intD, mulD, fdivD, modD, cmpD, gtD, neD, eqB, lenB, lenD, intB, ixD, atI, ixN, h, nz, cd]
  · have p1 : cMul e 69069 = true := by simp [cMul]
    have p2 : cMul 31 (c + 1) = true := by simp [cMul]
    have p3 : cMul 77773 (c + 1) = true := by simp [cMul]
    have p5 : ∀ z : Int, 0 ≤ z → z < 2147483647 → cMul z z = true := fun z a b => by
      unfold cMul
      exact decide_eq_true (.inl ⟨by omega, by omega⟩)
    have p7 : ∀ z : Int, cDiv z 64 = true := fun z => by
      unfold cDiv
      exact decide_eq_true ⟨by decide, by decide⟩
    obtain ⟨z, hz⟩ : ∃ z : Int, (if ns = [] then some (D.int 7) else ixD (.list (ns.map .int)) (.int ((c + 1).fmod ns.length))) = some (.int z) := by
      by_cases hn : ns = []
      · exact ⟨7, by rw [if_pos hn]⟩
      · have lp : 0 < (ns.length : Int) := by
          have := List.length_pos_iff.mpr hn
          omega
        have k0 := fmod_ge (c + 1) lp
        have k1 := fmod_lt (c + 1) lp
        have hj : ((c + 1).fmod ns.length).toNat < ns.length := by omega
        refine ⟨ns[((c + 1).fmod ns.length).toNat], ?_⟩
        rw [if_neg hn]
        have := atI_nat (xs := ns.map D.int) (j := ((c + 1).fmod ns.length).toNat) (v := .int ns[((c + 1).fmod ns.length).toNat]) (by rw [List.getElem?_map, List.getElem?_eq_getElem hj]; rfl)
        rwa [Int.toNat_of_nonneg k0] at this
    let E : Int := (e * 69069 + z.fmod 999983 + 31 * (c + 1)).fmod 2147483647
    have k0 : 0 ≤ E := fmod_ge _ (by decide)
    have k1 : E < 2147483647 := fmod_lt _ (by decide)
    have p6 : cMul E E = true := p5 _ k0 k1
    refine ⟨((E * E + 77773 * (c + 1)).fmod 4294967291).fdiv 64 |>.fmod n, [.int d, .int E, .int (c + 1), .list (ns.map .int), .int q], ?_, fmod_ge _ n0, fmod_lt _ n0, ⟨_, _, _, _, rfl, h2, k0, k1, by omega, by omega, h7⟩⟩
    have g : gtD (.int d) (.int 0) = some (.bl false) := by
      show some (D.bl (decide (d > 0))) = _
      rw [decide_eq_false (by omega)]
    have x0 : ∀ a b c d e : D, ixD (.list [a, b, c, d, e]) (.int 0) = some a := fun a b c d e => rfl
    have x1 : ∀ a b c d e : D, ixD (.list [a, b, c, d, e]) (.int 1) = some b := fun a b c d e => rfl
    have x2 : ∀ a b c d e : D, ixD (.list [a, b, c, d, e]) (.int 2) = some c := fun a b c d e => rfl
    have x3 : ∀ a b c d e : D, ixD (.list [a, b, c, d, e]) (.int 3) = some d := fun a b c d e => rfl
    have j1 : ixN 5 1 = some 1 := by decide
    have j2 : ixN 5 2 = some 2 := by decide
    have ib : ∀ z : Int, intB [.int z] = some (.int z) := fun _ => rfl
    have lb : lenB [.list (ns.map D.int)] = some (.int ns.length) := by simp [lenB, lenD]
    have ad : ∀ a b : Int, addD (.int a) (.int b) = some (.int (a + b)) := fun _ _ => rfl
    have md : ∀ a b : Int, b ≠ 0 → modD (.int a) (.int b) = some (.int (a.fmod b)) := fun a b h => by simp [modD, intD, h]
    have m1' : mulD (.int e) (.int 69069) = some (.int (e * 69069)) := by simp [mulD, intD, p1]
    have m2 : mulD (.int 31) (.int (c + 1)) = some (.int (31 * (c + 1))) := by simp [mulD, intD, p2]
    have m3 : mulD (.int 77773) (.int (c + 1)) = some (.int (77773 * (c + 1))) := by simp [mulD, intD, p3]
    have m4 : mulD (.int E) (.int E) = some (.int (E * E)) := by simp [mulD, intD, p6]
    have fd : ∀ a : Int, fdivD (.int a) (.int 64) = some (.int (a.fdiv 64)) := fun a => by simp [fdivD, intD, p7]
    have d1 := md (e * 69069 + z.fmod 999983 + 31 * (c + 1)) 2147483647 (by decide)
    have hE : (e * 69069 + z.fmod 999983 + 31 * (c + 1)).fmod 2147483647 = E := rfl
    rw [hE] at d1
    have d2 := md z 999983 (by decide)
    have d3 := md (E * E + 77773 * (c + 1)) 4294967291 (by decide)
    have d4 := md (((E * E + 77773 * (c + 1)).fmod 4294967291).fdiv 64) n nz
    have s0 : 0 ≤ sizeLine := by decide
    by_cases hn : ns = []
    · rw [if_pos hn] at hz
      cases hz
      rw [decide_eq_true hn] at ne
      rw [show Int.fmod 7 999983 = 7 from by decide] at d1
      generalize ns.map D.int = N at *
      generalize E = E' at *
      simp [m__law_take, b__law_take, runF, frees, back, sSeq, sIf, sRet, sNil, sSet, sPut, asB, ifE, bin2, rd, cst, frz, lstL, vNil, vCons, calB, has?, ixSl, Res.bind, Res.thn, Res.lift, SRes.seq, Sl.toD, O.toD, g, x0, x1, x2, x3, j1, j2, ib, ad, m1', m2, m3, m4, fd, d1, d2, d3, d4, ne, s0]
    · rw [if_neg hn] at hz
      rw [decide_eq_false hn] at ne
      have ln : (ns.length : Int) ≠ 0 := by
        have := List.length_pos_iff.mpr hn
        omega
      have d5 := md (c + 1) ns.length ln
      generalize ns.map D.int = N at *
      generalize E = E' at *
      simp [m__law_take, b__law_take, runF, frees, back, sSeq, sIf, sRet, sNil, sSet, sPut, asB, ifE, bin2, rd, cst, frz, lstL, vNil, vCons, calB, has?, ixSl, Res.bind, Res.thn, Res.lift, SRes.seq, Sl.toD, O.toD, g, x0, x1, x2, x3, j1, j2, ib, ad, m1', m2, m3, m4, fd, d1, d2, d3, d4, d5, ne, s0, lb, hz]

/-! ### trees: numbers, octets, texts, keys drawn -/
theorem num_loop {n : Nat} (hn : n ≤ 63) {xs : List D} {m q : Nat} {r : Sl} {o : Option Sl} (hB : BagT xs m q) (m1 : m + 100 < 1048576) :
    ∃ (v : Int) (ys : List D) (o' : Option Sl), forT (tName 3) _law_number_b0 ((List.range n).map fun (k : Nat) => D.int k) [some (.ow (.lst xs)), some r, some (.fr (.int 0)), o] = .nx [some (.ow (.lst ys)), some r, some (.fr (.int v)), o'] ∧ 0 ≤ v ∧ v < 256 ^ n ∧ BagT ys (m + n) q := by
  have st : ∀ (k : Nat) (x : D) (l : Ld), ((List.range n).map fun (k : Nat) => D.int k)[k]? = some x → (∃ (v : Int) (ys : List D) (o' : Option Sl), l = [some (.ow (.lst ys)), some r, some (.fr (.int v)), o'] ∧ 0 ≤ v ∧ v < 256 ^ k ∧ BagT ys (m + k) q) →
      ∃ l1 l2, tName 3 x l = some l1 ∧ _law_number_b0 l1 = .nx l2 ∧ ∃ (v : Int) (ys : List D) (o' : Option Sl), l2 = [some (.ow (.lst ys)), some r, some (.fr (.int v)), o'] ∧ 0 ≤ v ∧ v < 256 ^ (k + 1) ∧ BagT ys (m + (k + 1)) q := by
    rintro k x l hx ⟨v, ys, o', rfl, v0, v1, hB'⟩
    obtain ⟨hk, rfl⟩ := range_lt hx
    obtain ⟨d, zs, e2, d0, d1, hB2⟩ := e__law_take (n := 256) hB' (by omega) (by decide) (by decide)
    have cm : cMul v 256 = true := by simp [cMul]
    refine ⟨_, [some (.ow (.lst zs)), some r, some (.fr (.int (v * 256 + d))), some (.fr (.int k))], rfl, ?_, ⟨v * 256 + d, zs, _, rfl, by omega, ?_, hB2.more (by omega)⟩⟩
    · simp [_law_number_b0, runF, frees, back, sSeq, sIf, sRet, sNil, sSet, sPut, asB, ifE, bin2, rd, cst, frz, lstL, vNil, vCons, calB, callE, appE, resolve, slotsOf, putA, aSl, aVal, aNil, has?, ixSl, tName, Res.bind, Res.thn, Res.lift, SRes.seq, loopR, Sl.toD, O.toD, addD, intD, mulD, fdivD, modD, cmpD, gtD, neD, eqB, lenB, lenD, intB, ixD, e2, cm]
    · rw [Int.pow_succ]
      omega
  obtain ⟨l', e, i⟩ := forT_at (l := [some (.ow (.lst xs)), some r, some (.fr (.int 0)), o]) _ ⟨0, xs, o, rfl, by decide, by decide, hB.more (by omega)⟩ st
  simp only [List.length_map, List.length_range] at i
  obtain ⟨v, ys, o', rfl, a, b, c⟩ := i
  exact ⟨v, ys, o', e, a, b, c⟩
theorem e__law_number {xs : List D} {m q : Nat} (hB : BagT xs m q) (m1 : m + 200 < 1048576) : ∃ (v : Nat) (ys : List D), m__law_number [.ow (.lst xs)] = .ok (.fr (.int v)) [.ow (.lst ys)] ∧ v < 256 ^ 63 ∧ BagT ys (m + 70) q := by
  obtain ⟨r, x1, e1, r0, r1, hB1⟩ := e__law_take (n := 5) hB (by omega) (by decide) (by decide)
  have nat : ∀ v : Int, 0 ≤ v → v < 256 ^ 63 → ∃ k : Nat, v = k ∧ k < 256 ^ 63 := fun v a b => by
    obtain ⟨k, rfl⟩ := Int.eq_ofNat_of_zero_le a
    exact ⟨k, rfl, by exact_mod_cast b⟩
  have s5 : 5 ≤ sizeLine := by decide
  have cp1 : cPow 256 62 = true := by decide
  have cp2 : cPow 256 63 = true := by decide
  by_cases h0 : r = 0
  · subst h0
    obtain ⟨v, x2, e2, v0, v1, hB2⟩ := e__law_take (n := 6) hB1 (by omega) (by decide) (by decide)
    obtain ⟨k, rfl, hk⟩ := nat v v0 (Int.lt_trans v1 (by decide))
    refine ⟨k, x2, ?_, hk, hB2.more (by omega)⟩
    simp [m__law_number, b__law_number, runF, frees, back, sSeq, sIf, sRet, sNil, sSet, sPut, asB, ifE, bin2, rd, cst, frz, lstL, vNil, vCons, calB, callE, appE, resolve, slotsOf, putA, aSl, aVal, aNil, has?, ixSl, tName, rng1, Res.bind, Res.thn, Res.lift, SRes.seq, loopR, Sl.toD, O.toD, addD, subD, intD, mulD, fdivD, modD, powD, cmpD, gtD, eqD, neD, eqB, lenB, lenD, intB, sForT, ixD, e1, e2]
  · by_cases h1 : r = 1
    · subst h1
      obtain ⟨i, x2, e2, i0, i1, hB2⟩ := e__law_take (n := 5) hB1 (by omega) (by decide) (by decide)
      obtain ⟨t, x3, e3, t0, t1, hB3⟩ := e__law_take (n := 4) hB2 (by omega) (by decide) (by decide)
      obtain ⟨v, hv, v0, v1⟩ : ∃ v : Int, ixD (.list [.int 190, .int 254, .int 65534, .int (256 ^ 62 - 2), .int (256 ^ 63 - 4)]) (.int i) = some (.int v) ∧ 0 ≤ v ∧ v ≤ 256 ^ 63 - 4 := by
        have c5 : i = 0 ∨ i = 1 ∨ i = 2 ∨ i = 3 ∨ i = 4 := by omega
        rcases c5 with rfl | rfl | rfl | rfl | rfl <;> exact ⟨_, rfl, by decide, by decide⟩
      obtain ⟨k, hk1, hk⟩ := nat (v + t) (by omega) (by omega)
      refine ⟨k, x3, ?_, hk, hB3.more (by omega)⟩
      have q0 : eqD (.int 1) (.int 0) = some (.bl false) := by simp [eqD, eqB]
      have q1 : eqD (.int 1) (.int 1) = some (.bl true) := by simp [eqD, eqB]
      have p1 : powD (.int 256) (.int 62) = some (.int (256 ^ 62)) := rfl
      have p2 : powD (.int 256) (.int 63) = some (.int (256 ^ 63)) := rfl
      have b1 : subD (.int (256 ^ 62)) (.int 2) = some (.int (256 ^ 62 - 2)) := rfl
      have b2 : subD (.int (256 ^ 63)) (.int 4) = some (.int (256 ^ 63 - 4)) := rfl
      have ad : addD (.int v) (.int t) = some (.int (v + t)) := rfl
      rw [← hk1]
      generalize (256 ^ 62 : Int) = B1 at *
      generalize (256 ^ 63 : Int) = B2 at *
      simp [m__law_number, b__law_number, runF, frees, back, sSeq, sIf, sRet, sNil, sSet, sPut, asB, ifE, bin2, rd, cst, frz, lstL, vNil, vCons, calB, callE, appE, resolve, slotsOf, putA, aSl, aVal, aNil, has?, ixSl, tName, rng1, Res.bind, Res.thn, Res.lift, SRes.seq, loopR, Sl.toD, O.toD, sForT, e1, e2, e3, q0, q1, p1, p2, b1, b2, hv, ad, s5]
    · obtain ⟨w, hw, w0, w1⟩ : ∃ w : Int, atI [D.int 1, D.int 3, D.int 63] (r - 2) = some (.int w) ∧ 0 < w ∧ w ≤ 63 := by
        have c3 : r = 2 ∨ r = 3 ∨ r = 4 := by omega
        rcases c3 with rfl | rfl | rfl
        · exact ⟨1, rfl, by decide, by decide⟩
        · exact ⟨3, rfl, by decide, by decide⟩
        · exact ⟨63, rfl, by decide, by decide⟩
      obtain ⟨t, x2, e2, t0, t1, hB2⟩ := e__law_take (n := w) hB1 (by omega) w0 (by omega)
      obtain ⟨v, x3, o', e3, v0, v1, hB3⟩ := num_loop (n := (1 + t).toNat) (by omega) (r := .fr (.int r)) (o := none) hB2 (by omega)
      have le : (1 + t).toNat ≤ 63 := by omega
      have := Nat.pow_le_pow_right (n := 256) (by decide) le
      obtain ⟨k, rfl, hk⟩ := nat v v0 (Int.lt_of_lt_of_le v1 (by exact_mod_cast this))
      refine ⟨k, x3, ?_, hk, hB3.more (by omega)⟩
      have s3 : 3 ≤ sizeLine := by decide
      have b1 : -4611686018427387904 ≤ 1 + t ∧ 1 + t < 4611686018427387904 := by omega
      simp [m__law_number, b__law_number, runF, frees, back, sSeq, sIf, sRet, sNil, sSet, sPut, asB, ifE, bin2, rd, cst, frz, lstL, vNil, vCons, calB, callE, appE, resolve, slotsOf, putA, aSl, aVal, aNil, has?, ixSl, tName, rng1, Res.bind, Res.thn, Res.lift, SRes.seq, loopR, Sl.toD, O.toD, addD, subD, intD, mulD, fdivD, modD, powD, cmpD, gtD, eqD, neD, eqB, lenB, lenD, intB, sForT, ixD, e1, h0, h1, hw, e2, e3, s3, b1]
theorem repL_one (x : D) (n : Nat) : repL [x] n = List.replicate n x := by
  show (List.replicate ((n : Int)).toNat [x]).flatten = _
  rw [Int.toNat_natCast]
  induction n with
  | zero => rfl
  | succ n ih => rw [List.replicate_succ, List.flatten_cons, ih, List.replicate_succ]; rfl
def Ky.sz : Ky → Nat
  | .int _ => 0
  | .oct bs => bs.length
  | .txt cs => cs.length
/-! ### rows that differ -/
def Diff (r s : List Int) : Prop := ∃ (p : List Int) (x y : Int) (u v : List Int), r = p ++ x :: u ∧ s = p ++ y :: v ∧ x < y
theorem Diff.app {r s : List Int} (h : Diff r s) (a b : List Int) : Diff (r ++ a) (s ++ b) := by
  obtain ⟨p, x, y, u, v, rfl, rfl, lt⟩ := h
  exact ⟨p, x, y, u ++ a, v ++ b, by simp, by simp, lt⟩
theorem Diff.pre {r s : List Int} (h : Diff r s) (c : List Int) : Diff (c ++ r) (c ++ s) := by
  obtain ⟨p, x, y, u, v, rfl, rfl, lt⟩ := h
  exact ⟨c ++ p, x, y, u, v, by simp, by simp, lt⟩
theorem Diff.cons {r s : List Int} (h : Diff r s) (c : Int) : Diff (c :: r) (c :: s) := h.pre [c]
theorem Diff.head {x y : Int} (h : x < y) (u v : List Int) : Diff (x :: u) (y :: v) := ⟨[], x, y, u, v, rfl, rfl, h⟩
theorem Diff.lt {r s : List Int} (h : Diff r s) : HT.lexLt r s = true := by
  obtain ⟨p, x, y, u, v, rfl, rfl, lt⟩ := h
  exact lex_split p u v lt
theorem Diff.nlt {r s : List Int} (h : Diff r s) : HT.lexLt s r = false := by
  obtain ⟨p, x, y, u, v, rfl, rfl, lt⟩ := h
  induction p with
  | nil =>
    show HT.lexLt (y :: v) (x :: u) = false
    rw [HT.lexLt_cons, if_neg (by omega)]
    exact decide_eq_false (by omega)
  | cons a p ih =>
    show HT.lexLt (a :: (p ++ y :: v)) (a :: (p ++ x :: u)) = false
    rw [HT.lexLt_cons, if_pos rfl]
    exact ih
theorem Diff.ne {r s : List Int} (h : Diff r s) : r ≠ s := fun e => by
  have a := h.lt
  have b := h.nlt
  rw [e] at a b
  rw [a] at b
  cases b
theorem Diff.take {r s : List Int} (h : Diff r s) : r ≠ s.take r.length ∧ s ≠ r.take s.length := by
  obtain ⟨p, x, y, u, v, rfl, rfl, lt⟩ := h
  constructor
  · intro e
    have := congrArg (fun l : List Int => l[p.length]?) e
    simp only [List.getElem?_take] at this
    simp at this
    omega
  · intro e
    have := congrArg (fun l : List Int => l[p.length]?) e
    simp only [List.getElem?_take] at this
    simp at this
    omega
theorem Diff.code {n m : Nat} (h : n < m) : Diff (codeN n) (codeN m) := code_split h
theorem Diff.flip {n m : Nat} (h : n < m) : Diff (flip255 (codeN m)) (flip255 (codeN n)) := by
  obtain ⟨p, x, y, s, t, e1, e2, lt⟩ := code_split h
  refine ⟨p.map fun d => 255 - d, 255 - y, 255 - x, t.map fun d => 255 - d, s.map fun d => 255 - d, ?_, ?_, by omega⟩
  · rw [e2, flip255, List.map_append]
    rfl
  · rw [e1, flip255, List.map_append]
    rfl
theorem Diff.ints {i j : Int} (h : i < j) : Diff (rowI i) (rowI j) := by
  unfold rowI
  by_cases a : 0 ≤ i
  · rw [if_pos a, if_pos (by omega)]
    exact (Diff.code (by omega)).cons 5
  · rw [if_neg a]
    by_cases b : 0 ≤ j
    · rw [if_pos b]
      exact Diff.head (by decide) _ _
    · rw [if_neg b]
      exact (Diff.flip (by omega)).cons 4
theorem Diff.bytes : ∀ {a b : List Int}, a.length = b.length → a ≠ b → Diff a b ∨ Diff b a
  | [], [], _, h => (h rfl).elim
  | [], _ :: _, e, _ => by cases e
  | _ :: _, [], e, _ => by cases e
  | x :: a, y :: b, e, h => by
    by_cases c : x = y
    · subst c
      rcases Diff.bytes (a := a) (b := b) (by simpa using e) (fun z => h (by rw [z])) with d | d
      · exact .inl (d.cons x)
      · exact .inr (d.cons x)
    · rcases Int.lt_or_gt_of_ne c with d | d
      · exact .inl (.head d _ _)
      · exact .inr (.head d _ _)

/-! ### rows and values of models -/
def sortR {α : Type} (rs : List (Ky × α)) : List (Ky × α) := rs.mergeSort fun a b => !HT.lexLt b.1.row a.1.row
def joinR : List (Ky × List Int) → List Int
  | [] => []
  | (k, r) :: rs => k.row ++ (r ++ joinR rs)
mutual
def rowM : Mo → List Int
  | .non => [1]
  | .bl b => [if b then 3 else 2]
  | .int i => rowI i
  | .oct bs => 6 :: (codeN bs.length ++ bs)
  | .txt cs => 7 :: (codeN cs.length ++ cs.map fun (c : Nat) => (c : Int))
  | .lst ms => 8 :: (codeN ms.length ++ rowMs ms)
  | .map kvs => 9 :: (codeN kvs.length ++ joinR (sortR (rowMp kvs)))
  | .tag n m => 10 :: (codeN n ++ rowM m)
def rowMs : List Mo → List Int
  | [] => []
  | m :: r => rowM m ++ rowMs r
def rowMp : List (Ky × Mo) → List (Ky × List Int)
  | [] => []
  | (k, m) :: r => (k, rowM m) :: rowMp r
end
/-! ### the length of rows -/
/-! ### encoded -/
/-! ### codes read -/
theorem atI_zero {α : Type} (x : α) (xs : List α) : atI (x :: xs) 0 = some x := atI_nat (j := 0) rfl
/-! ### heads read -/
/-! ### scalars read -/
/-! ### models with ascending keys -/
mutual
/-- all maps have ascending keys -/
def sM : Mo → Prop
  | .non => True
  | .bl _ => True
  | .int _ => True
  | .oct _ => True
  | .txt _ => True
  | .lst ms => sMs ms
  | .map kvs => sortR kvs = kvs ∧ sMp kvs
  | .tag _ m => sM m
def sMs : List Mo → Prop
  | [] => True
  | m :: r => sM m ∧ sMs r
def sMp : List (Ky × Mo) → Prop
  | [] => True
  | (_, m) :: r => sM m ∧ sMp r
end
/-! ### the end of an item -/
/-! ### values read -/
theorem dPut_new {k : NestedKey} {d e : D} : ∀ {kvs : List (D × D)}, (∀ p ∈ kvs, nkOf p.1 ≠ some k) → dPut k d e kvs = kvs ++ [(d, e)]
  | [], _ => rfl
  | (a, b) :: r, h => by
    rw [dPut, if_neg (h (a, b) List.mem_cons_self), dPut_new fun p m => h p (List.mem_cons_of_mem _ m)]
    rfl
theorem in62 {n : Nat} (hn : n ≤ 2500) : -2 ^ 62 ≤ (n : Int) ∧ (n : Int) < 2 ^ 62 := ⟨by have : -2 ^ 62 ≤ (0 : Int) := by decide
                                                                                         omega, by have : (1001 : Int) ≤ 2 ^ 62 := by decide
                                                                                                   omega⟩
theorem rng1_at {g : ML} {l l1 : Ld} {n : Nat} (hn : n ≤ 2500) (h : g l = .ok [.int n] l1) : rng1 g l = .ok ((List.range n).map fun (k : Nat) => D.int k) l1 := by
  unfold rng1
  rw [h]
  have e : ∀ j : Int, -2 ^ 62 ≤ j ∧ j < 2 ^ 62 → (Res.ok [D.int j] l1).bind (fun ds l1 => match ds with
  | [.int j] => if -(2 ^ 62) ≤ j ∧ j < 2 ^ 62 then Res.ok ((List.range j.toNat).map fun (k : Nat) => D.int k) l1 else .stuck
  | _ => .stuck) = .ok ((List.range j.toNat).map fun (k : Nat) => D.int k) l1 := fun j h => if_pos h
  exact e n (in62 hn)
theorem runF_rt {g : MS} {n : Nat} {fs : List Nat} {ss ss' : List Sl} {s : Sl} {l : Ld} (hf : frees fs ss = true) (h : g (ss.map some ++ List.replicate (n - ss.length) none) = .rt s l) (hb : back ss l = some ss') : runF g n fs ss = .ok s ss' := by
  unfold runF
  rw [if_pos hf, h]
  show (match back ss l with | some ss' => FRes.ok s ss' | none => .stuck) = _
  rw [hb]
theorem e_code_loop (N : Nat) : ∀ (n : Nat) (ds : List Int), (digs n).length + ds.length ≤ N → N ≤ 1000 →
    whileM _law_code_c0 _law_code_b1 [some (.fr (.int n)), some (.fr (.list (ds.map .int)))] = .nx [some (.fr (.int 0)), some (.fr (.list ((digs n ++ ds).map .int)))] := by
  intro n
  induction n using Nat.strongRecOn with
  | ind n ih =>
    intro ds hl hN
    rw [whileM_eq]
    by_cases e : n = 0
    · subst e
      simp [_law_code_c0, sSeq, sSet, asB, bin2, rd, cst, frz, lstL, vNil, vCons, calB, has?, Res.bind, Res.thn, Res.lift, SRes.seq, loopR, Sl.toD, O.toD, addD, intD, fdivD, modD, cmpD, gtD, intB, digs_zero]
    · have hd := digs_pos e
      have l1 : (digs n).length = (digs (n / 256)).length + 1 := by rw [hd]; simp
      have step := ih (n / 256) (by omega) (((n % 256 : Nat) : Int) :: ds) (by simp only [List.length_cons]; omega) hN
      have s1 : 1 ≤ sizeLine := by decide
      have s2 : 1 + ds.length ≤ sizeLine := size_1000 (by omega)
      have m1 : (n : Int).fmod 256 = ((n % 256 : Nat) : Int) := by rw [Int.fmod_eq_emod_of_nonneg _ (by decide)]; rfl
      have m2 : (n : Int).fdiv 256 = ((n / 256 : Nat) : Int) := by rw [Int.fdiv_eq_ediv_of_nonneg _ (by decide)]; rfl
      have c : _law_code_c0 [some (.fr (.int n)), some (.fr (.list (ds.map .int)))] = .ok true [some (.fr (.int n)), some (.fr (.list (ds.map .int)))] := by
        simp [_law_code_c0, sSeq, sSet, asB, bin2, rd, cst, frz, lstL, vNil, vCons, calB, has?, Res.bind, Res.thn, Res.lift, SRes.seq, loopR, Sl.toD, O.toD, addD, intD, fdivD, modD, cmpD, gtD, intB]
        omega
      have b : _law_code_b1 [some (.fr (.int n)), some (.fr (.list (ds.map .int)))] = .nx [some (.fr (.int ((n / 256 : Nat) : Int))), some (.fr (.list ((((n % 256 : Nat) : Int) :: ds).map .int)))] := by
        simp [_law_code_b1, sSeq, sSet, asB, bin2, rd, cst, frz, lstL, vNil, vCons, calB, has?, Res.bind, Res.thn, Res.lift, SRes.seq, loopR, Sl.toD, O.toD, addD, intD, fdivD, modD, cmpD, gtD, intB, s1, s2, m1, m2, cDiv]
      rw [c]
      show loopR (_law_code_b1 _) _ = _
      rw [b]
      show whileM _ _ _ = _
      rw [step, hd]
      simp
theorem e__law_code {n : Nat} (h : n < 256 ^ 63) : m__law_code [.fr (.int n)] = .ok (.fr (.list ((codeN n).map .int))) [.fr (.int n)] := by
  have l := digs_len 63 n h
  have st := e_code_loop 63 n [] (by simpa using l) (by decide)
  simp only [List.map_nil, List.append_nil] at st
  have s1 : 1 ≤ sizeLine := by decide
  have s2 : 1 + (digs n).length ≤ sizeLine := size_1000 (by omega)
  by_cases c : n < 192
  · have c' : (n : Int) < 192 := by omega
    simp [m__law_code, b__law_code, runF, frees, back, sSeq, sIf, sRet, sNil, sSet, asB, bin2, rd, cst, frz, lstL, vNil, vCons, calB, has?, lenSl, Res.bind, Res.thn, Res.lift, SRes.seq, loopR, Sl.toD, O.toD, addD, intD, fdivD, modD, cmpD, gtD, ltD, lenD, intB, c', codeN, c, s1]
  · have c' : ¬ (n : Int) < 192 := by omega
    simp [m__law_code, b__law_code, runF, frees, back, sSeq, sIf, sRet, sNil, sSet, asB, bin2, rd, cst, frz, lstL, vNil, vCons, calB, has?, lenSl, Res.bind, Res.thn, Res.lift, SRes.seq, loopR, Sl.toD, O.toD, addD, intD, fdivD, modD, cmpD, gtD, ltD, lenD, intB, c', codeN, c, s1, s2, st]

/-! ### the law's order of pairs -/
/-! ### first_bad, by data -/
/-! keys looked at -/
/-! steps -/
/-! ### nests -/
/-! ### first_bad of models -/
/-! ### rows and documents of models -/
/-! ### documents compared -/
theorem e_doc_init {k : Int} {t : List Int} {z : Str} (h : atI (vKINDS.map D.str) k = some (.str z)) : m_Document___init__ [.ow (.ins "Document" []), .fr (.tup ((k :: t).map .int))] = .ok (.fr .non) [.ow (.ins "Document" [("data", .tup ((k :: t).map .int)), ("kind", .str z)]), .fr (.tup ((k :: t).map .int))] := by
  have i1 : ixD (.tup (.int k :: t.map .int)) (.int 0) = some (.int k) := atI_zero _ _
  have i2 : ixD (.tup (vKINDS.map .str)) (.int k) = some (.str z) := h
  have ne : ¬ (("data" : Str) = "kind") := by decide +kernel
  simp [m_Document___init__, b_Document___init__, runF, frees, back, sSeq, bin2, rd, cst, has?, ixSl, Res.bind, Res.thn, Res.lift, SRes.seq, Sl.toD, O.toD, sFldM, i1, i2, putFD, ne]
/-! ### no model of at most 24 levels has a bad part -/
/-! ### documents and rows of numbers compared -/
theorem eq_ints (q : List PyData → PyData) (c : List D → D) (hc : ∀ xs, toPy (c xs) = (toPys xs).map q) (hq : ∀ xs ys, PyData.eqv (q xs) (q ys) = PyData.eqvAll xs ys) (hl : ∀ xs, (q xs).canLay0 = PyData.canLayAll0 xs) (hd : ∀ xs, (q xs).depth = PyData.depthAll xs + 1) (a b : List Int) : ((toPy (c (a.map .int))).bind fun p => (toPy (c (b.map .int))).bind fun q => if SeqAt.shaped p = true ∧ SeqAt.shaped q = true then some (PyData.eqv p q) else none) = some (decide (a = b)) := by
  have sh : ∀ r : List Int, SeqAt.shaped (q (r.map .int)) = true := fun r => by
    have := dep_ints r
    rw [SeqAt.shaped, hl, lay_ints, hd, decide_eq_true (by omega)]
    rfl
  rw [hc, hc, toPys_ints, toPys_ints]
  show (if SeqAt.shaped (q (a.map .int)) = true ∧ SeqAt.shaped (q (b.map .int)) = true then some (PyData.eqv (q (a.map .int)) (q (b.map .int))) else none) = _
  rw [if_pos ⟨sh a, sh b⟩, hq, eqvI_all]
theorem eq_tups (a b : List Int) : eqD (.tup (a.map .int)) (.tup (b.map .int)) = some (.bl (decide (a = b))) := by
  have := eq_ints .tuple .tup (fun xs => by rw [toPy]) (fun xs ys => by rw [PyData.eqv]) (fun xs => by rw [PyData.canLay0]) (fun xs => by rw [PyData.depth]) a b
  show (eqB (.tup (a.map .int)) (.tup (b.map .int))).map D.bl = _
  have e : eqB (.tup (a.map .int)) (.tup (b.map .int)) = some (decide (a = b)) := this
  rw [e]
  rfl
theorem ne_listsI (a b : List Int) : neD (.list (a.map .int)) (.list (b.map .int)) = some (.bl !decide (a = b)) := by
  have := eq_ints .list .list (fun xs => by rw [toPy]) (fun xs ys => by rw [PyData.eqv]) (fun xs => by rw [PyData.canLay0]) (fun xs => by rw [PyData.depth]) a b
  show (eqB (.list (a.map .int)) (.list (b.map .int))).map _ = _
  have e : eqB (.list (a.map .int)) (.list (b.map .int)) = some (decide (a = b)) := this
  rw [e]
  rfl
/-! ### trees: rows -/
mutual
/-- the tree as data -/
def tD : Mo → D
  | .non => .non
  | .bl b => .bl b
  | .int i => .int i
  | .oct bs => .tup (bs.map .int)
  | .txt cs => .str (strOf cs)
  | .lst ms => .list [.str "list", .list (tDs ms)]
  | .map kvs => .list [.str "map", .list (tDp kvs)]
  | .tag n m => .list [.str "tag", .int n, tD m]
def tDs : List Mo → List D
  | [] => []
  | m :: r => tD m :: tDs r
def tDp : List (Ky × Mo) → List D
  | [] => []
  | (k, m) :: r => .tup [k.v, tD m] :: tDp r
end
def Ky.mo : Ky → Mo
  | .int i => .int i
  | .oct bs => .oct bs
  | .txt cs => .txt cs
theorem Ky.tD (k : Ky) : Sb.tD k.mo = k.v := by cases k <;> rw [Ky.mo, Sb.tD] <;> rfl
theorem Ky.rowM (k : Ky) : Sb.rowM k.mo = k.row := by cases k <;> rw [Ky.mo, Sb.rowM] <;> rfl
theorem Ky.okM {k : Ky} (h : k.ok) (d : Nat) : Sb.okM d k.mo := by cases k <;> rw [Ky.mo, Sb.okM] <;> exact h
theorem Ky.sM (k : Ky) : Sb.sM k.mo := by cases k <;> rw [Ky.mo, Sb.sM] <;> trivial
theorem Ky.cnt (k : Ky) : cntM k.mo = 1 := by cases k <;> rw [Ky.mo, cntM]
theorem eqD_i (a b : Int) : eqD (.int a) (.int b) = some (.bl (decide (a = b))) := by
  simp [eqD, eqB]
/-! a key's row -/
section
end
/-! the row of a tree -/
def LRowT (rec : MF) (d : Nat) : Prop := ∀ mo, okM d mo → sM mo → cntM mo ≤ 2500 → rec [.fr (tD mo)] = .ok (.fr (.list ((rowM mo).map .int))) [.fr (tD mo)]
theorem LRowT.key {rec : MF} {d : Nat} (h : LRowT rec d) {k : Ky} (ok : k.ok) : rec [.fr k.v] = .ok (.fr (.list (k.row.map .int))) [.fr k.v] := by
  have := h k.mo (k.okM ok d) k.sM (by rw [Ky.cnt]; omega)
  rwa [Ky.tD, Ky.rowM] at this
/-! ### trees: heads, the pairs of a map -/
/-! ### trees: drawn -/
theorem seq_nx {a b : MS} {l l1 : Ld} {r : SRes} (h : a l = .nx l1) (h2 : b l1 = r) : sSeq a b l = r := by
  unfold sSeq
  rw [h]
  exact h2
theorem seq_rt {a b : MS} {l l1 : Ld} {s : Sl} (h : a l = .rt s l1) : sSeq a b l = .rt s l1 := by
  unfold sSeq
  rw [h]
  rfl
/-! ### statements over cells, one by one -/
/-! ### number_at, by data -/
/-! ### skipping: codes and heads -/
def fx (f : Bool) (x : Int) : Int := if f then 255 - x else x
/-! heads -/
section
variable {R : List D} {at_ : Nat}
end

/-! ### skipping: rows with free places -/
def Fits (R : List D) (e : Nat) (ps : List (Option Int)) : Prop := ∀ (i : Nat) (x : Int), ps[i]? = some (some x) → e + i < R.length → R[e + i]? = some (.int x)
theorem Fits.left {R : List D} {e : Nat} {p q : List (Option Int)} (h : Fits R e (p ++ q)) : Fits R e p := fun i x hx hl => h i x (by
  have := (List.getElem?_eq_some_iff.mp hx).1
  rw [List.getElem?_append_left this]
  exact hx) hl
theorem Fits.right {R : List D} {e : Nat} {p q : List (Option Int)} (h : Fits R e (p ++ q)) : Fits R (e + p.length) q := fun i x hx hl => by
  have := h (p.length + i) x (by rw [List.getElem?_append_right (by omega)]; simpa using hx) (by omega)
  rwa [← Nat.add_assoc] at this
/-! frames as cells -/
structure Frm where
  p : Nat
  m : Bool
  n : Nat
def frmC (f : Frm) : Cell := .lst [.d (.bl f.m), .d (.int f.n)]
structure FrAt (c : Cells) (fs : List Frm) : Prop where
  top : c[1]? = some (.lst (fs.map fun f => .p f.p))
  cel : ∀ f ∈ fs, f.p ≠ 1 ∧ c[f.p]? = some (frmC f)
  nd : (fs.map (·.p)).Nodup
section
variable {R : List D} {a : D} {e : Nat} {c : Cells} {o4 o5 o6 o7 o8 : Option A}
theorem FrAt.last {S : List Frm} {f : Frm} (h : FrAt c (S ++ [f])) : f.p ≠ 1 ∧ c[f.p]? = some (frmC f) := h.cel f (by simp)
end

/-! ### skipping: whole items -/
section
variable {R : List D} {e : Nat}
/-! keys -/
end

/-! ### skipping: the turns of the loop -/
def newF : Mo → List (Bool × Nat)
  | .lst ms => [(false, ms.length)]
  | .map kvs => [(true, 2 * kvs.length)]
  | .tag _ _ => [(false, 1)]
  | _ => []
section
variable {R : List D} {a : D} {e : Nat} {c : Cells} {o4 o5 o6 o7 o8 : Option A} {S : List Frm} {f : Frm}
end

/-! ### skipping: items in a row -/
section
variable {R : List D} {a : D}
/-! the def itself -/
end

/-! ### small lemmas for the loose laws -/
theorem sset_bin {f : D → D → Option D} {a b : ME} {i : Nat} {l l1 l2 : Ld} {x y z : D} (ha : a l = .ok x l1) (hb : b l1 = .ok y l2) (h : f x y = some z) : sSet i (bin2 f a b) l = .nx (l2.set i (some (.fr z))) := by
  have e : bin2 f a b l = .ok z l2 := by
    unfold bin2
    rw [ha]
    simp only [Res.bind, hb, Res.lift, h]
  unfold sSet
  rw [e]
  rfl
theorem sset_of {a : ME} {i : Nat} {l l1 : Ld} {x : D} (ha : a l = .ok x l1) : sSet i a l = .nx (l1.set i (some (.fr x))) := by
  unfold sSet
  rw [ha]
  rfl
theorem runF_err {g : MS} {n : Nat} {fs : List Nat} {ss ss' : List Sl} {c f : Str} {d : D} {l : Ld} (hf : frees fs ss = true) (h : g (ss.map some ++ List.replicate (n - ss.length) none) = .err c f d l) (hb : back ss l = some ss') : runF g n fs ss = .err c f d ss' := by
  unfold runF
  rw [if_pos hf, h]
  dsimp only
  rw [hb]

/-! ### errors on their way -/
def Keep (l l' : Ld) : Prop := l'.length = l.length ∧ ∀ i, has? i l = true → has? i l' = true
theorem Keep.refl (l : Ld) : Keep l l := ⟨rfl, fun _ h => h⟩
theorem Keep.trans {a b c : Ld} (h : Keep a b) (k : Keep b c) : Keep a c := ⟨k.1.trans h.1, fun i z => k.2 i (h.2 i z)⟩
theorem has_is {i : Nat} {l : Ld} (h : has? i l = true) : ∃ s, l[i]? = some (some s) := has_some h
theorem has_of {i : Nat} {l : Ld} {s : Sl} (h : l[i]? = some (some s)) : has? i l = true := by
  unfold has?
  rw [h]
theorem Keep.set (l : Ld) (i : Nat) (s : Sl) : Keep l (l.set i (some s)) := by
  refine ⟨by rw [List.length_set], fun j h => ?_⟩
  obtain ⟨t, e⟩ := has_is h
  by_cases c : i = j
  · subst c
    have lt := (List.getElem?_eq_some_iff.mp e).1
    exact has_of (s := s) (by rw [List.getElem?_set_self lt])
  · exact has_of (s := t) (by rw [List.getElem?_set_ne c]; exact e)
theorem Keep.putA : ∀ (as : List Arg) (ss : List Sl) (l : Ld), Keep l (putA as ss l)
  | .sl i :: as, s :: ss, l => (Keep.set l i s).trans (Keep.putA as ss _)
  | .val _ :: as, _ :: ss, l => Keep.putA as ss l
  | [], _, l => by rw [Sb.putA]; exact .refl l; all_goals intros; contradiction
  | .sl i :: as, [], l => by rw [Sb.putA]; exact .refl l; all_goals intros; contradiction
  | .val i :: as, [], l => by rw [Sb.putA]; exact .refl l; all_goals intros; contradiction
theorem back_some : ∀ {ss : List Sl} {l : Ld}, ss.length ≤ l.length → (∀ i o, ss[i]? = some (.ow o) → has? i l = true) → ∃ ss', back ss l = some ss' ∧ ss'.length = ss.length
  | [], l, _, _ => ⟨[], by rw [back], rfl⟩
  | .fr d :: ss, [], hl, _ => by simp at hl
  | .ow d :: ss, [], hl, _ => by simp at hl
  | .fr d :: ss, t :: l, hl, h => by
    obtain ⟨ss', e, n⟩ := back_some (ss := ss) (l := l) (by simpa using hl) fun i o z => by
      have := h (i + 1) o (by simpa using z)
      obtain ⟨s, e⟩ := has_is this
      exact has_of (s := s) (by simpa using e)
    exact ⟨.fr d :: ss', by rw [back, e]; rfl, by rw [List.length_cons, List.length_cons, n]⟩
  | .ow d :: ss, t :: l, hl, h => by
    obtain ⟨ss', e, n⟩ := back_some (ss := ss) (l := l) (by simpa using hl) fun i o z => by
      have := h (i + 1) o (by simpa using z)
      obtain ⟨s, e⟩ := has_is this
      exact has_of (s := s) (by simpa using e)
    obtain ⟨s, e0⟩ := has_is (h 0 d rfl)
    have e0 : t = some s := by simpa using e0
    subst e0
    exact ⟨s :: ss', by rw [back, e]; rfl, by rw [List.length_cons, List.length_cons, n]⟩
def ErrM (m : MF) (ss : List Sl) (c : Str) (d : D) : Prop := ∃ ss', m ss = .err c "at" d ss' ∧ ss'.length = ss.length
def ErrE (e : ME) (l : Ld) (c : Str) (d : D) : Prop := ∃ l', e l = .err c "at" d l' ∧ Keep l l'
def ErrL (e : ML) (l : Ld) (c : Str) (d : D) : Prop := ∃ l', e l = .err c "at" d l' ∧ Keep l l'
def ErrA (e : MA) (l : Ld) (c : Str) (d : D) : Prop := ∃ l', e l = .err c "at" d l' ∧ Keep l l'
def ErrT (e : MT) (l : Ld) (c : Str) (d : D) : Prop := ∃ l', e l = .err c "at" d l' ∧ Keep l l'
def ErrS (b : MS) (l : Ld) (c : Str) (d : D) : Prop := ∃ l', b l = .err c "at" d l' ∧ Keep l l'
section
variable {c : Str} {d : D} {l l1 : Ld}
theorem runF_errS {g : MS} {n : Nat} {fs : List Nat} {ss : List Sl} (hf : frees fs ss = true) (hn : ss.length ≤ n) (h : ErrS g (ss.map some ++ List.replicate (n - ss.length) none) c d) : ErrM (runF g n fs) ss c d := by
  obtain ⟨l', e, k⟩ := h
  obtain ⟨ss', hb, hl⟩ := back_some (ss := ss) (l := l') (by rw [k.1, List.length_append, List.length_map]; omega) fun i o z => k.2 i (has_of (s := .ow o) (by
    have lt := (List.getElem?_eq_some_iff.mp z).1
    rw [List.getElem?_append_left (by rw [List.length_map]; exact lt), List.getElem?_map, z]
    rfl))
  refine ⟨ss', ?_, hl⟩
  unfold runF
  rw [if_pos hf, e]
  dsimp only
  rw [hb]
theorem appE_err {m : MF} {as : List Arg} {ss : List Sl} (hr : resolve l as = some ss) (nd : (slotsOf as).Nodup) (h : ErrM m ss c d) : ErrE (appE m [] as) l c d := by
  obtain ⟨ss', e, n⟩ := h
  refine ⟨putA as (ss'.take ss.length) l, ?_, Keep.putA _ _ _⟩
  unfold appE
  rw [hr]
  dsimp only
  rw [if_pos nd, List.map_nil, List.append_nil, e]
  dsimp only
  rw [if_pos (by simpa using n)]
theorem set_errE {i : Nat} {e : ME} (h : ErrE e l c d) : ErrS (sSet i e) l c d := by
  obtain ⟨l', h, k⟩ := h
  refine ⟨l', ?_, k⟩
  unfold sSet
  rw [h]
  rfl
theorem ex_errE {e : ME} (h : ErrE e l c d) : ErrS (sEx e) l c d := by
  obtain ⟨l', h, k⟩ := h
  refine ⟨l', ?_, k⟩
  unfold sEx
  rw [h]
  rfl
theorem ret_errE {e : ME} (h : ErrE e l c d) : ErrS (sRet e) l c d := by
  obtain ⟨l', h, k⟩ := h
  refine ⟨l', ?_, k⟩
  unfold sRet
  rw [h]
  rfl
theorem seq_errL {a b : MS} (h : ErrS a l c d) : ErrS (sSeq a b) l c d := by
  obtain ⟨l', h, k⟩ := h
  refine ⟨l', ?_, k⟩
  unfold sSeq
  rw [h]
  rfl
theorem seq_errR {a b : MS} (h : a l = .nx l1) (k : Keep l l1) (hb : ErrS b l1 c d) : ErrS (sSeq a b) l c d := by
  obtain ⟨l', e, k2⟩ := hb
  refine ⟨l', ?_, k.trans k2⟩
  unfold sSeq
  rw [h]
  exact e
theorem if_errA {t : MT} {a b : MS} (h : t l = .ok true l1) (k : Keep l l1) (ha : ErrS a l1 c d) : ErrS (sIf t a b) l c d := by
  obtain ⟨l', e, k2⟩ := ha
  refine ⟨l', ?_, k.trans k2⟩
  unfold sIf
  rw [h]
  exact e
theorem if_errB {t : MT} {a b : MS} (h : t l = .ok false l1) (k : Keep l l1) (ha : ErrS b l1 c d) : ErrS (sIf t a b) l c d := by
  obtain ⟨l', e, k2⟩ := ha
  refine ⟨l', ?_, k.trans k2⟩
  unfold sIf
  rw [h]
  exact e
theorem raise_errS {e : ME} {cl : Str} (h : e l = .ok d l) : ErrS (sRaise cl "at" e) l cl d := by
  refine ⟨l, ?_, .refl l⟩
  unfold sRaise
  rw [h]
  rfl
theorem bin_errL {f : D → D → Option D} {a b : ME} (h : ErrE a l c d) : ErrE (bin2 f a b) l c d := by
  obtain ⟨l', h, k⟩ := h
  refine ⟨l', ?_, k⟩
  unfold bin2
  rw [h]
  rfl
theorem bin_errR {f : D → D → Option D} {a b : ME} {x : D} (h : a l = .ok x l1) (k : Keep l l1) (hb : ErrE b l1 c d) : ErrE (bin2 f a b) l c d := by
  obtain ⟨l', e, k2⟩ := hb
  refine ⟨l', ?_, k.trans k2⟩
  unfold bin2
  rw [h]
  simp only [Res.bind, e]
theorem asB_err {e : ME} (h : ErrE e l c d) : ErrT (asB e) l c d := by
  obtain ⟨l', h, k⟩ := h
  refine ⟨l', ?_, k⟩
  unfold asB
  rw [h]
  rfl
theorem vcons_errL {e : ME} {r : ML} (h : ErrE e l c d) : ErrL (vCons e r) l c d := by
  obtain ⟨l', h, k⟩ := h
  refine ⟨l', ?_, k⟩
  unfold vCons
  rw [h]
  rfl
theorem mt_err {i : Nat} {f : List D → List D → Option (D × List D)} {g : ML} (hi : isOw i l = true) (h : ErrL g l c d) : ErrE (mtS i f g) l c d := by
  obtain ⟨l', h, k⟩ := h
  refine ⟨l', ?_, k⟩
  unfold mtS
  rw [if_pos hi, h]
  rfl
theorem aval_err {e : ME} {r : MA} (h : ErrE e l c d) : ErrA (aVal e r) l c d := by
  obtain ⟨l', h, k⟩ := h
  refine ⟨l', ?_, k⟩
  unfold aVal
  rw [h]
  rfl
theorem call_errA {m : MF} {dd : List D} {r : MA} (h : ErrA r l c d) : ErrE (callE m dd r) l c d := by
  obtain ⟨l', h, k⟩ := h
  refine ⟨l', ?_, k⟩
  unfold callE
  rw [h]
  rfl
theorem calB_err {f : List D → Option D} {r : ML} (h : ErrL r l c d) : ErrE (calB f r) l c d := by
  obtain ⟨l', h, k⟩ := h
  refine ⟨l', ?_, k⟩
  unfold calB
  rw [h]
  rfl
theorem while_errT {t : MT} {b : MS} (h : ErrT t l c d) : ErrS (whileM t b) l c d := by
  obtain ⟨l', h, k⟩ := h
  refine ⟨l', ?_, k⟩
  rw [whileM_eq, h]
  rfl
theorem while_errB {t : MT} {b : MS} (h : t l = .ok true l1) (k : Keep l l1) (hb : ErrS b l1 c d) : ErrS (whileM t b) l c d := by
  obtain ⟨l', e, k2⟩ := hb
  exact ⟨l', while_err h e, k.trans k2⟩
theorem while_errN {t : MT} {b : MS} {l2 : Ld} (h : t l = .ok true l1) (hb : b l1 = .nx l2) (k : Keep l l2) (hr : ErrS (whileM t b) l2 c d) : ErrS (whileM t b) l c d := by
  obtain ⟨l', e, k2⟩ := hr
  exact ⟨l', (while_go h hb).trans e, k.trans k2⟩
theorem for_errB {t : MG} {b : MS} {x : D} {xs : List D} (h : t x l = some l1) (k : Keep l l1) (hb : ErrS b l1 c d) : ErrS (forT t b (x :: xs)) l c d := by
  obtain ⟨l', e, k2⟩ := hb
  refine ⟨l', ?_, k.trans k2⟩
  rw [forT, h]
  dsimp only
  rw [e]
  rfl
theorem for_errN {t : MG} {b : MS} {x : D} {xs : List D} {l2 : Ld} (h : t x l = some l1) (hb : b l1 = .nx l2) (k : Keep l l2) (hr : ErrS (forT t b xs) l2 c d) : ErrS (forT t b (x :: xs)) l c d := by
  obtain ⟨l', e, k2⟩ := hr
  refine ⟨l', ?_, k.trans k2⟩
  rw [forT, h]
  dsimp only
  rw [hb]
  exact e
end
/-! ### the loose reader -/
def rfs (R : List D) (s : Nat) : List (Str × D) := [("row", .tup R), ("spot", .int s)]
def rdr (R : List D) (s : Nat) : Sl := .ow (.ins "LooseReader" (rfs R s))
theorem rd_names : (("spot" : Str) == "row") = false ∧ ("row" : Str) ≠ "spot" := by decide +kernel
section
variable {R : List D} {s : Nat} {l : Ld}
theorem f_row : fldO "row" ["LooseReader"] 0 (some (rdr R s) :: l) = .ok (.tup R) (some (rdr R s) :: l) := by
  show (if ("LooseReader" : Str) ∈ (["LooseReader"] : List Str) then Res.lift (List.lookup ("row" : Str) (rfs R s)) _ else Res.stuck) = _
  rw [if_pos (by simp)]
  simp [rfs, List.lookup, Res.lift]
theorem f_spot : fldO "spot" ["LooseReader"] 0 (some (rdr R s) :: l) = .ok (.int s) (some (rdr R s) :: l) := by
  show (if ("LooseReader" : Str) ∈ (["LooseReader"] : List Str) then Res.lift (List.lookup ("spot" : Str) (rfs R s)) _ else Res.stuck) = _
  rw [if_pos (by simp)]
  simp [rfs, List.lookup, Res.lift, rd_names.1]
theorem f_row1 {a : Option Sl} : fldO "row" ["LooseReader"] 1 (a :: some (rdr R s) :: l) = .ok (.tup R) (a :: some (rdr R s) :: l) := by
  show (if ("LooseReader" : Str) ∈ (["LooseReader"] : List Str) then Res.lift (List.lookup ("row" : Str) (rfs R s)) _ else Res.stuck) = _
  rw [if_pos (by simp)]
  simp [rfs, List.lookup, Res.lift]
theorem f_spot1 {a : Option Sl} : fldO "spot" ["LooseReader"] 1 (a :: some (rdr R s) :: l) = .ok (.int s) (a :: some (rdr R s) :: l) := by
  show (if ("LooseReader" : Str) ∈ (["LooseReader"] : List Str) then Res.lift (List.lookup ("spot" : Str) (rfs R s)) _ else Res.stuck) = _
  rw [if_pos (by simp)]
  simp [rfs, List.lookup, Res.lift, rd_names.1]
theorem f_aug : sFldAug (fun i j => i + j) 0 "spot" ["LooseReader"] (cst (.int 1)) (some (rdr R s) :: l) = .nx (some (rdr R (s + 1)) :: l) := by
  have lk : List.lookup ("spot" : Str) (rfs R s) = some (.int s) := by simp [rfs, List.lookup, rd_names.1]
  have pt : putFD "spot" (.int ((s : Int) + 1)) (rfs R s) = rfs R (s + 1) := by
    simp [rfs, putFD, rd_names.2]
  have ln : (rfs R s).length < 1000 := by show 2 < 1000; omega
  unfold sFldAug rdr
  generalize rfs R (s + 1) = f1 at *
  generalize rfs R s = f0 at *
  simp [lk, cst, Res.thn, pt, ln]
theorem m_at0 {name : Str} {m : MF} {ga : MA} (h1 : (name == "row") = false) (h2 : (name == "spot") = false) : methO "LooseReader" name m [] 0 ga (some (rdr R s) :: l) = (ga (some (rdr R s) :: l)).bind fun as l2 => appE m [] (.sl 0 :: as) l2 := by
  have lk : (List.lookup name (rfs R s)).isNone = true := by simp [rfs, List.lookup, h1, h2]
  show (if ("LooseReader" : Str) = "LooseReader" ∧ (List.lookup name (rfs R s)).isNone = true then _ else _) = _
  rw [if_pos ⟨rfl, lk⟩]
theorem m_at1 {name : Str} {m : MF} {ga : MA} {a : Option Sl} (h1 : (name == "row") = false) (h2 : (name == "spot") = false) : methO "LooseReader" name m [] 1 ga (a :: some (rdr R s) :: l) = (ga (a :: some (rdr R s) :: l)).bind fun as l2 => appE m [] (.sl 1 :: as) l2 := by
  have lk : (List.lookup name (rfs R s)).isNone = true := by simp [rfs, List.lookup, h1, h2]
  show (if ("LooseReader" : Str) = "LooseReader" ∧ (List.lookup name (rfs R s)).isNone = true then _ else _) = _
  rw [if_pos ⟨rfl, lk⟩]
end

/-! ### what the loose reader meets -/
inductive Ro where
  | kind | kin0 | key | pc (k : Int) | first | flip | rest | char
def Ro.bad : Ro → Int → Prop
  | .kind, b => ¬ (1 ≤ b ∧ b ≤ 15)
  | .kin0, b => ¬ ((1 ≤ b ∧ b ≤ 7) ∨ b = 11 ∨ b = 12 ∨ b = 15)
  | .key, b => ¬ ((4 ≤ b ∧ b ≤ 7) ∨ b = 11 ∨ b = 12 ∨ b = 15)
  | .pc k, b => ¬ (b = 0 ∨ b = k ∨ b = 15)
  | .first, b => b = 255
  | .flip, b => b = 0
  | .rest, _ => False
  | .char, b => ¬ ((32 ≤ b ∧ b ≤ 126 ∧ b ≠ 37) ∨ b = 9 ∨ b = 10)
def NoB (x : D) : Prop := m_is_byte [.fr x] = .ok (.fr (.bl false)) [.fr x]
def Ref (r : Ro) (x : D) : Prop := NoB x ∨ ∃ b : Int, x = .int b ∧ 0 ≤ b ∧ b ≤ 255 ∧ r.bad b
abbrev Prs := List (Int × Ro)
def Ft (R : List D) (s : Nat) (ps : Prs) : Prop := ∀ (i : Nat) (p : Int × Ro), ps[i]? = some p → R[s + i]? = some (.int p.1)
def Bys (ps : Prs) : Prop := ∀ p ∈ ps, 0 ≤ p.1 ∧ p.1 ≤ 255
def Sto (R : List D) (s : Nat) (r : Ro) (c : Str) (d : D) : Prop := (R.length = s ∧ c = "Unfinished" ∧ d = .int R.length) ∨ ∃ x, R[s]? = some x ∧ Ref r x ∧ c = "WrongByte" ∧ d = .int s
def Stp (R : List D) (s : Nat) (ps : Prs) (c : Str) (d : D) : Prop := ∃ j p, ps[j]? = some p ∧ Ft R s (ps.take j) ∧ Sto R (s + j) p.2 c d
theorem Ft.nil (R : List D) (s : Nat) : Ft R s [] := fun i p h => by cases h
theorem Ft.cons {R : List D} {s : Nat} {p : Int × Ro} {ps : Prs} (h : Ft R s (p :: ps)) : R[s]? = some (.int p.1) ∧ Ft R (s + 1) ps := ⟨h 0 p rfl, fun i q hq => by
  have := h (i + 1) q hq
  rwa [show s + (i + 1) = s + 1 + i by omega] at this⟩
theorem Ft.mk {R : List D} {s : Nat} {p : Int × Ro} {ps : Prs} (h : R[s]? = some (.int p.1)) (k : Ft R (s + 1) ps) : Ft R s (p :: ps) := fun i q hq => by
  cases i with
  | zero => cases hq; exact h
  | succ i =>
    have := k i q hq
    rwa [show s + 1 + i = s + (i + 1) by omega] at this
theorem Ft.left {R : List D} {s : Nat} {p q : Prs} (h : Ft R s (p ++ q)) : Ft R s p := fun i x hx => h i x (by
  rw [List.getElem?_append_left (List.getElem?_eq_some_iff.mp hx).1]
  exact hx)
theorem Ft.right {R : List D} {s : Nat} {p q : Prs} (h : Ft R s (p ++ q)) : Ft R (s + p.length) q := fun i x hx => by
  have := h (p.length + i) x (by rw [List.getElem?_append_right (by omega)]; simpa using hx)
  rwa [← Nat.add_assoc] at this
theorem Stp.cons {R : List D} {s : Nat} {p : Int × Ro} {ps : Prs} {c : Str} {d : D} (h : Stp R s (p :: ps) c d) : Sto R s p.2 c d ∨ (R[s]? = some (.int p.1) ∧ Stp R (s + 1) ps c d) := by
  obtain ⟨j, q, e, f, z⟩ := h
  cases j with
  | zero => cases e; exact .inl z
  | succ j =>
    rw [List.take_succ_cons] at f
    obtain ⟨a, b⟩ := f.cons
    refine .inr ⟨a, j, q, e, b, ?_⟩
    rwa [show s + (j + 1) = s + 1 + j by omega] at z
theorem Stp.nil {R : List D} {s : Nat} {c : Str} {d : D} (h : Stp R s [] c d) : False := by
  obtain ⟨j, q, e, _, _⟩ := h
  cases e
theorem Stp.app {R : List D} {s : Nat} {p q : Prs} {c : Str} {d : D} (h : Stp R s (p ++ q) c d) : Stp R s p c d ∨ (Ft R s p ∧ Stp R (s + p.length) q c d) := by
  obtain ⟨j, x, e, f, z⟩ := h
  by_cases hj : j < p.length
  · rw [List.getElem?_append_left hj] at e
    rw [List.take_append_of_le_length (by omega)] at f
    exact .inl ⟨j, x, e, f, z⟩
  · rw [List.getElem?_append_right (by omega)] at e
    have tk : (p ++ q).take j = p ++ q.take (j - p.length) := by
      rw [List.take_append, List.take_of_length_le (by omega)]
    rw [tk] at f
    refine .inr ⟨f.left, j - p.length, x, e, f.right, ?_⟩
    rwa [show s + p.length + (j - p.length) = s + j by omega]
theorem Bys.left {p q : Prs} (h : Bys (p ++ q)) : Bys p := fun x m => h x (List.mem_append_left _ m)
theorem Bys.right {p q : Prs} (h : Bys (p ++ q)) : Bys q := fun x m => h x (List.mem_append_right _ m)
structure Sp (m : MF) (as : List Sl) (ps : Prs) (res : Sl) (as' : List Sl) : Prop where
  ok : ∀ (R : List D) (s : Nat), Ft R s ps → m (rdr R s :: as) = .ok res (rdr R (s + ps.length) :: as')
  er : ∀ (R : List D) (s : Nat) (c : Str) (d : D), Stp R s ps c d → ErrM m (rdr R s :: as) c d
section
variable {R : List D} {s : Nat}
theorem look_ok {b : Int} (h : R[s]? = some (.int b)) (h0 : 0 ≤ b) (h1 : b ≤ 255) : m_LooseReader_look [rdr R s] = .ok (.fr (.int b)) [rdr R s] := by
  have lt := (List.getElem?_eq_some_iff.mp h).1
  have g : geD (.int s) (.int R.length) = some (.bl false) := by
    show some (D.bl (decide ((s : Int) ≥ R.length))) = _
    rw [decide_eq_false (by omega)]
  have lb : lenB [.tup R] = some (.int R.length) := by simp [lenB, lenD]
  have ix : ixD (.tup R) (.int s) = some (.int b) := atI_nat h
  have ib := e_is_byte_int b
  rw [decide_eq_true ⟨h0, h1⟩] at ib
  have fo : Sl.toD (.fr (.bl true)) = .bl true := rfl
  refine runF_rt (l := [some (rdr R s)]) rfl ?_ rfl
  show b_LooseReader_look [some (rdr R s)] = _
  simp [b_LooseReader_look, runF, frees, back, sSeq, sIf, sRet, sNil, sRaise, asB, tru, notT, andE, notE, bin2, un1, rd, cst, vNil, vCons, calB, callE, appE, resolve, slotsOf, putA, aSl, aVal, aNil, has?, chn, Res.bind, Res.thn, Res.lift, SRes.seq, Sl.toD, O.toD, isiE, f_row, f_spot, g, lb, ix, ib, truD]
theorem look_unf (h : R.length = s) : m_LooseReader_look [rdr R s] = .err "Unfinished" "at" (.int R.length) [rdr R s] := by
  have g : geD (.int s) (.int R.length) = some (.bl true) := by
    show some (D.bl (decide ((s : Int) ≥ R.length))) = _
    rw [decide_eq_true (by omega)]
  have lb : lenB [.tup R] = some (.int R.length) := by simp [lenB, lenD]
  refine runF_err (l := [some (rdr R s)]) rfl ?_ rfl
  show b_LooseReader_look [some (rdr R s)] = _
  simp [b_LooseReader_look, runF, frees, back, sSeq, sIf, sRet, sNil, sRaise, asB, tru, notT, andE, notE, bin2, un1, rd, cst, vNil, vCons, calB, callE, appE, resolve, slotsOf, putA, aSl, aVal, aNil, has?, chn, Res.bind, Res.thn, Res.lift, SRes.seq, Sl.toD, O.toD, isiE, f_row, f_spot, g, lb]
theorem look_wr {x : D} (h : R[s]? = some x) (hw : NoB x) : m_LooseReader_look [rdr R s] = .err "WrongByte" "at" (.int s) [rdr R s] := by
  have lt := (List.getElem?_eq_some_iff.mp h).1
  have g : geD (.int s) (.int R.length) = some (.bl false) := by
    show some (D.bl (decide ((s : Int) ≥ R.length))) = _
    rw [decide_eq_false (by omega)]
  have lb : lenB [.tup R] = some (.int R.length) := by simp [lenB, lenD]
  have ix : ixD (.tup R) (.int s) = some x := atI_nat h
  have ib : m_is_byte [.fr x] = .ok (.fr (.bl false)) [.fr x] := hw
  refine runF_err (l := [some (rdr R s)]) rfl ?_ rfl
  show b_LooseReader_look [some (rdr R s)] = _
  simp [b_LooseReader_look, runF, frees, back, sSeq, sIf, sRet, sNil, sRaise, asB, tru, notT, andE, notE, bin2, un1, rd, cst, vNil, vCons, calB, callE, appE, resolve, slotsOf, putA, aSl, aVal, aNil, has?, chn, Res.bind, Res.thn, Res.lift, SRes.seq, Sl.toD, O.toD, isiE, f_row, f_spot, g, lb, ix, ib, truD]
theorem lk_ok {b : Int} {l : Ld} (h : R[s]? = some (.int b)) (h0 : 0 ≤ b) (h1 : b ≤ 255) : methO "LooseReader" "look" m_LooseReader_look [] 0 aNil (some (rdr R s) :: l) = .ok (.int b) (some (rdr R s) :: l) := by
  have e := look_ok h h0 h1
  rw [m_at0 (by decide +kernel) (by decide +kernel)]
  generalize rdr R s = r at *
  simp [aNil, Res.bind, appE, resolve, slotsOf, putA, e, Sl.toD]
theorem lk_err {l : Ld} {c : Str} {d : D} (h : (R.length = s ∧ c = "Unfinished" ∧ d = .int R.length) ∨ ∃ x, R[s]? = some x ∧ NoB x ∧ c = "WrongByte" ∧ d = .int s) : ErrE (methO "LooseReader" "look" m_LooseReader_look [] 0 aNil) (some (rdr R s) :: l) c d := by
  have k : ErrM m_LooseReader_look [rdr R s] c d := by
    rcases h with ⟨a, rfl, rfl⟩ | ⟨x, a, b, rfl, rfl⟩
    · exact ⟨_, look_unf a, rfl⟩
    · exact ⟨_, look_wr a b, rfl⟩
  have := appE_err (as := [.sl 0]) (l := some (rdr R s) :: l) (ss := [rdr R s]) rfl (by simp [slotsOf]) k
  obtain ⟨l', e, kk⟩ := this
  refine ⟨l', ?_, kk⟩
  rw [m_at0 (by decide +kernel) (by decide +kernel)]
  exact e
theorem mc_ok {name : Str} {m : MF} {as as' : List Sl} {ps : Prs} {res : Sl} (sp : Sp m as ps res as') (h1 : (name == "row") = false) (h2 : (name == "spot") = false) {ga : MA} {l l2 : Ld} {args : List Arg} (hga : ga (some (rdr R s) :: l) = .ok args (some (rdr R s) :: l)) (hr : resolve (some (rdr R s) :: l) args = some as) (nd : (slotsOf (.sl 0 :: args)).Nodup) (hl : as'.length = as.length) (F : Ft R s ps)
    (hp : putA args as' (some (rdr R (s + ps.length)) :: l) = l2) : methO "LooseReader" name m [] 0 ga (some (rdr R s) :: l) = .ok res.toD l2 := by
  rw [m_at0 h1 h2, hga]
  show appE m [] (.sl 0 :: args) (some (rdr R s) :: l) = _
  have rs : resolve (some (rdr R s) :: l) (.sl 0 :: args) = some (rdr R s :: as) := by
    show (resolve (some (rdr R s) :: l) args).map (rdr R s :: ·) = _
    rw [hr]
    rfl
  unfold appE
  rw [rs]
  dsimp only
  rw [if_pos nd, List.map_nil, List.append_nil, sp.ok R s F]
  dsimp only
  rw [if_pos (by simp [hl])]
  have tk : (rdr R (s + ps.length) :: as').take (rdr R s :: as).length = rdr R (s + ps.length) :: as' := List.take_of_length_le (by rw [List.length_cons, List.length_cons, hl]; exact Nat.le_refl _)
  rw [tk]
  show Res.ok _ (putA args as' (some (rdr R (s + ps.length)) :: l)) = _
  rw [hp]
theorem mc_err {name : Str} {m : MF} {as as' : List Sl} {ps : Prs} {res : Sl} (sp : Sp m as ps res as') (h1 : (name == "row") = false) (h2 : (name == "spot") = false) {ga : MA} {l : Ld} {args : List Arg} (hga : ga (some (rdr R s) :: l) = .ok args (some (rdr R s) :: l)) (hr : resolve (some (rdr R s) :: l) args = some as) (nd : (slotsOf (.sl 0 :: args)).Nodup) {c : Str} {d : D} (F : Stp R s ps c d) : ErrE (methO "LooseReader" name m [] 0 ga) (some (rdr R s) :: l) c d := by
  have rs : resolve (some (rdr R s) :: l) (.sl 0 :: args) = some (rdr R s :: as) := by
    show (resolve (some (rdr R s) :: l) args).map (rdr R s :: ·) = _
    rw [hr]
    rfl
  obtain ⟨l', e, k⟩ := appE_err rs nd (sp.er R s c d F)
  refine ⟨l', ?_, k⟩
  rw [m_at0 h1 h2, hga]
  exact e
end
/-! ### taking entries -/
theorem sp_take {b : Int} (h0 : 0 ≤ b) (h1 : b ≤ 255) : Sp m_LooseReader_take [] [(b, .rest)] (.fr (.int b)) [] := by
  refine ⟨fun R s F => ?_, fun R s c d h => ?_⟩
  · have e := lk_ok (l := [none]) F.cons.1 h0 h1
    have a : sSet 1 (methO "LooseReader" "look" m_LooseReader_look [] 0 aNil) [some (rdr R s), none] = .nx [some (rdr R s), some (.fr (.int b))] := sset_of e
    refine runF_rt (l := [some (rdr R (s + 1)), some (.fr (.int b))]) rfl ?_ rfl
    show b_LooseReader_take [some (rdr R s), none] = _
    exact seq_nx a (seq_nx f_aug rfl)
  · rcases h.cons with z | ⟨_, z⟩
    · refine runF_errS rfl (by simp) ?_
      refine seq_errL (set_errE (lk_err ?_))
      rcases z with z | ⟨x, a, b, z⟩
      · exact .inl z
      · rcases b with b | ⟨y, _, _, _, b⟩
        · exact .inr ⟨x, a, b, z⟩
        · exact b.elim
    · exact z.nil.elim
theorem tk_ok {R : List D} {s : Nat} {b : Int} {l : Ld} (h : R[s]? = some (.int b)) (h0 : 0 ≤ b) (h1 : b ≤ 255) : methO "LooseReader" "take" m_LooseReader_take [] 0 aNil (some (rdr R s) :: l) = .ok (.int b) (some (rdr R (s + 1)) :: l) :=
  mc_ok (sp_take h0 h1) (by decide +kernel) (by decide +kernel) (args := []) rfl rfl (by simp [slotsOf]) rfl (Ft.mk h (Ft.nil _ _)) rfl
theorem tk_err {R : List D} {s : Nat} {l : Ld} {c : Str} {d : D} (h : Sto R s .rest c d) : ErrE (methO "LooseReader" "take" m_LooseReader_take [] 0 aNil) (some (rdr R s) :: l) c d :=
  mc_err (sp_take (b := 0) (by decide) (by decide)) (by decide +kernel) (by decide +kernel) (args := []) rfl rfl (by simp [slotsOf]) ⟨0, (0, .rest), rfl, Ft.nil _ _, h⟩

/-! ### loose codes -/
def flp (f : Bool) (b : Int) : Int := if f then 255 - b else b
def msk (f : Bool) : Int := if f then 255 else 0
def rol (f : Bool) : Ro := if f then .flip else .first
def dfold (a : Int) (ds : List Int) : Int := ds.foldl (fun a b => a * 256 + b) a
inductive Cd (f : Bool) : Prs → Int → Prop
  | short (n : Int) (h0 : 0 ≤ n) (h : n < 192) : Cd f [(flp f n, rol f)] n
  | long (ds : List Int) (hb : ∀ b ∈ ds, 0 ≤ b ∧ b ≤ 255) (h1 : 1 ≤ ds.length) (h2 : ds.length ≤ 63) : Cd f ((flp f (191 + ds.length), rol f) :: ds.map fun b => (flp f b, Ro.rest)) (dfold 0 ds)
theorem xor_t : ∀ b : Fin 256, Builtin.bitXor (255 - ((b.val : Nat) : Int)) 255 = ((b.val : Nat) : Int) := by decide +kernel
theorem xor_f : ∀ b : Fin 256, Builtin.bitXor ((b.val : Nat) : Int) 0 = ((b.val : Nat) : Int) := by decide +kernel
theorem xor_flp (f : Bool) {b : Int} (h0 : 0 ≤ b) (h1 : b ≤ 255) : xorD (.int (flp f b)) (.int (msk f)) = some (.int b) := by
  show some (D.int (Builtin.bitXor (flp f b) (msk f))) = _
  obtain ⟨k, rfl⟩ := Int.eq_ofNat_of_zero_le h0
  have hk : k < 256 := by omega
  have : Builtin.bitXor (flp f (k : Int)) (msk f) = k := by
    cases f with
    | false => exact xor_f ⟨k, hk⟩
    | true => exact xor_t ⟨k, hk⟩
  rw [this]
theorem flp_byte (f : Bool) {b : Int} (h0 : 0 ≤ b) (h1 : b ≤ 255) : 0 ≤ flp f b ∧ flp f b ≤ 255 := by
  unfold flp
  split <;> omega
section
variable {R : List D} {f : Bool}
def CdL (R : List D) (s : Nat) (f : Bool) (fi a : Int) (o5 : Option Sl) : Ld := [some (rdr R s), some (.fr (.bl f)), some (.fr (.int (msk f))), some (.fr (.int fi)), some (.fr (.int a)), o5]
theorem code_turn {s : Nat} {fi a b : Int} {o5 : Option Sl} (h : R[s]? = some (.int (flp f b))) (h0 : 0 ≤ b) (h1 : b ≤ 255) : LooseReader_take_code_b0 (CdL R s f fi a o5) = .nx (CdL R (s + 1) f fi (a * 256 + b) o5) := by
  have fb := flp_byte f h0 h1
  have tk := tk_ok (l := [some (.fr (.bl f)), some (.fr (.int (msk f))), some (.fr (.int fi)), some (.fr (.int a)), o5]) h fb.1 fb.2
  have xr := xor_flp f h0 h1
  have m1 : mulD (.int a) (.int 256) = some (.int (a * 256)) := by
    have : cMul a 256 = true := by simp [cMul]
    simp [mulD, intD, this]
  have ad : addD (.int (a * 256)) (.int b) = some (.int (a * 256 + b)) := rfl
  unfold LooseReader_take_code_b0 CdL
  generalize methO "LooseReader" "take" m_LooseReader_take [] 0 aNil = TK at *
  generalize flp f b = fb at *
  generalize msk f = mk at *
  generalize a * 256 + b = ab at *
  generalize a * 256 = a2 at *
  generalize rdr R (s + 1) = r1 at *
  generalize rdr R s = r0 at *
  simp [runF, frees, back, sSeq, sIf, sRet, sNil, sSet, sRaise, asB, tru, notT, andE, notE, bin2, un1, rd, cst, vNil, vCons, calB, callE, appE, resolve, slotsOf, putA, aSl, aVal, aNil, has?, chn, Res.bind, Res.thn, Res.lift, SRes.seq, Sl.toD, O.toD, isiE, m1, tk, xr, ad]
theorem code_terr {s : Nat} {fi a : Int} {o5 : Option Sl} {c : Str} {d : D} (h : Sto R s .rest c d) : ErrS LooseReader_take_code_b0 (CdL R s f fi a o5) c d := by
  have m1 : mulD (.int a) (.int 256) = some (.int (a * 256)) := by
    have : cMul a 256 = true := by simp [cMul]
    simp [mulD, intD, this]
  refine set_errE (bin_errR (x := .int (a * 256)) (l1 := CdL R s f fi a o5) ?_ (.refl _) (bin_errL (tk_err h)))
  unfold CdL
  generalize rdr R s = r0 at *
  simp [runF, frees, back, sSeq, sIf, sRet, sNil, sSet, sRaise, asB, tru, notT, andE, notE, bin2, un1, rd, cst, vNil, vCons, calB, callE, appE, resolve, slotsOf, putA, aSl, aVal, aNil, has?, chn, Res.bind, Res.thn, Res.lift, SRes.seq, Sl.toD, O.toD, isiE, m1]
theorem code_loop : ∀ (ds : List Int) (xs : List D) (s : Nat) (fi a : Int) (o5 : Option Sl), xs.length = ds.length → (∀ b ∈ ds, 0 ≤ b ∧ b ≤ 255) → Ft R s (ds.map fun b => (flp f b, Ro.rest)) →
    ∃ t5, forT (tName 5) LooseReader_take_code_b0 xs (CdL R s f fi a o5) = .nx (CdL R (s + ds.length) f fi (dfold a ds) t5)
  | [], [], s, fi, a, o5, _, _, _ => ⟨o5, rfl⟩
  | b :: ds, x :: xs, s, fi, a, o5, hl, hb, F => by
    have F := Ft.cons (p := (flp f b, Ro.rest)) F
    have b0 := hb b List.mem_cons_self
    have e1 := code_turn (R := R) (f := f) (s := s) (fi := fi) (a := a) (o5 := some (.fr x)) F.1 b0.1 b0.2
    obtain ⟨t5, e2⟩ := code_loop ds xs (s + 1) fi (a * 256 + b) (some (.fr x)) (by simpa using hl) (fun y m => hb y (List.mem_cons_of_mem _ m)) F.2
    refine ⟨t5, ?_⟩
    rw [forT]
    show loopR (LooseReader_take_code_b0 (CdL R s f fi a (some (.fr x)))) _ = _
    rw [e1]
    show forT _ _ _ _ = _
    rw [e2, List.length_cons, show s + 1 + ds.length = s + (ds.length + 1) by omega]
    rfl
  | [], x :: xs, s, fi, a, o5, hl, _, _ => by simp at hl
  | b :: ds, [], s, fi, a, o5, hl, _, _ => by simp at hl
theorem code_lerr {c : Str} {d : D} : ∀ (ds : List Int) (xs : List D) (s : Nat) (fi a : Int) (o5 : Option Sl), xs.length = ds.length → (∀ b ∈ ds, 0 ≤ b ∧ b ≤ 255) → Stp R s (ds.map fun b => (flp f b, Ro.rest)) c d →
    ErrS (forT (tName 5) LooseReader_take_code_b0 xs) (CdL R s f fi a o5) c d
  | [], [], s, fi, a, o5, _, _, h => h.nil.elim
  | b :: ds, x :: xs, s, fi, a, o5, hl, hb, h => by
    have kp : ∀ (s2 : Nat) (a2 : Int) (o : Option Sl), Keep (CdL R s f fi a o5) (CdL R s2 f fi a2 (some (.fr x))) := fun s2 a2 o => ⟨rfl, fun i hi => by
      match i, hi with
      | 0, _ => rfl
      | 1, _ => rfl
      | 2, _ => rfl
      | 3, _ => rfl
      | 4, _ => rfl
      | 5, _ => rfl
      | n + 6, h => cases h⟩
    have b0 := hb b List.mem_cons_self
    rcases Stp.cons (p := (flp f b, Ro.rest)) h with z | ⟨F1, z⟩
    · exact for_errB (l1 := CdL R s f fi a (some (.fr x))) rfl (kp _ _ o5) (code_terr z)
    · exact for_errN (l1 := CdL R s f fi a (some (.fr x))) rfl (code_turn F1 b0.1 b0.2) (kp _ _ o5) (code_lerr ds xs (s + 1) fi _ _ (by simpa using hl) (fun y m => hb y (List.mem_cons_of_mem _ m)) z)
  | [], x :: xs, s, fi, a, o5, hl, _, _ => by simp at hl
  | b :: ds, [], s, fi, a, o5, hl, _, _ => by simp at hl
def CdI (R : List D) (s : Nat) (f : Bool) (o3 o4 o5 : Option Sl) : Ld := [some (rdr R s), some (.fr (.bl f)), some (.fr (.int (msk f))), o3, o4, o5]
theorem code_mask {s : Nat} {o3 o4 o5 : Option Sl} {rest : MS} : sSeq (sSet 2 (cst (.int 0))) (sSeq (sIf (truSl 1) (sSet 2 (cst (.int 255))) sNil) rest) [some (rdr R s), some (.fr (.bl f)), none, o3, o4, o5] = rest (CdI R s f o3 o4 o5) := by
  refine seq_nx rfl (seq_nx (l1 := CdI R s f o3 o4 o5) ?_ rfl)
  unfold CdI msk
  generalize rdr R s = r0 at *
  cases f <;> simp [sSeq, sIf, sNil, sSet, truSl, cst, has?, Res.bind, Res.thn, Res.lift, SRes.seq, Sl.toD, O.toD, truD]
theorem code_keep {s s2 : Nat} {o3 o4 o5 : Option Sl} : Keep [some (rdr R s), some (.fr (.bl f)), none, none, none, none] (CdI R s2 f o3 o4 o5) := ⟨rfl, fun i hi => by
  match i, hi with
  | 0, _ => rfl
  | 1, _ => rfl
  | n + 6, h => cases h⟩
theorem code_first {s : Nat} {c0 : Int} {o3 o4 o5 : Option Sl} (h : R[s]? = some (.int (flp f c0))) (h0 : 0 ≤ c0) (h1 : c0 ≤ 255) : sSet 3 (bin2 xorD (methO "LooseReader" "look" m_LooseReader_look [] 0 aNil) (rd 2)) (CdI R s f o3 o4 o5) = .nx (CdI R s f (some (.fr (.int c0))) o4 o5) := by
  have fb := flp_byte f h0 h1
  have lk := lk_ok (l := [some (.fr (.bl f)), some (.fr (.int (msk f))), o3, o4, o5]) h fb.1 fb.2
  have r2 : rd 2 (CdI R s f o3 o4 o5) = .ok (.int (msk f)) (CdI R s f o3 o4 o5) := rfl
  exact sset_bin (l1 := CdI R s f o3 o4 o5) lk r2 (xor_flp f h0 h1)
theorem code_255 {s : Nat} {c0 : Int} {o4 o5 : Option Sl} (hc : c0 ≠ 255) : sIf (asB (bin2 eqD (rd 3) (cst (.int 255)))) (sRaise "WrongByte" "at" (fldO "spot" ["LooseReader"] 0)) sNil (CdI R s f (some (.fr (.int c0))) o4 o5) = .nx (CdI R s f (some (.fr (.int c0))) o4 o5) := by
  have q := eqD_i c0 255
  rw [decide_eq_false hc] at q
  unfold CdI
  generalize rdr R s = r0 at *
  simp [sIf, sNil, sRaise, asB, bin2, un1, rd, cst, has?, Res.bind, Res.thn, Res.lift, SRes.seq, Sl.toD, O.toD, q]
theorem code_herr {s : Nat} {c : Str} {d : D} {rest : MS} (h : Sto R s (rol f) c d) : ErrS (sSeq (sSet 3 (bin2 xorD (methO "LooseReader" "look" m_LooseReader_look [] 0 aNil) (rd 2))) (sSeq (sIf (asB (bin2 eqD (rd 3) (cst (.int 255)))) (sRaise "WrongByte" "at" (fldO "spot" ["LooseReader"] 0)) sNil) rest)) (CdI R s f none none none) c d := by
  rcases h with h | ⟨x, a, b, e1, e2⟩
  · exact seq_errL (set_errE (bin_errL (lk_err (.inl h))))
  · rcases b with b | ⟨y, rfl, y0, y1, b⟩
    · exact seq_errL (set_errE (bin_errL (lk_err (.inr ⟨x, a, b, e1, e2⟩))))
    · subst e1 e2
      have hy : y = flp f 255 := by
        cases f with
        | false => exact b
        | true => exact (show y = 255 - 255 from (b : y = 0))
      rw [hy] at a
      have e := code_first (R := R) (f := f) (s := s) (o3 := none) (o4 := none) (o5 := none) a (by decide) (by decide)
      have kp : Keep (CdI R s f none none none) (CdI R s f (some (.fr (.int 255))) none none) := Keep.set _ 3 _
      refine seq_errR e kp (seq_errL ?_)
      have q := eqD_i 255 255
      refine if_errA (l1 := CdI R s f (some (.fr (.int 255))) none none) ?_ (.refl _) (raise_errS f_spot)
      rw [decide_eq_true rfl] at q
      unfold CdI
      generalize rdr R s = r0 at *
      simp [runF, frees, back, sSeq, sIf, sRet, sNil, sSet, sRaise, asB, tru, notT, andE, notE, bin2, un1, rd, cst, vNil, vCons, calB, callE, appE, resolve, slotsOf, putA, aSl, aVal, aNil, has?, chn, Res.bind, Res.thn, Res.lift, SRes.seq, Sl.toD, O.toD, isiE, q]
theorem sp_code {ps : Prs} {n : Int} (h : Cd f ps n) : Sp m_LooseReader_take_code [.fr (.bl f)] ps (.fr (.int n)) [.fr (.bl f)] := by
  cases h with
  | short n h0 h =>
    refine ⟨fun R s F => ?_, fun R s c d st => ?_⟩
    · have e := code_first (R := R) (f := f) (s := s) (o3 := none) (o4 := none) (o5 := none) F.cons.1 h0 (by omega)
      have lt : ltD (.int n) (.int 192) = some (.bl true) := by
        show some (D.bl (decide (n < 192))) = _
        rw [decide_eq_true h]
      refine runF_rt (l := CdI R (s + 1) f (some (.fr (.int n))) none none) rfl ?_ rfl
      show b_LooseReader_take_code [some (rdr R s), some (.fr (.bl f)), none, none, none, none] = _
      refine (code_mask (rest := _)).trans ?_
      refine seq_nx e (seq_nx (code_255 (by omega)) (seq_nx f_aug (seq_rt ?_)))
      show sIf (asB (bin2 ltD (rd 3) (cst (.int 192)))) (sRet (rd 3)) sNil (CdI R (s + 1) f (some (.fr (.int n))) none none) = _
      unfold CdI
      generalize rdr R (s + 1) = r0 at *
      simp [runF, frees, back, sSeq, sIf, sRet, sNil, sSet, sRaise, asB, tru, truSl, notT, andE, notE, bin2, un1, rd, cst, vNil, vCons, calB, callE, appE, resolve, slotsOf, putA, aSl, aVal, aNil, has?, chn, tName, rng1, Res.bind, Res.thn, Res.lift, SRes.seq, loopR, Sl.toD, O.toD, sForT, isiE, lt]
    · rcases st.cons with z | ⟨_, z⟩
      · refine runF_errS rfl (by simp) ?_
        obtain ⟨l', e, k⟩ := code_herr (R := R) (f := f) (rest := _) z
        exact ⟨l', (code_mask (rest := _)).trans e, code_keep.trans k⟩
      · exact z.nil.elim
  | long ds hb h1 h2 =>
    have rg : ∀ (R : List D) (s : Nat) (o5 : Option Sl), rng1 (vCons (bin2 subD (rd 3) (cst (.int 191))) vNil) (CdL R s f (191 + ds.length) 0 o5) = .ok ((List.range ds.length).map fun (k : Nat) => D.int k) (CdL R s f (191 + ds.length) 0 o5) := fun R s o5 => by
      have sb : subD (.int (191 + (ds.length : Int))) (.int 191) = some (.int ds.length) := by
        show some (D.int (191 + (ds.length : Int) - 191)) = _
        rw [show (191 + (ds.length : Int) - 191) = ds.length by omega]
      refine rng1_at (by omega) ?_
      unfold CdL
      generalize rdr R s = r0 at *
      generalize (191 + (ds.length : Int)) = N at *
      generalize ((ds.length : Nat) : Int) = N2 at *
      simp [runF, frees, back, sSeq, sIf, sRet, sNil, sSet, sRaise, asB, tru, truSl, notT, andE, notE, bin2, un1, rd, cst, vNil, vCons, calB, callE, appE, resolve, slotsOf, putA, aSl, aVal, aNil, has?, chn, tName, rng1, Res.bind, Res.thn, Res.lift, SRes.seq, loopR, Sl.toD, O.toD, sForT, isiE, sb]
    have lt : ltD (.int (191 + (ds.length : Int))) (.int 192) = some (.bl false) := by
      show some (D.bl (decide ((191 + (ds.length : Int)) < 192))) = _
      rw [decide_eq_false (by omega)]
    have nolt : ∀ (R : List D) (s : Nat), sIf (asB (bin2 ltD (rd 3) (cst (.int 192)))) (sRet (rd 3)) sNil (CdI R s f (some (.fr (.int (191 + ds.length)))) none none) = .nx (CdI R s f (some (.fr (.int (191 + ds.length)))) none none) := fun R s => by
      unfold CdI
      generalize rdr R s = r0 at *
      generalize (191 + (ds.length : Int)) = N at *
      simp [runF, frees, back, sSeq, sIf, sRet, sNil, sSet, sRaise, asB, tru, truSl, notT, andE, notE, bin2, un1, rd, cst, vNil, vCons, calB, callE, appE, resolve, slotsOf, putA, aSl, aVal, aNil, has?, chn, tName, rng1, Res.bind, Res.thn, Res.lift, SRes.seq, loopR, Sl.toD, O.toD, sForT, isiE, lt]
    have rl : ((List.range ds.length).map fun (k : Nat) => D.int k).length = ds.length := by rw [List.length_map, List.length_range]
    refine ⟨fun R s F => ?_, fun R s c d st => ?_⟩
    · have F := F.cons
      have e := code_first (R := R) (f := f) (s := s) (o3 := none) (o4 := none) (o5 := none) F.1 (by omega) (by omega)
      obtain ⟨t5, lp⟩ := code_loop (R := R) (f := f) ds _ (s + 1) (191 + ds.length) 0 none rl hb F.2
      rw [List.length_cons, List.length_map]
      refine runF_rt (l := CdL R (s + 1 + ds.length) f (191 + ds.length) (dfold 0 ds) t5) rfl ?_ (by rw [show s + (ds.length + 1) = s + 1 + ds.length by omega]; rfl)
      show b_LooseReader_take_code [some (rdr R s), some (.fr (.bl f)), none, none, none, none] = _
      refine (code_mask (rest := _)).trans ?_
      refine seq_nx e (seq_nx (code_255 (by omega)) (seq_nx f_aug (seq_nx (nolt R (s + 1)) (seq_nx (l1 := CdL R (s + 1) f (191 + ds.length) 0 none) rfl (seq_nx (l1 := CdL R (s + 1 + ds.length) f (191 + ds.length) (dfold 0 ds) t5) ?_ rfl)))))
      unfold sForT
      rw [rg]
      exact lp
    · refine runF_errS rfl (by simp) ?_
      rcases st.cons with z | ⟨F1, z⟩
      · obtain ⟨l', e, k⟩ := code_herr (R := R) (f := f) (rest := _) z
        exact ⟨l', (code_mask (rest := _)).trans e, code_keep.trans k⟩
      · have e := code_first (R := R) (f := f) (s := s) (o3 := none) (o4 := none) (o5 := none) F1 (by omega) (by omega)
        have lp := code_lerr (R := R) (f := f) ds _ (s + 1) (191 + ds.length) 0 none rl hb z
        obtain ⟨l', el, k⟩ := lp
        have kk : Keep [some (rdr R s), some (.fr (.bl f)), none, none, none, none] (CdL R (s + 1) f (191 + ds.length) 0 none) := code_keep
        refine ⟨l', ?_, kk.trans k⟩
        show b_LooseReader_take_code [some (rdr R s), some (.fr (.bl f)), none, none, none, none] = _
        refine (code_mask (rest := _)).trans ?_
        refine seq_nx e (seq_nx (code_255 (by omega)) (seq_nx f_aug (seq_nx (nolt R (s + 1)) (seq_nx (l1 := CdL R (s + 1) f (191 + ds.length) 0 none) rfl ?_))))
        have fe : sForT (tName 5) (rng1 (vCons (bin2 subD (rd 3) (cst (.int 191))) vNil)) LooseReader_take_code_b0 (CdL R (s + 1) f (191 + ds.length) 0 none) = .err c "at" d l' := by
          unfold sForT
          rw [rg]
          exact el
        unfold sSeq
        rw [fe]
        rfl
end

/-! ### gaps, kind bytes -/
inductive Gp (r : Ro) : Prs → Prop
  | nil : Gp r []
  | cons {c g : Prs} {n : Int} {xs : List Int} (hc : Cd false c n) (hn : n = xs.length) (hs : xs.length ≤ 1000) (hx : ∀ b ∈ xs, 0 ≤ b ∧ b ≤ 255) (hg : Gp r g) : Gp r ((15, r) :: (c ++ (xs.map fun b => (b, Ro.rest)) ++ g))
section
variable {R : List D} {s : Nat}
theorem gap_turn {b : Int} {l : Ld} (h : R[s]? = some (.int b)) (h0 : 0 ≤ b) (h1 : b ≤ 255) : LooseReader_take_gaps_b0 (some (rdr R s) :: l) = .nx (some (rdr R (s + 1)) :: l) := by
  have e := tk_ok (l := l) h h0 h1
  show sEx _ _ = _
  unfold sEx
  rw [e]
  rfl
def GpL (R : List D) (s : Nat) (o1 o2 : Option Sl) : Ld := [some (rdr R s), o1, o2]
def OLe (o t : Option Sl) : Prop := o.isSome = true → t.isSome = true
theorem has_at {i : Nat} {l : Ld} {o : Option Sl} (h : l[i]? = some o) : has? i l = o.isSome := by
  unfold has?
  rw [h]
  cases o <;> rfl
theorem gpl_keep {R : List D} {s s2 : Nat} {o1 o2 t1 t2 : Option Sl} (h1 : OLe o1 t1) (h2 : OLe o2 t2) : Keep (GpL R s o1 o2) (GpL R s2 t1 t2) := ⟨rfl, fun i hi => by
  match i, hi with
  | 0, _ => rfl
  | 1, z => rw [has_at (o := o1) rfl] at z; rw [has_at (o := t1) rfl]; exact h1 z
  | 2, z => rw [has_at (o := o2) rfl] at z; rw [has_at (o := t2) rfl]; exact h2 z
  | n + 3, h => cases h⟩
theorem gap_loop : ∀ (bs : List Int) (xs : List D) (s : Nat) (o1 o2 : Option Sl), xs.length = bs.length → (∀ b ∈ bs, 0 ≤ b ∧ b ≤ 255) → Ft R s (bs.map fun b => (b, Ro.rest)) →
    ∃ t, forT (tName 2) LooseReader_take_gaps_b0 xs (GpL R s o1 o2) = .nx (GpL R (s + bs.length) o1 t) ∧ OLe o2 t
  | [], [], s, o1, o2, _, _, _ => ⟨o2, rfl, fun h => h⟩
  | b :: bs, x :: xs, s, o1, o2, hl, hb, F => by
    have F := Ft.cons (p := (b, Ro.rest)) F
    have b0 := hb b List.mem_cons_self
    have e1 := gap_turn (l := [o1, some (.fr x)]) F.1 b0.1 b0.2
    obtain ⟨t, e2, ot⟩ := gap_loop bs xs (s + 1) o1 (some (.fr x)) (by simpa using hl) (fun y m => hb y (List.mem_cons_of_mem _ m)) F.2
    refine ⟨t, ?_, fun _ => ot rfl⟩
    rw [forT]
    show loopR (LooseReader_take_gaps_b0 (some (rdr R s) :: [o1, some (.fr x)])) _ = _
    rw [e1]
    show forT _ _ _ (GpL R (s + 1) o1 (some (.fr x))) = _
    rw [e2, List.length_cons, show s + 1 + bs.length = s + (bs.length + 1) by omega]
  | [], x :: xs, s, _, _, hl, _, _ => by simp at hl
  | b :: bs, [], s, _, _, hl, _, _ => by simp at hl
theorem gap_lerr {c : Str} {d : D} : ∀ (bs : List Int) (xs : List D) (s : Nat) (o1 o2 : Option Sl), xs.length = bs.length → (∀ b ∈ bs, 0 ≤ b ∧ b ≤ 255) → Stp R s (bs.map fun b => (b, Ro.rest)) c d →
    ErrS (forT (tName 2) LooseReader_take_gaps_b0 xs) (GpL R s o1 o2) c d
  | [], [], s, o1, o2, _, _, h => h.nil.elim
  | b :: bs, x :: xs, s, o1, o2, hl, hb, h => by
    have b0 := hb b List.mem_cons_self
    have kp : ∀ (s2 : Nat), Keep (GpL R s o1 o2) (GpL R s2 o1 (some (.fr x))) := fun s2 => ⟨rfl, fun i hi => by
      match i, hi with
      | 0, _ => rfl
      | 1, z => exact z
      | 2, _ => rfl
      | n + 3, h => cases h⟩
    rcases Stp.cons (p := (b, Ro.rest)) h with z | ⟨F1, z⟩
    · refine for_errB (l1 := GpL R s o1 (some (.fr x))) rfl (kp _) ?_
      exact ex_errE (tk_err (l := [o1, some (.fr x)]) z)
    · exact for_errN (l1 := GpL R s o1 (some (.fr x))) rfl (gap_turn (l := [o1, some (.fr x)]) F1 b0.1 b0.2) (kp _) (gap_lerr bs xs (s + 1) o1 (some (.fr x)) (by simpa using hl) (fun y m => hb y (List.mem_cons_of_mem _ m)) z)
  | [], x :: xs, s, _, _, hl, _, _ => by simp at hl
  | b :: bs, [], s, _, _, hl, _, _ => by simp at hl
theorem gap_test {b : Int} {l : Ld} (h : R[s]? = some (.int b)) (h0 : 0 ≤ b) (h1 : b ≤ 255) : LooseReader_take_gaps_c1 (some (rdr R s) :: l) = .ok (decide (b = 15)) (some (rdr R s) :: l) := by
  have e := lk_ok (l := l) h h0 h1
  have q := eqD_i b 15
  unfold LooseReader_take_gaps_c1
  generalize methO "LooseReader" "look" m_LooseReader_look [] 0 aNil = LK at *
  generalize rdr R s = r0 at *
  simp [runF, frees, back, sSeq, sIf, sRet, sNil, sRaise, asB, tru, notT, andE, notE, bin2, un1, rd, cst, vNil, vCons, calB, callE, appE, resolve, slotsOf, putA, aSl, aVal, aNil, has?, chn, Res.bind, Res.thn, Res.lift, SRes.seq, Sl.toD, O.toD, isiE, e, q]
theorem cd_call {ps : Prs} {n : Int} {f : Bool} {l : Ld} (h : Cd f ps n) (F : Ft R s ps) : methO "LooseReader" "take_code" m_LooseReader_take_code [] 0 (aVal (cst (.bl f)) aNil) (some (rdr R s) :: l) = .ok (.int n) (some (rdr R (s + ps.length)) :: l) :=
  mc_ok (sp_code h) (by decide +kernel) (by decide +kernel) (args := [.val (.bl f)]) rfl rfl (by simp [slotsOf]) rfl F rfl
theorem cd_cerr {ps : Prs} {n : Int} {f : Bool} {l : Ld} {c : Str} {d : D} (h : Cd f ps n) (F : Stp R s ps c d) : ErrE (methO "LooseReader" "take_code" m_LooseReader_take_code [] 0 (aVal (cst (.bl f)) aNil)) (some (rdr R s) :: l) c d :=
  mc_err (sp_code h) (by decide +kernel) (by decide +kernel) (args := [.val (.bl f)]) rfl rfl (by simp [slotsOf]) F
theorem rng_small {k : Nat} {i : Nat} {l : Ld} (hk : k ≤ 1000) (hi : l[i]? = some (some (.fr (.int k)))) : rng1 (vCons (rd i) vNil) l = .ok ((List.range k).map fun (k : Nat) => D.int k) l := by
  refine rng1_at (by omega) ?_
  unfold vCons rd
  rw [hi]
  rfl
theorem gap_body {c : Prs} {n : Int} {xs : List Int} {o1 o2 : Option Sl} (hc : Cd false c n) (hn : n = xs.length) (hs : xs.length ≤ 1000) (hx : ∀ b ∈ xs, 0 ≤ b ∧ b ≤ 255) (F : Ft R (s + 1) (c ++ (xs.map fun b => (b, Ro.rest)))) :
    ∃ t1 t2, LooseReader_take_gaps_b2 (GpL R s o1 o2) = .nx (GpL R (s + 1 + (c ++ (xs.map fun b => (b, Ro.rest))).length) t1 t2) ∧ OLe o1 t1 ∧ OLe o2 t2 := by
  have e := cd_call (l := [o1, o2]) hc F.left
  have rl : ((List.range xs.length).map fun (k : Nat) => D.int k).length = xs.length := by rw [List.length_map, List.length_range]
  obtain ⟨t, lp, ot⟩ := gap_loop (R := R) xs _ (s + 1 + c.length) (some (.fr (.int n))) o2 rl hx F.right
  refine ⟨some (.fr (.int n)), t, seq_nx f_aug (seq_nx (sset_of e) ?_), fun _ => rfl, ot⟩
  show sForT _ _ _ (GpL R (s + 1 + c.length) (some (.fr (.int n))) o2) = _
  have rg := rng_small (l := GpL R (s + 1 + c.length) (some (.fr (.int n))) o2) (i := 1) hs (by rw [hn]; rfl)
  unfold sForT
  rw [rg]
  show forT _ _ _ _ = _
  rw [lp, List.length_append, List.length_map, Nat.add_assoc (s + 1)]
theorem gap_berr {c : Prs} {n : Int} {xs : List Int} {o1 o2 : Option Sl} {cl : Str} {d : D} (hc : Cd false c n) (hn : n = xs.length) (hs : xs.length ≤ 1000) (hx : ∀ b ∈ xs, 0 ≤ b ∧ b ≤ 255) (h : Stp R (s + 1) (c ++ (xs.map fun b => (b, Ro.rest))) cl d) :
    ErrS LooseReader_take_gaps_b2 (GpL R s o1 o2) cl d := by
  have k0 : Keep (GpL R s o1 o2) (GpL R (s + 1) o1 o2) := Keep.set _ 0 _
  refine seq_errR (l1 := GpL R (s + 1) o1 o2) f_aug k0 ?_
  rcases h.app with h | ⟨F, h⟩
  · exact seq_errL (set_errE (cd_cerr hc h))
  · have e := cd_call (l := [o1, o2]) hc F
    have rl : ((List.range xs.length).map fun (k : Nat) => D.int k).length = xs.length := by rw [List.length_map, List.length_range]
    have lp := gap_lerr (R := R) xs _ (s + 1 + c.length) (some (.fr (.int n))) o2 rl hx h
    have k1 : Keep (GpL R (s + 1) o1 o2) (GpL R (s + 1 + c.length) (some (.fr (.int n))) o2) := (Keep.set (GpL R (s + 1) o1 o2) 0 (rdr R (s + 1 + c.length))).trans (Keep.set (GpL R (s + 1 + c.length) o1 o2) 1 _)
    refine seq_errR (sset_of e) k1 ?_
    have rg := rng_small (l := GpL R (s + 1 + c.length) (some (.fr (.int n))) o2) (i := 1) hs (by rw [hn]; rfl)
    obtain ⟨l', el, k⟩ := lp
    refine ⟨l', ?_, k⟩
    show sForT _ _ _ (GpL R (s + 1 + c.length) (some (.fr (.int n))) o2) = _
    unfold sForT
    rw [rg]
    exact el
theorem gaps_ok {r : Ro} {g : Prs} (h : Gp r g) : ∀ {s : Nat} {o1 o2 : Option Sl} {b : Int}, Ft R s g → R[s + g.length]? = some (.int b) → 0 ≤ b → b ≤ 255 → b ≠ 15 →
    ∃ t1 t2, whileM LooseReader_take_gaps_c1 LooseReader_take_gaps_b2 (GpL R s o1 o2) = .nx (GpL R (s + g.length) t1 t2) := by
  induction h with
  | nil => exact fun {s o1 o2 b} F hb b0 b1 b2 => ⟨o1, o2, while_end (by
      have := gap_test (l := [o1, o2]) (by simpa using hb) b0 b1
      rw [decide_eq_false b2] at this
      exact this)⟩
  | @cons c g n xs hc hn hs hx hg ih =>
    intro s o1 o2 b F hb b0 b1 b2
    have F1 := F.cons
    have t0 := gap_test (l := [o1, o2]) F1.1 (show (0 : Int) ≤ 15 by decide) (show (15 : Int) ≤ 255 by decide)
    rw [decide_eq_true rfl] at t0
    obtain ⟨t1, t2, e, _, _⟩ := gap_body (o1 := o1) (o2 := o2) hc hn hs hx F1.2.left
    have L : s + ((15, r) :: (c ++ (xs.map fun b => (b, Ro.rest)) ++ g)).length = s + 1 + (c ++ (xs.map fun b => (b, Ro.rest))).length + g.length := by simp only [List.length_cons, List.length_append]; omega
    obtain ⟨u1, u2, e2⟩ := ih (s := s + 1 + (c ++ (xs.map fun b => (b, Ro.rest))).length) (o1 := t1) (o2 := t2) F1.2.right (by rw [← L]; exact hb) b0 b1 b2
    exact ⟨u1, u2, by rw [L]; exact (while_go t0 e).trans e2⟩
theorem gaps_er {r : Ro} {g : Prs} {k : Int} {c : Str} {d : D} (rk : ∀ b, r.bad b → b ≠ 15) (h : Gp r g) : ∀ {s : Nat} {o1 o2 : Option Sl}, Stp R s (g ++ [(k, r)]) c d →
    ErrS (whileM LooseReader_take_gaps_c1 LooseReader_take_gaps_b2) (GpL R s o1 o2) c d ∨
    ∃ s2 b t1 t2, whileM LooseReader_take_gaps_c1 LooseReader_take_gaps_b2 (GpL R s o1 o2) = .nx (GpL R s2 t1 t2) ∧ (Keep (GpL R s o1 o2) (GpL R s2 t1 t2)) ∧ R[s2]? = some (.int b) ∧ 0 ≤ b ∧ b ≤ 255 ∧ r.bad b ∧ c = "WrongByte" ∧ d = .int s2 := by
  have head : ∀ {s : Nat} {o1 o2 : Option Sl}, Sto R s r c d → ErrS (whileM LooseReader_take_gaps_c1 LooseReader_take_gaps_b2) (GpL R s o1 o2) c d ∨
    ∃ s2 b t1 t2, whileM LooseReader_take_gaps_c1 LooseReader_take_gaps_b2 (GpL R s o1 o2) = .nx (GpL R s2 t1 t2) ∧ (Keep (GpL R s o1 o2) (GpL R s2 t1 t2)) ∧ R[s2]? = some (.int b) ∧ 0 ≤ b ∧ b ≤ 255 ∧ r.bad b ∧ c = "WrongByte" ∧ d = .int s2 := by
    intro s o1 o2 h
    have er : ∀ {x : D}, (R.length = s ∧ c = "Unfinished" ∧ d = .int R.length) ∨ (∃ x, R[s]? = some x ∧ NoB x ∧ c = "WrongByte" ∧ d = .int s) → ErrS (whileM LooseReader_take_gaps_c1 LooseReader_take_gaps_b2) (GpL R s o1 o2) c d := fun z => while_errT (asB_err (bin_errL (lk_err (l := [o1, o2]) z)))
    rcases h with h | ⟨x, a, b, e1, e2⟩
    · exact .inl (er (x := .non) (.inl h))
    · rcases b with b | ⟨y, rfl, y0, y1, b⟩
      · exact .inl (er (x := .non) (.inr ⟨x, a, b, e1, e2⟩))
      · refine .inr ⟨s, y, o1, o2, while_end ?_, .refl _, a, y0, y1, b, e1, e2⟩
        have t0 := gap_test (l := [o1, o2]) a y0 y1
        rw [decide_eq_false (rk y b)] at t0
        exact t0
  induction h with
  | nil =>
    intro s o1 o2 h
    rcases Stp.cons (p := (k, r)) (ps := []) h with z | ⟨_, z⟩
    · exact head z
    · exact z.nil.elim
  | @cons c' g n xs hc hn hs hx hg ih =>
    intro s o1 o2 h
    have h : Stp R s ((15, r) :: ((c' ++ (xs.map fun b => (b, Ro.rest))) ++ (g ++ [(k, r)]))) c d := by simpa [List.append_assoc] using h
    rcases h.cons with z | ⟨F1, z⟩
    · exact head z
    · have t0 := gap_test (l := [o1, o2]) F1 (show (0 : Int) ≤ 15 by decide) (show (15 : Int) ≤ 255 by decide)
      rw [decide_eq_true rfl] at t0
      rcases z.app with z | ⟨F2, z⟩
      · exact .inl (while_errB t0 (.refl _) (gap_berr hc hn hs hx z))
      · obtain ⟨t1, t2, e, k1, k2⟩ := gap_body (o1 := o1) (o2 := o2) hc hn hs hx F2
        rcases ih (o1 := t1) (o2 := t2) z with z | ⟨s2, b, u1, u2, e2, kk, rest⟩
        · exact .inl (while_errN t0 e (gpl_keep k1 k2) z)
        · exact .inr ⟨s2, b, u1, u2, (while_go t0 e).trans e2, (gpl_keep k1 k2).trans kk, rest⟩
theorem runF_nx {g : MS} {n : Nat} {fs : List Nat} {ss ss' : List Sl} {l : Ld} (hf : frees fs ss = true) (h : g (ss.map some ++ List.replicate (n - ss.length) none) = .nx l) (hb : back ss l = some ss') : runF g n fs ss = .ok (.fr .non) ss' := by
  unfold runF
  rw [if_pos hf, h]
  dsimp only
  rw [hb]
theorem tg_ok {r : Ro} {g : Prs} (h : Gp r g) {b : Int} {l : Ld} (F : Ft R s g) (hb : R[s + g.length]? = some (.int b)) (b0 : 0 ≤ b) (b1 : b ≤ 255) (b2 : b ≠ 15) : methO "LooseReader" "take_gaps" m_LooseReader_take_gaps [] 0 aNil (some (rdr R s) :: l) = .ok .non (some (rdr R (s + g.length)) :: l) := by
  obtain ⟨t1, t2, e⟩ := gaps_ok (o1 := none) (o2 := none) h F hb b0 b1 b2
  have m : m_LooseReader_take_gaps [rdr R s] = .ok (.fr .non) [rdr R (s + g.length)] := by
    refine runF_nx (l := GpL R (s + g.length) t1 t2) rfl ?_ rfl
    exact e
  rw [m_at0 (by decide +kernel) (by decide +kernel)]
  generalize rdr R s = r0 at *
  generalize rdr R (s + g.length) = r1 at *
  simp [aNil, Res.bind, appE, resolve, slotsOf, putA, m, Sl.toD]
theorem tg_er {r : Ro} {g : Prs} {k : Int} {c : Str} {d : D} {l : Ld} (rk : ∀ b, r.bad b → b ≠ 15) (h : Gp r g) (z : Stp R s (g ++ [(k, r)]) c d) : ErrE (methO "LooseReader" "take_gaps" m_LooseReader_take_gaps [] 0 aNil) (some (rdr R s) :: l) c d ∨
    ∃ s2 b, methO "LooseReader" "take_gaps" m_LooseReader_take_gaps [] 0 aNil (some (rdr R s) :: l) = .ok .non (some (rdr R s2) :: l) ∧ R[s2]? = some (.int b) ∧ 0 ≤ b ∧ b ≤ 255 ∧ r.bad b ∧ c = "WrongByte" ∧ d = .int s2 := by
  rcases gaps_er rk h (o1 := none) (o2 := none) z with z | ⟨s2, b, t1, t2, e, kk, rest⟩
  · left
    have er : ErrM m_LooseReader_take_gaps [rdr R s] c d := runF_errS rfl (by simp) z
    obtain ⟨l', e, k⟩ := appE_err (as := [.sl 0]) (l := some (rdr R s) :: l) (ss := [rdr R s]) rfl (by simp [slotsOf]) er
    refine ⟨l', ?_, k⟩
    rw [m_at0 (by decide +kernel) (by decide +kernel)]
    exact e
  · right
    have m : m_LooseReader_take_gaps [rdr R s] = .ok (.fr .non) [rdr R s2] := by
      refine runF_nx (l := GpL R s2 t1 t2) rfl ?_ rfl
      exact e
    refine ⟨s2, b, ?_, rest⟩
    rw [m_at0 (by decide +kernel) (by decide +kernel)]
    generalize rdr R s = r0 at *
    generalize rdr R s2 = r1 at *
    simp [aNil, Res.bind, appE, resolve, slotsOf, putA, m, Sl.toD]
structure RoK (r : Ro) (ks : List Int) : Prop where
  bad : ∀ b, 0 ≤ b → b ≤ 255 → r.bad b → b ∉ ks
  n15 : ∀ b, r.bad b → b ≠ 15
theorem notIn_ints (k : Int) (ks : List Int) : notInD (.int k) (.tup (ks.map .int)) = some (.bl (decide (k ∉ ks))) := by
  have fl : (ks.map D.int).all flatD = true := by
    rw [List.all_map]
    exact List.all_eq_true.mpr fun x _ => rfl
  have an : ((ks.map D.int).any fun y => eqFl y (.int k)) = decide (k ∈ ks) := by
    rw [List.any_map]
    induction ks with
    | nil => rfl
    | cons a ks ih =>
      rw [List.any_cons, ih (by rw [List.all_map]; exact List.all_eq_true.mpr fun x _ => rfl)]
      show ((a == k) || _) = _
      by_cases c : a = k
      · subst c
        simp
      · have c2 : ¬ k = a := fun z => c z.symm
        simp [c, c2]
  have : inB (.int k) (.tup (ks.map .int)) = some (decide (k ∈ ks)) := by
    show (if flatD (.int k) = true ∧ (ks.map D.int).all flatD = true then some _ else none) = _
    rw [if_pos ⟨rfl, fl⟩, an]
  unfold notInD
  rw [this]
  simp
theorem kin_ints (k : Int) (ks : List Int) : inD (.int k) (.tup (ks.map .int)) = some (.bl (decide (k ∈ ks))) := by
  have := notIn_ints k ks
  unfold notInD at this
  unfold inD
  cases h : inB (.int k) (.tup (ks.map .int)) with
  | none => rw [h] at this; cases this
  | some b =>
    rw [h] at this
    have e : (!b) = decide (k ∉ ks) := by
      have := Option.some.inj this
      exact D.bl.inj this
    show some (D.bl b) = _
    by_cases c : k ∈ ks
    · rw [decide_eq_false (fun z => z c)] at e
      rw [decide_eq_true c]
      cases b
      · cases e
      · rfl
    · rw [decide_eq_true c] at e
      rw [decide_eq_false c]
      cases b
      · rfl
      · cases e
theorem sp_kind {r : Ro} {ks : List Int} {k : Int} {g : Prs} (rk : RoK r ks) (hk : k ∈ ks) (k15 : k ≠ 15) (k0 : 0 ≤ k) (k1 : k ≤ 255) (hg : Gp r g) : Sp m_LooseReader_take_kind [.fr (.tup (ks.map .int))] (g ++ [(k, r)]) (.fr (.int k)) [.fr (.tup (ks.map .int))] := by
  refine ⟨fun R s F => ?_, fun R s c d h => ?_⟩
  · have fk : R[s + g.length]? = some (.int k) := F.right 0 (k, r) rfl
    have e1 := tg_ok (l := [some (.fr (.tup (ks.map .int))), none]) hg F.left fk k0 k1 k15
    have e2 := lk_ok (l := [some (.fr (.tup (ks.map .int))), none]) fk k0 k1
    have ni := notIn_ints k ks
    rw [decide_eq_false (fun z => z hk)] at ni
    refine runF_rt (l := [some (rdr R (s + (g.length + 1))), some (.fr (.tup (ks.map .int))), some (.fr (.int k))]) rfl ?_ (by rw [List.length_append]; rfl)
    show b_LooseReader_take_kind [some (rdr R s), some (.fr (.tup (ks.map .int))), none] = _
    refine seq_nx (l1 := [some (rdr R (s + g.length)), some (.fr (.tup (ks.map .int))), none]) (by unfold sEx; rw [e1]; rfl) (seq_nx (sset_of e2) (seq_nx (l1 := [some (rdr R (s + g.length)), some (.fr (.tup (ks.map .int))), some (.fr (.int k))]) ?_ (seq_nx f_aug rfl)))
    generalize rdr R (s + g.length) = r0 at *
    generalize ks.map D.int = kk at *
    simp [runF, frees, back, sSeq, sIf, sRet, sNil, sEx, sSet, sRaise, asB, tru, truSl, notT, andE, notE, bin2, un1, rd, cst, vNil, vCons, calB, callE, appE, resolve, slotsOf, putA, aSl, aVal, aNil, has?, chn, tName, rng1, Res.bind, Res.thn, Res.lift, SRes.seq, loopR, Sl.toD, O.toD, sForT, isiE, ni]
  · refine runF_errS rfl (by simp) ?_
    show ErrS b_LooseReader_take_kind [some (rdr R s), some (.fr (.tup (ks.map .int))), none] c d
    rcases tg_er (l := [some (.fr (.tup (ks.map .int))), none]) rk.n15 hg h with z | ⟨s2, b, e1, a, b0, b1, bb, rfl, rfl⟩
    · exact seq_errL (ex_errE z)
    · have e2 := lk_ok (l := [some (.fr (.tup (ks.map .int))), none]) a b0 b1
      have ni := notIn_ints b ks
      rw [decide_eq_true (rk.bad b b0 b1 bb)] at ni
      refine seq_errR (l1 := [some (rdr R s2), some (.fr (.tup (ks.map .int))), none]) (by unfold sEx; rw [e1]; rfl) (Keep.set [some (rdr R s), some (.fr (.tup (ks.map .int))), none] 0 _) ?_
      refine seq_errR (sset_of e2) (Keep.set _ 2 _) (seq_errL ?_)
      refine if_errA (l1 := [some (rdr R s2), some (.fr (.tup (ks.map .int))), some (.fr (.int b))]) ?_ (.refl _) (raise_errS f_spot)
      generalize rdr R s2 = r0 at *
      generalize ks.map D.int = kk at *
      simp [runF, frees, back, sSeq, sIf, sRet, sNil, sEx, sSet, sRaise, asB, tru, truSl, notT, andE, notE, bin2, un1, rd, cst, vNil, vCons, calB, callE, appE, resolve, slotsOf, putA, aSl, aVal, aNil, has?, chn, tName, rng1, Res.bind, Res.thn, Res.lift, SRes.seq, loopR, Sl.toD, O.toD, sForT, isiE, ni]
end

/-! ### content -/
theorem neD_i (a b : Int) : neD (.int a) (.int b) = some (.bl (decide (a ≠ b))) := by
  have e := eqD_i a b
  unfold eqD at e
  unfold neD
  cases h : eqB (.int a) (.int b) with
  | none => rw [h] at e; cases e
  | some x =>
    rw [h] at e
    have e : x = decide (a = b) := D.bl.inj (Option.some.inj e)
    rw [e]
    simp
theorem e_char_code (b : Int) : m_is_char_code [.fr (.int b)] = .ok (.fr (.bl (decide ((32 ≤ b ∧ b ≤ 126 ∧ b ≠ 37) ∨ b = 9 ∨ b = 10)))) [.fr (.int b)] := by
  have l1 : leD (.int 32) (.int b) = some (.bl (decide (32 ≤ b))) := rfl
  have l2 : leD (.int b) (.int 126) = some (.bl (decide (b ≤ 126))) := rfl
  have n1 := neD_i b 37
  have q1 := eqD_i b 9
  have q2 := eqD_i b 10
  refine runF_rt (l := [some (.fr (.int b))]) rfl ?_ rfl
  show b_is_char_code [some (.fr (.int b))] = _
  by_cases a : 32 ≤ b
  · by_cases c : b ≤ 126
    · by_cases e : b = 37
      · subst e
        rfl
      · by_cases f : b = 9
        · omega
        · by_cases g : b = 10
          · omega
          · simp [b_is_char_code, runF, frees, back, sRet, asB, andE, orE, bin2, rd, cst, has?, chn, Res.bind, Res.thn, Res.lift, SRes.seq, Sl.toD, O.toD, cmpD, leD, eqD, neD, eqB, l1, l2, n1, q1, q2, a, c, e, f, g]
    · by_cases f : b = 9
      · omega
      · by_cases g : b = 10
        · omega
        · simp [b_is_char_code, runF, frees, back, sRet, asB, andE, orE, bin2, rd, cst, has?, chn, Res.bind, Res.thn, Res.lift, SRes.seq, Sl.toD, O.toD, cmpD, leD, eqD, neD, eqB, l1, l2, n1, q1, q2, a, c, f, g]
  · by_cases f : b = 9
    · subst f; rfl
    · by_cases g : b = 10
      · subst g; rfl
      · simp [b_is_char_code, runF, frees, back, sRet, asB, andE, orE, bin2, rd, cst, has?, chn, Res.bind, Res.thn, Res.lift, SRes.seq, Sl.toD, O.toD, cmpD, leD, eqD, neD, eqB, l1, l2, n1, q1, q2, a, f, g]
def rc (k : Int) : Ro := if k = 7 then .char else .rest
structure Ct (k : Int) (ps : Prs) (xs : List Int) : Prop where
  ex : ∃ c, Cd false c xs.length ∧ ps = c ++ xs.map fun b => (b, rc k)
  few : xs.length ≤ 1000
  byt : ∀ b ∈ xs, 0 ≤ b ∧ b ≤ 255
  chr : k = 7 → ∀ b ∈ xs, (32 ≤ b ∧ b ≤ 126 ∧ b ≠ 37) ∨ b = 9 ∨ b = 10
section
variable {R : List D} {s : Nat} {k n : Int}
def CtL (R : List D) (s : Nat) (k n : Int) (acc : List D) (o4 o5 : Option Sl) : Ld := [some (rdr R s), some (.fr (.int k)), some (.fr (.int n)), some (.ow (.lst acc)), o4, o5]
theorem ct_turn {b : Int} {acc : List D} {o4 o5 : Option Sl} (h : R[s]? = some (.int b)) (h0 : 0 ≤ b) (h1 : b ≤ 255) (hc : k = 7 → (32 ≤ b ∧ b ≤ 126 ∧ b ≠ 37) ∨ b = 9 ∨ b = 10) (hl : acc.length < sizeLine) :
    LooseReader_take_content_b0 (CtL R s k n acc o4 o5) = .nx (CtL R (s + 1) k n (acc ++ [.int b]) o4 (some (.fr (.int b)))) := by
  have e2 := lk_ok (l := [some (.fr (.int k)), some (.fr (.int n)), some (.ow (.lst acc)), o4, o5]) h h0 h1
  have q := eqD_i k 7
  have cc := e_char_code b
  refine seq_nx (sset_of e2) (seq_nx (l1 := CtL R s k n acc o4 (some (.fr (.int b)))) ?_ (seq_nx f_aug ?_))
  · show sIf _ _ _ (CtL R s k n acc o4 (some (.fr (.int b)))) = _
    unfold CtL
    generalize rdr R s = r0 at *
    by_cases c : k = 7
    · rw [decide_eq_true (hc c)] at cc
      rw [decide_eq_true c] at q
      simp [runF, frees, back, sSeq, sIf, sRet, sNil, sEx, sSet, sRaise, asB, tru, andT, notT, andE, orE, notE, bin2, un1, rd, cst, vNil, vCons, calB, callE, appE, resolve, slotsOf, putA, aSl, aVal, aNil, has?, isOw, chn, mtS, Res.bind, Res.thn, Res.lift, SRes.seq, Sl.toD, O.toD, isiE, q, cc, truD]
    · rw [decide_eq_false c] at q
      simp [runF, frees, back, sSeq, sIf, sRet, sNil, sEx, sSet, sRaise, asB, tru, andT, notT, andE, orE, notE, bin2, un1, rd, cst, vNil, vCons, calB, callE, appE, resolve, slotsOf, putA, aSl, aVal, aNil, has?, isOw, chn, mtS, Res.bind, Res.thn, Res.lift, SRes.seq, Sl.toD, O.toD, isiE, q]
  · show sEx _ (CtL R (s + 1) k n acc o4 (some (.fr (.int b)))) = _
    unfold CtL
    generalize rdr R (s + 1) = r0 at *
    simp [runF, frees, back, sSeq, sIf, sRet, sNil, sEx, sSet, sRaise, asB, tru, andT, notT, andE, orE, notE, bin2, un1, rd, cst, vNil, vCons, calB, callE, appE, resolve, slotsOf, putA, aSl, aVal, aNil, has?, isOw, chn, mtS, Res.bind, Res.thn, Res.lift, SRes.seq, Sl.toD, O.toD, isiE, isOw, mtS, fAppend, hl]
theorem ct_terr {acc : List D} {o4 o5 : Option Sl} {c : Str} {d : D} (h : Sto R s (rc k) c d) : ErrS LooseReader_take_content_b0 (CtL R s k n acc o4 o5) c d := by
  have er : (R.length = s ∧ c = "Unfinished" ∧ d = .int R.length) ∨ (∃ x, R[s]? = some x ∧ NoB x ∧ c = "WrongByte" ∧ d = .int s) → ErrS LooseReader_take_content_b0 (CtL R s k n acc o4 o5) c d := fun z => seq_errL (set_errE (lk_err (l := [some (.fr (.int k)), some (.fr (.int n)), some (.ow (.lst acc)), o4, o5]) z))
  rcases h with h | ⟨x, a, b, e1, e2⟩
  · exact er (.inl h)
  · rcases b with b | ⟨y, rfl, y0, y1, b⟩
    · exact er (.inr ⟨x, a, b, e1, e2⟩)
    · subst e1 e2
      unfold rc at b
      split at b
      · rename_i c7
        have e2 := lk_ok (l := [some (.fr (.int k)), some (.fr (.int n)), some (.ow (.lst acc)), o4, o5]) a y0 y1
        have q := eqD_i k 7
        rw [decide_eq_true c7] at q
        have cc := e_char_code y
        rw [decide_eq_false b] at cc
        refine seq_errR (sset_of e2) (Keep.set (CtL R s k n acc o4 o5) 5 _) (seq_errL ?_)
        refine if_errA (l1 := CtL R s k n acc o4 (some (.fr (.int y)))) ?_ (.refl _) (raise_errS f_spot)
        show (andT _ _) (CtL R s k n acc o4 (some (.fr (.int y)))) = _
        unfold CtL
        generalize rdr R s = r0 at *
        simp [runF, frees, back, sSeq, sIf, sRet, sNil, sEx, sSet, sRaise, asB, tru, andT, notT, andE, orE, notE, bin2, un1, rd, cst, vNil, vCons, calB, callE, appE, resolve, slotsOf, putA, aSl, aVal, aNil, has?, isOw, chn, mtS, Res.bind, Res.thn, Res.lift, SRes.seq, Sl.toD, O.toD, isiE, q, cc, truD]
      · exact b.elim
theorem ct_loop : ∀ (bs : List Int) (xs : List D) (s : Nat) (acc : List D) (o4 o5 : Option Sl), xs.length = bs.length → (∀ b ∈ bs, 0 ≤ b ∧ b ≤ 255) → (k = 7 → ∀ b ∈ bs, (32 ≤ b ∧ b ≤ 126 ∧ b ≠ 37) ∨ b = 9 ∨ b = 10) → acc.length + bs.length ≤ sizeLine → Ft R s (bs.map fun b => (b, rc k)) →
    ∃ t4 t5, forT (tName 4) LooseReader_take_content_b0 xs (CtL R s k n acc o4 o5) = .nx (CtL R (s + bs.length) k n (acc ++ bs.map .int) t4 t5)
  | [], [], s, acc, o4, o5, _, _, _, _, _ => ⟨o4, o5, by rw [List.map_nil, List.append_nil]; rfl⟩
  | b :: bs, x :: xs, s, acc, o4, o5, hl, hb, hc, hz, F => by
    have F := Ft.cons (p := (b, rc k)) F
    have b0 := hb b List.mem_cons_self
    have e1 := ct_turn (n := n) (o4 := some (.fr x)) (o5 := o5) F.1 b0.1 b0.2 (fun z => hc z b List.mem_cons_self) (acc := acc) (by rw [List.length_cons] at hz; omega)
    obtain ⟨t4, t5, e2⟩ := ct_loop bs xs (s + 1) (acc ++ [.int b]) (some (.fr x)) (some (.fr (.int b))) (by simpa using hl) (fun y m => hb y (List.mem_cons_of_mem _ m)) (fun z y m => hc z y (List.mem_cons_of_mem _ m)) (by rw [List.length_append]; simp at hz ⊢; omega) F.2
    refine ⟨t4, t5, ?_⟩
    rw [forT]
    show loopR (LooseReader_take_content_b0 (CtL R s k n acc (some (.fr x)) o5)) _ = _
    rw [e1]
    show forT _ _ _ _ = _
    rw [e2, List.length_cons, show s + 1 + bs.length = s + (bs.length + 1) by omega, List.map_cons, List.append_assoc]
    rfl
  | [], x :: xs, s, _, _, _, hl, _, _, _, _ => by simp at hl
  | b :: bs, [], s, _, _, _, hl, _, _, _, _ => by simp at hl
theorem ctl_keep {s s2 : Nat} {acc acc2 : List D} {o4 o5 t4 t5 : Option Sl} (h1 : OLe o4 t4) (h2 : OLe o5 t5) : Keep (CtL R s k n acc o4 o5) (CtL R s2 k n acc2 t4 t5) := ⟨rfl, fun i hi => by
  match i, hi with
  | 0, _ => rfl
  | 1, _ => rfl
  | 2, _ => rfl
  | 3, _ => rfl
  | 4, z => rw [has_at (o := o4) rfl] at z; rw [has_at (o := t4) rfl]; exact h1 z
  | 5, z => rw [has_at (o := o5) rfl] at z; rw [has_at (o := t5) rfl]; exact h2 z
  | n + 6, h => cases h⟩
theorem ct_lerr {c : Str} {d : D} : ∀ (bs : List Int) (xs : List D) (s : Nat) (acc : List D) (o4 o5 : Option Sl), xs.length = bs.length → (∀ b ∈ bs, 0 ≤ b ∧ b ≤ 255) → (k = 7 → ∀ b ∈ bs, (32 ≤ b ∧ b ≤ 126 ∧ b ≠ 37) ∨ b = 9 ∨ b = 10) → acc.length + bs.length ≤ sizeLine → Stp R s (bs.map fun b => (b, rc k)) c d →
    ErrS (forT (tName 4) LooseReader_take_content_b0 xs) (CtL R s k n acc o4 o5) c d
  | [], [], s, acc, o4, o5, _, _, _, _, h => h.nil.elim
  | b :: bs, x :: xs, s, acc, o4, o5, hl, hb, hc, hz, h => by
    have b0 := hb b List.mem_cons_self
    rcases Stp.cons (p := (b, rc k)) h with z | ⟨F1, z⟩
    · exact for_errB (l1 := CtL R s k n acc (some (.fr x)) o5) rfl (ctl_keep (fun _ => rfl) (fun h => h)) (ct_terr z)
    · have e1 := ct_turn (n := n) (o4 := some (.fr x)) (o5 := o5) F1 b0.1 b0.2 (fun z => hc z b List.mem_cons_self) (acc := acc) (by rw [List.length_cons] at hz; omega)
      exact for_errN (l1 := CtL R s k n acc (some (.fr x)) o5) rfl e1 (ctl_keep (fun _ => rfl) (fun _ => rfl)) (ct_lerr bs xs (s + 1) (acc ++ [.int b]) (some (.fr x)) _ (by simpa using hl) (fun y m => hb y (List.mem_cons_of_mem _ m)) (fun z y m => hc z y (List.mem_cons_of_mem _ m)) (by rw [List.length_append]; simp at hz ⊢; omega) z)
  | [], x :: xs, s, _, _, _, hl, _, _, _, _ => by simp at hl
  | b :: bs, [], s, _, _, _, hl, _, _, _, _ => by simp at hl
end
theorem thou : (1000 : Nat) ≤ sizeLine := by decide +kernel
theorem sp_content {k : Int} {ps : Prs} {xs : List Int} (h : Ct k ps xs) : Sp m_LooseReader_take_content [.fr (.int k)] ps (.ow (.lst (xs.map .int))) [.fr (.int k)] := by
  obtain ⟨⟨c, hc, rfl⟩, few, byt, chr⟩ := h
  have th := thou
  have rl : ((List.range xs.length).map fun (k : Nat) => D.int k).length = xs.length := by rw [List.length_map, List.length_range]
  refine ⟨fun R s F => ?_, fun R s cl d st => ?_⟩
  · have e := cd_call (l := [some (.fr (.int k)), none, none, none, none]) hc F.left
    obtain ⟨t4, t5, lp⟩ := ct_loop (R := R) (k := k) (n := xs.length) xs _ (s + c.length) [] none none rl byt chr (by simp; omega) F.right
    have rg := rng_small (l := CtL R (s + c.length) k xs.length [] none none) (i := 2) few rfl
    refine runF_rt (l := CtL R (s + (c.length + xs.length)) k xs.length (xs.map .int) t4 t5) rfl ?_ (by rw [List.length_append, List.length_map]; rfl)
    show b_LooseReader_take_content [some (rdr R s), some (.fr (.int k)), none, none, none, none] = _
    refine seq_nx (sset_of e) (seq_nx (l1 := CtL R (s + c.length) k xs.length [] none none) rfl (seq_nx (l1 := CtL R (s + (c.length + xs.length)) k xs.length (xs.map .int) t4 t5) ?_ rfl))
    unfold sForT
    rw [rg]
    show forT _ _ _ _ = _
    rw [lp, Nat.add_assoc]
    rfl
  · refine runF_errS rfl (by simp) ?_
    show ErrS b_LooseReader_take_content [some (rdr R s), some (.fr (.int k)), none, none, none, none] cl d
    rcases st.app with st | ⟨F, st⟩
    · exact seq_errL (set_errE (cd_cerr hc st))
    · have e := cd_call (l := [some (.fr (.int k)), none, none, none, none]) hc F
      have rg := rng_small (l := CtL R (s + c.length) k xs.length [] none none) (i := 2) few rfl
      obtain ⟨l', el, kk⟩ := ct_lerr (R := R) (k := k) (n := xs.length) xs _ (s + c.length) [] none none rl byt chr (by simp; omega) st
      have k0 : Keep [some (rdr R s), some (.fr (.int k)), none, none, none, none] (CtL R (s + c.length) k xs.length [] none none) := ⟨rfl, fun i hi => by
        match i, hi with
        | 0, _ => rfl
        | 1, _ => rfl
        | n + 6, h => cases h⟩
      refine ⟨l', ?_, k0.trans kk⟩
      refine seq_nx (sset_of e) (seq_nx (l1 := CtL R (s + c.length) k xs.length [] none none) rfl ?_)
      have fe : sForT (tName 4) (rng1 (vCons (rd 2) vNil)) LooseReader_take_content_b0 (CtL R (s + c.length) k xs.length [] none none) = .err cl "at" d l' := by
        unfold sForT
        rw [rg]
        exact el
      unfold sSeq
      rw [fe]
      rfl

/-! ### scalars -/
theorem bin_of {f : D → D → Option D} {a b : ME} {l l1 l2 : Ld} {x y z : D} (ha : a l = .ok x l1) (hb : b l1 = .ok y l2) (h : f x y = some z) : bin2 f a b l = .ok z l2 := by
  unfold bin2
  rw [ha]
  simp only [Res.bind, hb, Res.lift, h]
theorem aval1 {e : ME} {l l1 : Ld} {d : D} (h : e l = .ok d l1) : aVal e aNil l = .ok [.val d] l1 := by
  unfold aVal
  rw [h]
  rfl
theorem asB_ne {a : ME} {l l1 : Ld} {i : Int} (h : a l = .ok (.int i) l1) (j : Int) : asB (bin2 neD a (cst (.int j))) l = .ok (decide (i ≠ j)) l1 := by
  have e := bin_of (f := neD) (b := cst (.int j)) (l2 := l1) h rfl (neD_i i j)
  unfold asB
  rw [e]
  rfl
theorem big : (100000 : Nat) ≤ sizeLine := by decide +kernel
theorem dfold_up : ∀ (ds : List Int) (a : Int) (k : Nat), (∀ b ∈ ds, 0 ≤ b ∧ b ≤ 255) → 0 ≤ a → a < 256 ^ k → 0 ≤ dfold a ds ∧ dfold a ds < 256 ^ (k + ds.length)
  | [], a, k, _, h0, h => ⟨h0, by simpa [dfold] using h⟩
  | b :: ds, a, k, hb, h0, h => by
    have b0 := hb b List.mem_cons_self
    have p : (256 : Int) ^ (k + 1) = 256 ^ k * 256 := Int.pow_succ ..
    have := dfold_up ds (a * 256 + b) (k + 1) (fun y m => hb y (List.mem_cons_of_mem _ m)) (by omega) (by omega)
    rw [List.length_cons, show k + (ds.length + 1) = k + 1 + ds.length by omega]
    exact this
theorem Cd.nat {f : Bool} {ps : Prs} {n : Int} (h : Cd f ps n) : ∃ m : Nat, n = m ∧ m < 256 ^ 63 := by
  cases h with
  | short n h0 h1 =>
    refine ⟨n.toNat, by omega, ?_⟩
    have : (192 : Nat) ≤ 256 ^ 63 := by decide +kernel
    omega
  | long ds hb h1 h2 =>
    obtain ⟨a, b⟩ := dfold_up ds 0 0 hb (by decide) (by decide)
    obtain ⟨m, e⟩ := Int.eq_ofNat_of_zero_le a
    refine ⟨m, e, ?_⟩
    rw [e] at b
    have p : (256 : Int) ^ (0 + ds.length) ≤ 256 ^ 63 := by
      have := Nat.pow_le_pow_right (n := 256) (by decide) (show 0 + ds.length ≤ 63 by omega)
      exact_mod_cast this
    have : ((m : Int)) < 256 ^ 63 := by omega
    exact_mod_cast this
inductive Pcs (k : Int) : Prs → List Int → Prop
  | done {g : Prs} (hg : Gp (.pc k) g) : Pcs k (g ++ [(0, .pc k)]) []
  | more {g c ps : Prs} {xs ys : List Int} (hg : Gp (.pc k) g) (hc : Ct k c xs) (h : Pcs k ps ys) : Pcs k (g ++ [(k, .pc k)] ++ (c ++ ps)) (xs ++ ys)
inductive Scl : Int → Prs → List Int → Prop
  | plain (k : Int) (h0 : 1 ≤ k) (h1 : k ≤ 3) : Scl k [] [k]
  | neg {ps : Prs} (n : Nat) (h : Cd true ps n) : Scl 4 ps (4 :: flip255 (codeN n))
  | pos {ps : Prs} (n : Nat) (h : Cd false ps n) : Scl 5 ps (5 :: codeN n)
  | once {ps : Prs} {xs : List Int} (k : Int) (hk : k = 6 ∨ k = 7) (h : Ct k ps xs) : Scl k ps (k :: (codeN xs.length ++ xs))
  | pieces {ps : Prs} {xs : List Int} (k : Int) (hk : k = 6 ∨ k = 7) (h : Pcs k ps xs) (few : xs.length ≤ 100000) : Scl (k + 5) ps (k :: (codeN xs.length ++ xs))
theorem rok_pc {k : Int} (hk : k ≠ 15) : RoK (.pc k) [0, k] := ⟨fun b _ _ h m => h (by
  rcases List.mem_cons.mp m with e | m
  · exact .inl e
  · rcases List.mem_cons.mp m with e | m
    · exact .inr (.inl e)
    · cases m), fun b h e => h (.inr (.inr e))⟩
section
variable {R : List D} {s : Nat} {k : Int}
def PcL (R : List D) (s : Nat) (k : Int) (acc : List D) : Ld := [some (rdr R s), some (.fr (.int (k + 5))), some (.ow (.lst acc))]
theorem pc_sub : subD (.int (k + 5)) (.int 5) = some (.int k) := by
  show some (D.int (k + 5 - 5)) = _
  rw [Int.add_sub_cancel]
theorem pc_args {acc : List D} : aVal (tupE (vCons (cst (.int 0)) (vCons (bin2 subD (rd 1) (cst (.int 5))) vNil))) aNil (PcL R s k acc) = .ok [.val (.tup ([0, k].map .int))] (PcL R s k acc) := by
  refine aval1 ?_
  have e := bin_of (f := subD) (a := rd 1) (b := cst (.int 5)) (l := PcL R s k acc) (l1 := PcL R s k acc) (l2 := PcL R s k acc) rfl rfl pc_sub
  generalize bin2 subD (rd 1) (cst (.int 5)) = b2 at *
  unfold tupE vCons cst
  simp only [Res.bind]
  rw [e]
  simp [vNil, Res.bind, show (2 : Nat) ≤ sizeLine from Nat.le_trans (by decide) thou]
theorem pc_test {g : Prs} {j : Int} {acc : List D} (hk : k = 6 ∨ k = 7) (hj : j = 0 ∨ j = k) (hg : Gp (.pc k) g) (F : Ft R s (g ++ [(j, .pc k)])) : LooseReader_take_scalar_c0 (PcL R s k acc) = .ok (decide (j ≠ 0)) (PcL R (s + (g ++ [(j, Ro.pc k)]).length) k acc) := by
  have sp := sp_kind (rok_pc (k := k) (by omega)) (k := j) (by rcases hj with e | e <;> simp [e]) (by omega) (by omega) (by omega) hg
  have e := mc_ok (name := "take_kind") (l := [some (.fr (.int (k + 5))), some (.ow (.lst acc))]) sp (by decide +kernel) (by decide +kernel) pc_args rfl (by simp [slotsOf]) rfl F rfl
  exact asB_ne e 0
theorem pc_terr {g : Prs} {j : Int} {acc : List D} {c : Str} {d : D} (hk : k = 6 ∨ k = 7) (hj : j = 0 ∨ j = k) (hg : Gp (.pc k) g) (F : Stp R s (g ++ [(j, .pc k)]) c d) : ErrT LooseReader_take_scalar_c0 (PcL R s k acc) c d := by
  have sp := sp_kind (rok_pc (k := k) (by omega)) (k := j) (by rcases hj with e | e <;> simp [e]) (by omega) (by omega) (by omega) hg
  exact asB_err (bin_errL (mc_err (l := [some (.fr (.int (k + 5))), some (.ow (.lst acc))]) sp (by decide +kernel) (by decide +kernel) pc_args rfl (by simp [slotsOf]) F))
theorem pc_cargs {acc : List D} : aVal (bin2 subD (rd 1) (cst (.int 5))) aNil (PcL R s k acc) = .ok [.val (.int k)] (PcL R s k acc) :=
  aval1 (bin_of (f := subD) (a := rd 1) (b := cst (.int 5)) (l := PcL R s k acc) (l1 := PcL R s k acc) (l2 := PcL R s k acc) rfl rfl pc_sub)
theorem pc_body {c : Prs} {xs : List Int} {acc : List D} (hc : Ct k c xs) (hl : acc.length + xs.length ≤ sizeLine) (F : Ft R s c) : LooseReader_take_scalar_b1 (PcL R s k acc) = .nx (PcL R (s + c.length) k (acc ++ xs.map .int)) := by
  have e := mc_ok (name := "take_content") (l := [some (.fr (.int (k + 5))), some (.ow (.lst acc))]) (sp_content hc) (by decide +kernel) (by decide +kernel) pc_cargs rfl (by simp [slotsOf]) rfl F rfl
  have e : methO "LooseReader" "take_content" m_LooseReader_take_content [] 0 (aVal (bin2 subD (rd 1) (cst (.int 5))) aNil) (PcL R s k acc) = .ok (.list (xs.map .int)) (PcL R (s + c.length) k acc) := e
  unfold LooseReader_take_scalar_b1 sEx mtS
  rw [if_pos (show isOw 2 (PcL R s k acc) = true from rfl)]
  unfold vCons
  rw [e]
  have ln : acc.length + (xs.map D.int).length ≤ sizeLine := by rw [List.length_map]; exact hl
  generalize xs.map D.int = zs at *
  unfold PcL
  generalize rdr R (s + c.length) = r1 at *
  simp [vNil, Res.bind, Res.thn, fExtend, ln]
theorem pc_berr {c : Prs} {xs : List Int} {acc : List D} {cl : Str} {d : D} (hc : Ct k c xs) (F : Stp R s c cl d) : ErrS LooseReader_take_scalar_b1 (PcL R s k acc) cl d :=
  ex_errE (mt_err rfl (vcons_errL (mc_err (l := [some (.fr (.int (k + 5))), some (.ow (.lst acc))]) (sp_content hc) (by decide +kernel) (by decide +kernel) pc_cargs rfl (by simp [slotsOf]) F)))
theorem pcl_keep {s s2 : Nat} {acc acc2 : List D} : Keep (PcL R s k acc) (PcL R s2 k acc2) := ⟨rfl, fun i hi => by
  match i, hi with
  | 0, _ => rfl
  | 1, _ => rfl
  | 2, _ => rfl
  | n + 3, h => cases h⟩
theorem pcs_ok {ps : Prs} {xs : List Int} (hk : k = 6 ∨ k = 7) (h : Pcs k ps xs) : ∀ {s : Nat} {acc : List D}, acc.length + xs.length ≤ sizeLine → Ft R s ps → whileM LooseReader_take_scalar_c0 LooseReader_take_scalar_b1 (PcL R s k acc) = .nx (PcL R (s + ps.length) k (acc ++ xs.map .int)) := by
  induction h with
  | done hg =>
    intro s acc _ F
    have t := pc_test (acc := acc) hk (.inl rfl) hg F
    rw [decide_eq_false (fun z => z rfl)] at t
    rw [List.map_nil, List.append_nil]
    exact while_end t
  | @more g c ps xs ys hg hc h ih =>
    intro s acc hz F
    have t := pc_test (acc := acc) hk (.inr rfl) hg F.left
    rw [decide_eq_true (show k ≠ 0 by omega)] at t
    rw [List.length_append] at hz
    have b := pc_body (acc := acc) hc (by omega) F.right.left
    have w := ih (s := s + (g ++ [(k, Ro.pc k)]).length + c.length) (acc := acc ++ xs.map .int) (by rw [List.length_append, List.length_map]; omega) F.right.right
    refine (while_go t b).trans ?_
    rw [w, List.map_append, List.append_assoc]
    simp only [List.length_append, Nat.add_assoc]
theorem pcs_er {ps : Prs} {xs : List Int} {cl : Str} {d : D} (hk : k = 6 ∨ k = 7) (h : Pcs k ps xs) : ∀ {s : Nat} {acc : List D}, acc.length + xs.length ≤ sizeLine → Stp R s ps cl d → ErrS (whileM LooseReader_take_scalar_c0 LooseReader_take_scalar_b1) (PcL R s k acc) cl d := by
  induction h with
  | done hg =>
    intro s acc _ F
    exact while_errT (pc_terr hk (.inl rfl) hg F)
  | @more g c ps xs ys hg hc h ih =>
    intro s acc hz F
    rw [List.length_append] at hz
    rcases F.app with F | ⟨F1, F⟩
    · exact while_errT (pc_terr hk (.inr rfl) hg F)
    · have t := pc_test (acc := acc) hk (.inr rfl) hg F1
      rw [decide_eq_true (show k ≠ 0 by omega)] at t
      rcases F.app with F | ⟨F2, F⟩
      · exact while_errB t pcl_keep (pc_berr hc F)
      · exact while_errN t (pc_body (acc := acc) hc (by omega) F2) pcl_keep (ih (by rw [List.length_append, List.length_map]; omega) F)
end

theorem dl_plain {n : Nat} {l : Ld} {e : ME} (h : n < 256 ^ 63) (he : e l = .ok (.int n) l) : callE m_plain_code [] (aVal e aNil) l = .ok (.list ((codeN n).map .int)) l := by
  have pc := e_plain_code h
  unfold callE
  rw [aval1 he]
  generalize (codeN n).map D.int = zs at *
  simp [Res.bind, appE, resolve, slotsOf, putA, pc, Sl.toD]
def SclL (R : List D) (s : Nat) (k : Int) (o : Option Sl) : Ld := [some (rdr R s), some (.fr (.int k)), o]
theorem sif_n {t : MT} {a b : MS} {l l1 : Ld} (h : t l = .ok false l1) : sIf t a b l = b l1 := by
  unfold sIf
  rw [h]
  rfl
theorem sif_y {t : MT} {a b : MS} {l l1 : Ld} (h : t l = .ok true l1) : sIf t a b l = a l1 := by
  unfold sIf
  rw [h]
  rfl
theorem sc_le {R : List D} {s : Nat} {k j : Int} {o : Option Sl} : asB (bin2 leD (rd 1) (cst (.int j))) (SclL R s k o) = .ok (decide (k ≤ j)) (SclL R s k o) := rfl
theorem sc_eq {R : List D} {s : Nat} {k j : Int} {o : Option Sl} : asB (bin2 eqD (rd 1) (cst (.int j))) (SclL R s k o) = .ok (decide (k = j)) (SclL R s k o) := by
  have e := bin_of (f := eqD) (a := rd 1) (b := cst (.int j)) (l := SclL R s k o) (l1 := SclL R s k o) (l2 := SclL R s k o) rfl rfl (eqD_i k j)
  unfold asB
  rw [e]
  rfl
theorem ret_of {e : ME} {l l1 : Ld} {d : D} (h : e l = .ok d l1) : sRet e l = .rt (.fr d) l1 := by
  unfold sRet
  rw [h]
  rfl
/-! ### taking a scalar -/
theorem or_y {a b : MT} {l l1 : Ld} (h : a l = .ok true l1) : orT a b l = .ok true l1 := by
  unfold orT
  rw [h]
  rfl
theorem or_n {a b : MT} {l l1 : Ld} (h : a l = .ok false l1) : orT a b l = b l1 := by
  unfold orT
  rw [h]
  rfl
theorem len_sl {i : Nat} {l : Ld} {s : Sl} {n : Nat} (h : l[i]? = some (some s)) (e : lenD s.toD = some n) : lenSl i l = .ok (.int n) l := by
  unfold lenSl
  rw [h]
  dsimp only
  rw [e]
  rfl
theorem len_list (xs : List D) : lenD (.list xs) = some xs.length := rfl
theorem cat_l (a b : List D) : addD (.list a) (.list b) = if a.length + b.length ≤ sizeLine then some (.list (a ++ b)) else none := rfl
theorem codeN_few {n : Nat} (h : n < 256 ^ 63) : (codeN n).length ≤ 64 := by
  have := codeN_len h
  omega
theorem sp_scalar {k : Int} {ps : Prs} {row : List Int} (h : Scl k ps row) : Sp m_LooseReader_take_scalar [.fr (.int k)] ps (.fr (.list (row.map .int))) [.fr (.int k)] := by
  have bg := big
  cases h with
  | plain k h0 h1 =>
    refine ⟨fun R s F => ?_, fun R s c d st => st.nil.elim⟩
    refine runF_rt (l := SclL R s k none) rfl ?_ rfl
    show b_LooseReader_take_scalar (SclL R s k none) = _
    refine seq_rt ?_
    refine (sif_y (by rw [sc_le, decide_eq_true h1])).trans (ret_of ?_)
    have s1 : 1 ≤ sizeLine := by omega
    unfold SclL
    generalize rdr R s = r0 at *
    simp [runF, frees, back, sSeq, sIf, sRet, sRetS, sNil, sEx, sSet, sSetL, sRaise, asB, tru, truSl, andT, orT, notT, andE, orE, notE, bin2, un1, rd, cst, frz, lstL, tupE, vNil, vCons, calB, callE, appE, resolve, slotsOf, putA, aSl, aVal, aNil, has?, isOw, chn, lenSl, mtS, tName, itE, rng1, Res.bind, Res.thn, Res.lift, SRes.seq, loopR, Sl.toD, O.toD, sForT, isiE, lcL, emp, yes, s1]
  | neg n hc =>
    have nn : n < 256 ^ 63 := by
      obtain ⟨m, e, q⟩ := hc.nat
      have : n = m := by exact_mod_cast e
      omega
    have ir := e_integer_neg nn
    have sb : subD (.int (-1)) (.int n) = some (.int (-1 - n)) := rfl
    refine ⟨fun R s F => ?_, fun R s c d st => ?_⟩
    · have e := cd_call (l := [some (.fr (.int 4)), none]) hc F
      refine runF_rt (l := SclL R (s + ps.length) 4 none) rfl ?_ rfl
      show b_LooseReader_take_scalar (SclL R s 4 none) = _
      refine seq_nx (sif_n (by rw [sc_le]; rfl)) (seq_rt ?_)
      refine (sif_y (by rw [sc_eq]; rfl)).trans (ret_of ?_)
      have b := bin_of (f := subD) (a := un1 negD (cst (.int 1))) (l := SclL R s 4 none) (l1 := SclL R s 4 none) rfl e sb
      unfold callE
      rw [aval1 b]
      show (Res.ok [Arg.val (.int (-1 - n))] (SclL R (s + ps.length) 4 none)).bind _ = _
      simp [Res.bind, appE, resolve, slotsOf, putA, ir, Sl.toD]
    · refine runF_errS rfl (by simp) ?_
      show ErrS b_LooseReader_take_scalar (SclL R s 4 none) c d
      refine seq_errR (sif_n (by rw [sc_le]; rfl)) (.refl _) (seq_errL (if_errA (by rw [sc_eq]; rfl) (.refl _) (ret_errE (call_errA (aval_err (bin_errR (l1 := SclL R s 4 none) rfl (.refl _) ?_))))))
      exact cd_cerr (l := [some (.fr (.int 4)), none]) hc st
  | pos n hc =>
    have nn : n < 256 ^ 63 := by
      obtain ⟨m, e, q⟩ := hc.nat
      have : n = m := by exact_mod_cast e
      omega
    have ir := e_integer_pos nn
    refine ⟨fun R s F => ?_, fun R s c d st => ?_⟩
    · have e := cd_call (l := [some (.fr (.int 5)), none]) hc F
      refine runF_rt (l := SclL R (s + ps.length) 5 none) rfl ?_ rfl
      show b_LooseReader_take_scalar (SclL R s 5 none) = _
      refine seq_nx (sif_n (by rw [sc_le]; rfl)) (seq_nx (sif_n (by rw [sc_eq]; rfl)) (seq_rt ?_))
      refine (sif_y (by rw [sc_eq]; rfl)).trans (ret_of ?_)
      have e : methO "LooseReader" "take_code" m_LooseReader_take_code [] 0 (aVal (cst (.bl false)) aNil) (SclL R s 5 none) = .ok (.int n) (SclL R (s + ps.length) 5 none) := e
      unfold callE
      rw [aval1 e]
      simp [Res.bind, appE, resolve, slotsOf, putA, ir, Sl.toD]
    · refine runF_errS rfl (by simp) ?_
      show ErrS b_LooseReader_take_scalar (SclL R s 5 none) c d
      refine seq_errR (sif_n (by rw [sc_le]; rfl)) (.refl _) (seq_errR (sif_n (by rw [sc_eq]; rfl)) (.refl _) (seq_errL (if_errA (by rw [sc_eq]; rfl) (.refl _) (ret_errE (call_errA (aval_err ?_))))))
      exact cd_cerr (l := [some (.fr (.int 5)), none]) hc st
  | once k hk hc =>
    rename_i xs
    have few := hc.few
    have nn : xs.length < 256 ^ 63 := by
      have : (1001 : Nat) ≤ 256 ^ 63 := by decide +kernel
      omega
    have cf := codeN_few nn
    have t4 : ∀ R s (o : Option Sl), sIf (asB (bin2 leD (rd 1) (cst (.int 3)))) (sRet (frz (lstL (vCons (rd 1) vNil)))) sNil (SclL R s k o) = .nx (SclL R s k o) := fun R s o => sif_n (by rw [sc_le, decide_eq_false (by omega)])
    have q4 : ∀ (b : MS) R s (o : Option Sl), sIf (asB (bin2 eqD (rd 1) (cst (.int 4)))) b sNil (SclL R s k o) = .nx (SclL R s k o) := fun b R s o => sif_n (by rw [sc_eq, decide_eq_false (by omega)])
    have q5 : ∀ (b : MS) R s (o : Option Sl), sIf (asB (bin2 eqD (rd 1) (cst (.int 5)))) b sNil (SclL R s k o) = .nx (SclL R s k o) := fun b R s o => sif_n (by rw [sc_eq, decide_eq_false (by omega)])
    have q67 : ∀ R s (o : Option Sl), orT (asB (bin2 eqD (rd 1) (cst (.int 6)))) (asB (bin2 eqD (rd 1) (cst (.int 7)))) (SclL R s k o) = .ok true (SclL R s k o) := fun R s o => by
      rcases hk with rfl | rfl
      · exact or_y (by rw [sc_eq]; rfl)
      · exact (or_n (by rw [sc_eq]; rfl)).trans (by rw [sc_eq]; rfl)
    refine ⟨fun R s F => ?_, fun R s c d st => ?_⟩
    · have e := mc_ok (name := "take_content") (l := [some (.fr (.int k)), none]) (ga := aSl 1 aNil) (args := [.sl 1]) (l2 := SclL R (s + ps.length) k none) (sp_content hc) (by decide +kernel) (by decide +kernel) rfl rfl (by simp [slotsOf]) rfl F rfl
      refine runF_rt (l := SclL R (s + ps.length) k (some (.fr (.list (xs.map .int))))) rfl ?_ rfl
      show b_LooseReader_take_scalar (SclL R s k none) = _
      refine seq_nx (t4 _ _ _) (seq_nx (q4 _ _ _ _) (seq_nx (q5 _ _ _ _) (seq_rt ?_)))
      refine (sif_y (q67 _ _ _)).trans ?_
      refine seq_nx (sset_of e) (ret_of ?_)
      have pc := dl_plain (l := SclL R (s + ps.length) k (some (.fr (.list (xs.map .int))))) (e := lenSl 2) nn (by
        have := len_sl (l := SclL R (s + ps.length) k (some (.fr (.list (xs.map .int))))) (i := 2) rfl (len_list _)
        rwa [List.length_map] at this)
      show bin2 addD (bin2 addD (frz (lstL (vCons (rd 1) vNil))) (callE m_plain_code [] (aVal (lenSl 2) aNil))) (rd 2) (SclL R (s + ps.length) k (some (.fr (.list (xs.map .int))))) = _
      have h1 : frz (lstL (vCons (rd 1) vNil)) (SclL R (s + ps.length) k (some (.fr (.list (xs.map .int))))) = .ok (.list [.int k]) (SclL R (s + ps.length) k (some (.fr (.list (xs.map .int))))) := by
        have s1 : 1 ≤ sizeLine := by omega
        unfold SclL
        generalize rdr R (s + ps.length) = r0 at *
        simp [runF, frees, back, sSeq, sIf, sRet, sRetS, sNil, sEx, sSet, sSetL, sRaise, asB, tru, truSl, andT, orT, notT, andE, orE, notE, bin2, un1, rd, cst, frz, lstL, tupE, vNil, vCons, calB, callE, appE, resolve, slotsOf, putA, aSl, aVal, aNil, has?, isOw, chn, lenSl, mtS, tName, itE, rng1, Res.bind, Res.thn, Res.lift, SRes.seq, loopR, Sl.toD, O.toD, sForT, isiE, lcL, emp, yes, s1]
      refine bin_of (bin_of h1 pc (by rw [cat_l, if_pos (by simp; omega)])) rfl ?_
      rw [cat_l, if_pos (by simp; omega)]
      simp [List.map_append, List.append_assoc]
    · refine runF_errS rfl (by simp) ?_
      show ErrS b_LooseReader_take_scalar (SclL R s k none) c d
      refine seq_errR (t4 _ _ _) (.refl _) (seq_errR (q4 _ _ _ _) (.refl _) (seq_errR (q5 _ _ _ _) (.refl _) (seq_errL (if_errA (q67 _ _ _) (.refl _) (seq_errL (set_errE ?_))))))
      exact mc_err (name := "take_content") (l := [some (.fr (.int k)), none]) (ga := aSl 1 aNil) (args := [.sl 1]) (sp_content hc) (by decide +kernel) (by decide +kernel) rfl rfl (by simp [slotsOf]) st
  | pieces k hk hc few =>
    rename_i xs
    have nn : xs.length < 256 ^ 63 := by
      have : (100001 : Nat) ≤ 256 ^ 63 := by decide +kernel
      omega
    have cf := codeN_few nn
    have bg2 : (200000 : Nat) ≤ sizeLine := by decide +kernel
    have t4 : ∀ R s (o : Option Sl), sIf (asB (bin2 leD (rd 1) (cst (.int 3)))) (sRet (frz (lstL (vCons (rd 1) vNil)))) sNil (SclL R s (k + 5) o) = .nx (SclL R s (k + 5) o) := fun R s o => sif_n (by rw [sc_le, decide_eq_false (by omega)])
    have q4 : ∀ (b : MS) R s (o : Option Sl), sIf (asB (bin2 eqD (rd 1) (cst (.int 4)))) b sNil (SclL R s (k + 5) o) = .nx (SclL R s (k + 5) o) := fun b R s o => sif_n (by rw [sc_eq, decide_eq_false (by omega)])
    have q5 : ∀ (b : MS) R s (o : Option Sl), sIf (asB (bin2 eqD (rd 1) (cst (.int 5)))) b sNil (SclL R s (k + 5) o) = .nx (SclL R s (k + 5) o) := fun b R s o => sif_n (by rw [sc_eq, decide_eq_false (by omega)])
    have q67 : ∀ (b : MS) R s (o : Option Sl), sIf (orT (asB (bin2 eqD (rd 1) (cst (.int 6)))) (asB (bin2 eqD (rd 1) (cst (.int 7))))) b sNil (SclL R s (k + 5) o) = .nx (SclL R s (k + 5) o) := fun b R s o => sif_n (by
      refine (or_n (by rw [sc_eq, decide_eq_false (by omega)])).trans ?_
      rw [sc_eq, decide_eq_false (by omega)])
    have st2 : ∀ R s, sSetL 2 (lstL vNil) (SclL R s (k + 5) none) = .nx (PcL R s k []) := fun R s => by
      unfold SclL PcL
      generalize rdr R s = r0 at *
      simp [runF, frees, back, sSeq, sIf, sRet, sRetS, sNil, sEx, sSet, sSetL, sRaise, asB, tru, truSl, andT, orT, notT, andE, orE, notE, bin2, un1, rd, cst, frz, lstL, tupE, vNil, vCons, calB, callE, appE, resolve, slotsOf, putA, aSl, aVal, aNil, has?, isOw, chn, lenSl, mtS, tName, itE, rng1, Res.bind, Res.thn, Res.lift, SRes.seq, loopR, Sl.toD, O.toD, sForT, isiE, lcL, emp, yes]
    refine ⟨fun R s F => ?_, fun R s c d st => ?_⟩
    · have w := pcs_ok hk hc (R := R) (s := s) (acc := []) (by simp; omega) F
      refine runF_rt (l := SclL R (s + ps.length) (k + 5) (some (.fr (.list (xs.map .int))))) rfl ?_ rfl
      show b_LooseReader_take_scalar (SclL R s (k + 5) none) = _
      refine seq_nx (t4 _ _ _) (seq_nx (q4 _ _ _ _) (seq_nx (q5 _ _ _ _) (seq_nx (q67 _ _ _ _) (seq_nx (st2 _ _) (seq_nx (l1 := PcL R (s + ps.length) k (xs.map .int)) w (ret_of ?_))))))
      have pc := dl_plain (l := PcL R (s + ps.length) k (xs.map .int)) (e := lenSl 2) nn (by
        have := len_sl (l := PcL R (s + ps.length) k (xs.map .int)) (i := 2) rfl (len_list _)
        rwa [List.length_map] at this)
      have h1 : frz (lstL (vCons (bin2 subD (rd 1) (cst (.int 5))) vNil)) (PcL R (s + ps.length) k (xs.map .int)) = .ok (.list [.int k]) (PcL R (s + ps.length) k (xs.map .int)) := by
        have s1 : 1 ≤ sizeLine := by omega
        have e := bin_of (f := subD) (a := rd 1) (b := cst (.int 5)) (l := PcL R (s + ps.length) k (xs.map .int)) (l1 := PcL R (s + ps.length) k (xs.map .int)) (l2 := PcL R (s + ps.length) k (xs.map .int)) rfl rfl (pc_sub (k := k))
        generalize bin2 subD (rd 1) (cst (.int 5)) = b2 at *
        generalize PcL R (s + ps.length) k (xs.map .int) = l0 at *
        simp [runF, frees, back, sSeq, sIf, sRet, sRetS, sNil, sEx, sSet, sSetL, sRaise, asB, tru, truSl, andT, orT, notT, andE, orE, notE, bin2, un1, rd, cst, frz, lstL, tupE, vNil, vCons, calB, callE, appE, resolve, slotsOf, putA, aSl, aVal, aNil, has?, isOw, chn, lenSl, mtS, tName, itE, rng1, Res.bind, Res.thn, Res.lift, SRes.seq, loopR, Sl.toD, O.toD, sForT, isiE, lcL, emp, yes, s1, e]
      refine bin_of (bin_of h1 pc (by rw [cat_l, if_pos (by simp; omega)])) (y := .list (xs.map .int)) (l2 := SclL R (s + ps.length) (k + 5) (some (.fr (.list (xs.map .int))))) ?_ ?_
      · rfl
      · rw [cat_l, if_pos (by simp; omega)]
        simp [List.map_append, List.append_assoc]
    · refine runF_errS rfl (by simp) ?_
      show ErrS b_LooseReader_take_scalar (SclL R s (k + 5) none) c d
      have w := pcs_er hk hc (R := R) (s := s) (acc := []) (by simp; omega) st
      have kp : Keep (SclL R s (k + 5) none) (PcL R s k []) := ⟨rfl, fun i hi => by
        match i, hi with
        | 0, _ => rfl
        | 1, _ => rfl
        | n + 3, h => cases h⟩
      exact seq_errR (t4 _ _ _) (.refl _) (seq_errR (q4 _ _ _ _) (.refl _) (seq_errR (q5 _ _ _ _) (.refl _) (seq_errR (q67 _ _ _ _) (.refl _) (seq_errR (st2 _ _) kp (seq_errL w)))))

/-! ### lists -/
theorem app_of {e : ME} {i : Nat} {l l' : Ld} {d : D} {acc : List D} (h : e l = .ok d l') (hi : isOw i l = true) (hl : l'[i]? = some (some (.ow (.lst acc)))) (few : acc.length < sizeLine) : sEx (mtS i fAppend (vCons e vNil)) l = .nx (l'.set i (some (.ow (.lst (acc ++ [d]))))) := by
  unfold sEx mtS
  rw [if_pos hi]
  unfold vCons
  rw [h]
  have e1 : (Res.ok d l').bind (fun d l1 => (vNil l1).bind fun ds l2 => Res.ok (d :: ds) l2) = .ok [d] l' := rfl
  rw [e1]
  simp [Res.bind, Res.thn, hl, fAppend, few]
theorem ext_of {e : ME} {i : Nat} {l l' : Ld} {ds acc : List D} (h : e l = .ok (.list ds) l') (hi : isOw i l = true) (hl : l'[i]? = some (some (.ow (.lst acc)))) (few : acc.length + ds.length ≤ sizeLine) : sEx (mtS i fExtend (vCons e vNil)) l = .nx (l'.set i (some (.ow (.lst (acc ++ ds))))) := by
  unfold sEx mtS
  rw [if_pos hi]
  unfold vCons
  rw [h]
  have e1 : (Res.ok (D.list ds) l').bind (fun d l1 => (vNil l1).bind fun ds l2 => Res.ok (d :: ds) l2) = .ok [.list ds] l' := rfl
  rw [e1]
  simp [Res.bind, Res.thn, hl, fExtend, few]
abbrev LP := Prs → List Int → Prop
def lD (row : List Int) : D := .list (row.map .int)
def HI (rec : MF) (r : Nat) (P : LP) : Prop := ∀ ps row, P ps row → Sp rec [.fr (.int r)] ps (.fr (lD row)) [.fr (.int r)]
inductive Many (P : LP) : Prs → List (List Int) → Prop
  | nil : Many P [] []
  | cons {ps qs : Prs} {row : List Int} {rows : List (List Int)} (h : P ps row) (t : Many P qs rows) : Many P (ps ++ qs) (row :: rows)
structure Part (P : LP) (ps : Prs) (rows : List (List Int)) : Prop where
  ex : ∃ c qs, Cd false c rows.length ∧ Many P qs rows ∧ ps = c ++ qs
  few : rows.length ≤ 1000
section
variable {R : List D} {s : Nat} {w : World} {rec : MF} {r : Nat} {P : LP}
def PtL (R : List D) (s : Nat) (acc : List D) (r : Nat) (n : Int) (o4 : Option Sl) : Ld := [some (rdr R s), some (.ow (.lst acc)), some (.fr (.int ((r : Int) + 1))), some (.fr (.int n)), o4]
theorem pt_sub : subD (.int ((r : Int) + 1)) (.int 1) = some (.int r) := by
  show some (D.int ((r : Int) + 1 - 1)) = _
  rw [Int.add_sub_cancel]
theorem pt_args {acc : List D} {n : Int} {o4 : Option Sl} : aVal (bin2 subD (rd 2) (cst (.int 1))) aNil (PtL R s acc r n o4) = .ok [.val (.int r)] (PtL R s acc r n o4) :=
  aval1 (bin_of (f := subD) (a := rd 2) (b := cst (.int 1)) (l := PtL R s acc r n o4) (l1 := PtL R s acc r n o4) (l2 := PtL R s acc r n o4) rfl rfl pt_sub)
theorem pt_turn {ps : Prs} {row : List Int} {acc : List D} {n : Int} {o4 : Option Sl} (sp : Sp rec [.fr (.int r)] ps (.fr (lD row)) [.fr (.int r)]) (F : Ft R s ps) (few : acc.length < sizeLine) :
    LooseReader_take_parts_b0 w rec (PtL R s acc r n o4) = .nx (PtL R (s + ps.length) (acc ++ [lD row]) r n o4) := by
  have e := mc_ok (name := "take_item") (l := [some (.ow (.lst acc)), some (.fr (.int ((r : Int) + 1))), some (.fr (.int n)), o4]) sp (by decide +kernel) (by decide +kernel) pt_args rfl (by simp [slotsOf]) rfl F rfl
  exact app_of (i := 1) (l := PtL R s acc r n o4) (l' := PtL R (s + ps.length) acc r n o4) e rfl rfl few
theorem pt_terr {ps : Prs} {row : List Int} {acc : List D} {n : Int} {o4 : Option Sl} {c : Str} {d : D} (sp : Sp rec [.fr (.int r)] ps (.fr (lD row)) [.fr (.int r)]) (F : Stp R s ps c d) :
    ErrS (LooseReader_take_parts_b0 w rec) (PtL R s acc r n o4) c d :=
  ex_errE (mt_err rfl (vcons_errL (mc_err (name := "take_item") (l := [some (.ow (.lst acc)), some (.fr (.int ((r : Int) + 1))), some (.fr (.int n)), o4]) sp (by decide +kernel) (by decide +kernel) pt_args rfl (by simp [slotsOf]) F)))
theorem ptl_keep {s2 : Nat} {acc acc2 : List D} {n : Int} {o4 t4 : Option Sl} (h : OLe o4 t4) : Keep (PtL R s acc r n o4) (PtL R s2 acc2 r n t4) := ⟨rfl, fun i hi => by
  match i, hi with
  | 0, _ => rfl
  | 1, _ => rfl
  | 2, _ => rfl
  | 3, _ => rfl
  | 4, z => rw [has_at (o := o4) rfl] at z; rw [has_at (o := t4) rfl]; exact h z
  | n + 5, h => cases h⟩
theorem pt_loop (hi : HI rec r P) {ps : Prs} {rows : List (List Int)} (h : Many P ps rows) : ∀ {xs : List D} {s : Nat} {acc : List D} {n : Int} {o4 : Option Sl}, xs.length = rows.length → acc.length + rows.length ≤ sizeLine → Ft R s ps →
    ∃ t4, forT (tName 4) (LooseReader_take_parts_b0 w rec) xs (PtL R s acc r n o4) = .nx (PtL R (s + ps.length) (acc ++ rows.map lD) r n t4) := by
  induction h with
  | nil =>
    intro xs s acc n o4 hl _ _
    cases xs with
    | nil => exact ⟨o4, by rw [List.map_nil, List.append_nil]; rfl⟩
    | cons x xs => simp at hl
  | @cons ps qs row rows h t ih =>
    intro xs s acc n o4 hl few F
    cases xs with
    | nil => simp at hl
    | cons x xs =>
      rw [List.length_cons] at few
      have e1 := pt_turn (w := w) (acc := acc) (n := n) (o4 := some (.fr x)) (hi _ _ h) F.left (by omega)
      obtain ⟨t4, e2⟩ := ih (xs := xs) (s := s + ps.length) (acc := acc ++ [lD row]) (n := n) (o4 := some (.fr x)) (by simpa using hl) (by rw [List.length_append]; simp; omega) F.right
      refine ⟨t4, ?_⟩
      rw [forT]
      show loopR (LooseReader_take_parts_b0 w rec (PtL R s acc r n (some (.fr x)))) _ = _
      rw [e1]
      show forT _ _ _ _ = _
      rw [e2, List.length_append, Nat.add_assoc, List.append_assoc, List.map_cons]
      rfl
theorem pt_lerr (hi : HI rec r P) {ps : Prs} {rows : List (List Int)} {c : Str} {d : D} (h : Many P ps rows) : ∀ {xs : List D} {s : Nat} {acc : List D} {n : Int} {o4 : Option Sl}, xs.length = rows.length → acc.length + rows.length ≤ sizeLine → Stp R s ps c d →
    ErrS (forT (tName 4) (LooseReader_take_parts_b0 w rec) xs) (PtL R s acc r n o4) c d := by
  induction h with
  | nil =>
    intro xs s acc n o4 hl _ F
    exact F.nil.elim
  | @cons ps qs row rows h t ih =>
    intro xs s acc n o4 hl few F
    cases xs with
    | nil => simp at hl
    | cons x xs =>
      rw [List.length_cons] at few
      rcases F.app with F | ⟨F1, F⟩
      · exact for_errB (l1 := PtL R s acc r n (some (.fr x))) rfl (ptl_keep fun _ => rfl) (pt_terr (hi _ _ h) F)
      · have e1 := pt_turn (w := w) (acc := acc) (n := n) (o4 := some (.fr x)) (hi _ _ h) F1 (by omega)
        exact for_errN (l1 := PtL R s acc r n (some (.fr x))) rfl e1 (ptl_keep fun _ => rfl) (ih (xs := xs) (by simpa using hl) (by rw [List.length_append]; simp; omega) F)
end
theorem sp_parts {w : World} {rec : MF} {r : Nat} {P : LP} (hi : HI rec r P) {ps : Prs} {rows : List (List Int)} {acc : List D} (h : Part P ps rows) (few : acc.length + rows.length ≤ sizeLine) :
    Sp (m_LooseReader_take_parts w rec) [.ow (.lst acc), .fr (.int ((r : Int) + 1))] ps (.fr .non) [.ow (.lst (acc ++ rows.map lD)), .fr (.int ((r : Int) + 1))] := by
  obtain ⟨⟨c, qs, hc, hm, rfl⟩, th⟩ := h
  have rl : ((List.range rows.length).map fun (k : Nat) => D.int k).length = rows.length := by rw [List.length_map, List.length_range]
  refine ⟨fun R s F => ?_, fun R s cl d st => ?_⟩
  · have e := cd_call (l := [some (.ow (.lst acc)), some (.fr (.int ((r : Int) + 1))), none, none]) hc F.left
    obtain ⟨t4, lp⟩ := pt_loop (R := R) (w := w) hi hm (s := s + c.length) (acc := acc) (n := rows.length) (o4 := none) rl few F.right
    have rg := rng_small (l := PtL R (s + c.length) acc r rows.length none) (i := 3) th rfl
    refine runF_nx (l := PtL R (s + (c ++ qs).length) (acc ++ rows.map lD) r rows.length t4) rfl ?_ rfl
    show b_LooseReader_take_parts w rec [some (rdr R s), some (.ow (.lst acc)), some (.fr (.int ((r : Int) + 1))), none, none] = _
    refine seq_nx (sset_of e) ?_
    show sForT _ _ _ (PtL R (s + c.length) acc r rows.length none) = _
    unfold sForT
    rw [rg]
    show forT _ _ _ _ = _
    rw [lp, List.length_append, Nat.add_assoc]
  · refine runF_errS rfl (by simp) ?_
    show ErrS (b_LooseReader_take_parts w rec) [some (rdr R s), some (.ow (.lst acc)), some (.fr (.int ((r : Int) + 1))), none, none] cl d
    rcases st.app with st | ⟨F, st⟩
    · exact seq_errL (set_errE (cd_cerr hc st))
    · have e := cd_call (l := [some (.ow (.lst acc)), some (.fr (.int ((r : Int) + 1))), none, none]) hc F
      have rg := rng_small (l := PtL R (s + c.length) acc r rows.length none) (i := 3) th rfl
      obtain ⟨l', el, kk⟩ := pt_lerr (R := R) (w := w) hi hm (s := s + c.length) (acc := acc) (n := rows.length) (o4 := none) rl few st
      have k0 : Keep [some (rdr R s), some (.ow (.lst acc)), some (.fr (.int ((r : Int) + 1))), none, none] (PtL R (s + c.length) acc r rows.length none) := ⟨rfl, fun i hi => by
        match i, hi with
        | 0, _ => rfl
        | 1, _ => rfl
        | 2, _ => rfl
        | n + 5, h => cases h⟩
      refine ⟨l', ?_, k0.trans kk⟩
      refine seq_nx (sset_of e) ?_
      show sForT _ _ _ (PtL R (s + c.length) acc r rows.length none) = _
      unfold sForT
      rw [rg]
      exact el

/-! ### taking a list -/
inductive PcsL (P : LP) : Prs → List (List Int) → Prop
  | done {g : Prs} (hg : Gp (.pc 8) g) : PcsL P (g ++ [(0, .pc 8)]) []
  | more {g c ps : Prs} {rows rows2 : List (List Int)} (hg : Gp (.pc 8) g) (hc : Part P c rows) (h : PcsL P ps rows2) : PcsL P (g ++ [(8, .pc 8)] ++ (c ++ ps)) (rows ++ rows2)
def joinL (k : Int) (n : Nat) (rows : List (List Int)) : List Int := k :: (codeN n ++ rows.flatten)
section
variable {R : List D} {s : Nat} {w : World} {rec : MF} {r : Nat} {P : LP} {k : Int}
def TlL (R : List D) (s : Nat) (k : Int) (r : Nat) (o3 o4 o5 : Option Sl) : Ld := [some (rdr R s), some (.fr (.int k)), some (.fr (.int ((r : Int) + 1))), o3, o4, o5]
theorem tll_keep {s2 : Nat} {o3 o4 o5 t3 t4 t5 : Option Sl} (h3 : OLe o3 t3) (h4 : OLe o4 t4) (h5 : OLe o5 t5) : Keep (TlL R s k r o3 o4 o5) (TlL R s2 k r t3 t4 t5) := ⟨rfl, fun i hi => by
  match i, hi with
  | 0, _ => rfl
  | 1, _ => rfl
  | 2, _ => rfl
  | 3, z => rw [has_at (o := o3) rfl] at z; rw [has_at (o := t3) rfl]; exact h3 z
  | 4, z => rw [has_at (o := o4) rfl] at z; rw [has_at (o := t4) rfl]; exact h4 z
  | 5, z => rw [has_at (o := o5) rfl] at z; rw [has_at (o := t5) rfl]; exact h5 z
  | n + 6, h => cases h⟩
theorem tl_eq {k j : Int} {o3 o4 o5 : Option Sl} : asB (bin2 eqD (rd 1) (cst (.int j))) (TlL R s k r o3 o4 o5) = .ok (decide (k = j)) (TlL R s k r o3 o4 o5) := by
  have e := bin_of (f := eqD) (a := rd 1) (b := cst (.int j)) (l := TlL R s k r o3 o4 o5) (l1 := TlL R s k r o3 o4 o5) (l2 := TlL R s k r o3 o4 o5) rfl rfl (eqD_i k j)
  unfold asB
  rw [e]
  rfl
theorem sex_of {e : ME} {l l1 : Ld} {d : D} (h : e l = .ok d l1) : sEx e l = .nx l1 := by
  unfold sEx
  rw [h]
  rfl
theorem pl_call (hi : HI rec r P) {ps : Prs} {rows : List (List Int)} {acc : List D} {o4 o5 : Option Sl} (h : Part P ps rows) (few : acc.length + rows.length ≤ sizeLine) (F : Ft R s ps) :
    sEx (methO "LooseReader" "take_parts" (m_LooseReader_take_parts w rec) [] 0 (aSl 3 (aSl 2 aNil))) (TlL R s k r (some (.ow (.lst acc))) o4 o5) = .nx (TlL R (s + ps.length) k r (some (.ow (.lst (acc ++ rows.map lD)))) o4 o5) :=
  sex_of (mc_ok (name := "take_parts") (l := [some (.fr (.int k)), some (.fr (.int ((r : Int) + 1))), some (.ow (.lst acc)), o4, o5]) (args := [.sl 3, .sl 2]) (sp_parts (w := w) hi h few) (by decide +kernel) (by decide +kernel) rfl rfl (by simp [slotsOf]) rfl F rfl)
theorem pl_cerr (hi : HI rec r P) {ps : Prs} {rows : List (List Int)} {acc : List D} {o4 o5 : Option Sl} {c : Str} {d : D} (h : Part P ps rows) (few : acc.length + rows.length ≤ sizeLine) (F : Stp R s ps c d) :
    ErrS (sEx (methO "LooseReader" "take_parts" (m_LooseReader_take_parts w rec) [] 0 (aSl 3 (aSl 2 aNil)))) (TlL R s k r (some (.ow (.lst acc))) o4 o5) c d :=
  ex_errE (mc_err (name := "take_parts") (l := [some (.fr (.int k)), some (.fr (.int ((r : Int) + 1))), some (.ow (.lst acc)), o4, o5]) (args := [.sl 3, .sl 2]) (sp_parts (w := w) hi h few) (by decide +kernel) (by decide +kernel) rfl rfl (by simp [slotsOf]) F)
theorem tl_args {o3 o4 o5 : Option Sl} : aVal (tupE (vCons (cst (.int 0)) (vCons (cst (.int 8)) vNil))) aNil (TlL R s k r o3 o4 o5) = .ok [.val (.tup ([0, 8].map .int))] (TlL R s k r o3 o4 o5) := by
  refine aval1 ?_
  have s2 : 2 ≤ sizeLine := Nat.le_trans (by decide) thou
  generalize TlL R s k r o3 o4 o5 = l0 at *
  simp [tupE, vCons, vNil, cst, Res.bind, s2]
theorem tl_test {g : Prs} {j : Int} {o3 o4 o5 : Option Sl} (hj : j = 0 ∨ j = 8) (hg : Gp (.pc 8) g) (F : Ft R s (g ++ [(j, .pc 8)])) : LooseReader_take_list_c0 w rec (TlL R s k r o3 o4 o5) = .ok (decide (j ≠ 0)) (TlL R (s + (g ++ [(j, Ro.pc 8)]).length) k r o3 o4 o5) := by
  have sp := sp_kind (rok_pc (k := 8) (by omega)) (k := j) (by rcases hj with e | e <;> simp [e]) (by omega) (by omega) (by omega) hg
  have e := mc_ok (name := "take_kind") (l := [some (.fr (.int k)), some (.fr (.int ((r : Int) + 1))), o3, o4, o5]) sp (by decide +kernel) (by decide +kernel) tl_args rfl (by simp [slotsOf]) rfl F rfl
  exact asB_ne e 0
theorem tl_terr {g : Prs} {j : Int} {o3 o4 o5 : Option Sl} {c : Str} {d : D} (hj : j = 0 ∨ j = 8) (hg : Gp (.pc 8) g) (F : Stp R s (g ++ [(j, .pc 8)]) c d) : ErrT (LooseReader_take_list_c0 w rec) (TlL R s k r o3 o4 o5) c d := by
  have sp := sp_kind (rok_pc (k := 8) (by omega)) (k := j) (by rcases hj with e | e <;> simp [e]) (by omega) (by omega) (by omega) hg
  exact asB_err (bin_errL (mc_err (name := "take_kind") (l := [some (.fr (.int k)), some (.fr (.int ((r : Int) + 1))), o3, o4, o5]) sp (by decide +kernel) (by decide +kernel) tl_args rfl (by simp [slotsOf]) F))
theorem pcsl_ok (hi : HI rec r P) {ps : Prs} {rows : List (List Int)} (h : PcsL P ps rows) : ∀ {s : Nat} {acc : List D} {o4 o5 : Option Sl}, acc.length + rows.length ≤ sizeLine → Ft R s ps →
    whileM (LooseReader_take_list_c0 w rec) (LooseReader_take_list_b1 w rec) (TlL R s k r (some (.ow (.lst acc))) o4 o5) = .nx (TlL R (s + ps.length) k r (some (.ow (.lst (acc ++ rows.map lD)))) o4 o5) := by
  induction h with
  | done hg =>
    intro s acc o4 o5 _ F
    have t := tl_test (w := w) (rec := rec) (k := k) (r := r) (o3 := some (.ow (.lst acc))) (o4 := o4) (o5 := o5) (.inl rfl) hg F
    rw [decide_eq_false (fun z => z rfl)] at t
    rw [List.map_nil, List.append_nil]
    exact while_end t
  | @more g c ps rows rows2 hg hc h ih =>
    intro s acc o4 o5 hz F
    have t := tl_test (w := w) (rec := rec) (k := k) (r := r) (o3 := some (.ow (.lst acc))) (o4 := o4) (o5 := o5) (.inr rfl) hg F.left
    rw [decide_eq_true (by decide)] at t
    rw [List.length_append] at hz
    have b := pl_call (w := w) (k := k) (acc := acc) (o4 := o4) (o5 := o5) hi hc (by omega) F.right.left
    have ww := ih (s := s + (g ++ [(8, Ro.pc 8)]).length + c.length) (acc := acc ++ rows.map lD) (o4 := o4) (o5 := o5) (by rw [List.length_append, List.length_map]; omega) F.right.right
    refine (while_go (b := LooseReader_take_list_b1 w rec) t b).trans ?_
    rw [ww, List.map_append, List.append_assoc]
    simp only [List.length_append, Nat.add_assoc]
theorem pcsl_er (hi : HI rec r P) {ps : Prs} {rows : List (List Int)} {cl : Str} {d : D} (h : PcsL P ps rows) : ∀ {s : Nat} {acc : List D} {o4 o5 : Option Sl}, acc.length + rows.length ≤ sizeLine → Stp R s ps cl d →
    ErrS (whileM (LooseReader_take_list_c0 w rec) (LooseReader_take_list_b1 w rec)) (TlL R s k r (some (.ow (.lst acc))) o4 o5) cl d := by
  induction h with
  | done hg =>
    intro s acc o4 o5 _ F
    exact while_errT (tl_terr (.inl rfl) hg F)
  | @more g c ps rows rows2 hg hc h ih =>
    intro s acc o4 o5 hz F
    rw [List.length_append] at hz
    rcases F.app with F | ⟨F1, F⟩
    · exact while_errT (tl_terr (.inr rfl) hg F)
    · have t := tl_test (w := w) (rec := rec) (k := k) (r := r) (o3 := some (.ow (.lst acc))) (o4 := o4) (o5 := o5) (.inr rfl) hg F1
      rw [decide_eq_true (by decide)] at t
      have kp : ∀ (s2 : Nat) (acc2 : List D), Keep (TlL R s k r (some (.ow (.lst acc))) o4 o5) (TlL R s2 k r (some (.ow (.lst acc2))) o4 o5) := fun s2 acc2 => tll_keep (fun _ => rfl) (fun h => h) (fun h => h)
      rcases F.app with F | ⟨F2, F⟩
      · exact while_errB t (kp _ _) (pl_cerr hi hc (by omega) F)
      · exact while_errN t (pl_call (w := w) (k := k) hi hc (by omega) F2) (kp _ _) (ih (by rw [List.length_append, List.length_map]; omega) F)
theorem join_loop : ∀ (rows : List (List Int)) {acc : List D} {o3 o5 : Option Sl}, acc.length + rows.flatten.length ≤ sizeLine →
    ∃ t5, forT (tName 5) (LooseReader_take_list_b2 w rec) (rows.map lD) (TlL R s k r o3 (some (.ow (.lst acc))) o5) = .nx (TlL R s k r o3 (some (.ow (.lst (acc ++ rows.flatten.map .int)))) t5)
  | [], acc, o3, o5, _ => ⟨o5, by simp [forT]⟩
  | row :: rows, acc, o3, o5, few => by
    rw [List.flatten_cons, List.length_append] at few
    have b : LooseReader_take_list_b2 w rec (TlL R s k r o3 (some (.ow (.lst acc))) (some (.fr (lD row)))) = .nx (TlL R s k r o3 (some (.ow (.lst (acc ++ row.map .int)))) (some (.fr (lD row)))) :=
      ext_of (i := 4) (e := rd 5) (l' := TlL R s k r o3 (some (.ow (.lst acc))) (some (.fr (lD row)))) rfl rfl rfl (by rw [List.length_map]; omega)
    obtain ⟨t5, e2⟩ := join_loop rows (acc := acc ++ row.map .int) (o3 := o3) (o5 := some (.fr (lD row))) (by rw [List.length_append, List.length_map]; omega)
    refine ⟨t5, ?_⟩
    rw [List.map_cons, forT]
    show loopR (LooseReader_take_list_b2 w rec (TlL R s k r o3 (some (.ow (.lst acc))) (some (.fr (lD row))))) _ = _
    rw [b]
    show forT _ _ _ _ = _
    rw [e2, List.flatten_cons, List.map_append, List.append_assoc]
theorem cat_of {a b : ME} {i : Nat} {l l1 l2 : Ld} {xs ys : List D} (ha : a l = .ok (.list xs) l1) (hb : b l1 = .ok (.list ys) l2) (h : xs.length + ys.length ≤ sizeLine) : sSetL i (bin2L catD a b) l = .nx (l2.set i (some (.ow (.lst (xs ++ ys))))) := by
  unfold sSetL bin2L
  rw [ha]
  simp [Res.bind, hb, catD, h, Res.lift, Res.thn]
theorem one_list {i : Int} {l : Ld} : frz (lstL (vCons (cst (.int i)) vNil)) l = .ok (.list [.int i]) l := by
  have s1 : 1 ≤ sizeLine := Nat.le_trans (by decide) thou
  simp [frz, lstL, vCons, vNil, cst, Res.bind, s1]
theorem list_end {rows : List (List Int)} (few : rows.length ≤ 100000) (few2 : rows.flatten.length ≤ 100000) :
    ∃ t5, (sSeq (sSetL 4 (bin2L catD (frz (lstL (vCons (cst (.int 8)) vNil))) (callE m_plain_code [] (aVal (lenSl 3) aNil))))
  (sSeq (sForT (tName 5) (itE (rd 3)) (LooseReader_take_list_b2 w rec))
  (sRetS 4))) (TlL R s k r (some (.ow (.lst (rows.map lD)))) none none) = .rt (.ow (.lst ((joinL 8 rows.length rows).map .int))) (TlL R s k r (some (.fr (.list (rows.map lD)))) (some (.ow (.lst ((joinL 8 rows.length rows).map .int)))) t5) := by
  have bg2 : (200000 : Nat) ≤ sizeLine := by decide +kernel
  have nn : rows.length < 256 ^ 63 := by
    have : (100001 : Nat) ≤ 256 ^ 63 := by decide +kernel
    omega
  have cf := codeN_few nn
  have pc := dl_plain (l := TlL R s k r (some (.ow (.lst (rows.map lD)))) none none) (e := lenSl 3) nn (by
    have := len_sl (l := TlL R s k r (some (.ow (.lst (rows.map lD)))) none none) (i := 3) rfl (len_list _)
    rwa [List.length_map] at this)
  have s4 := cat_of (i := 4) (one_list (i := 8) (l := TlL R s k r (some (.ow (.lst (rows.map lD)))) none none)) pc (by simp; omega)
  obtain ⟨t5, lp⟩ := join_loop (R := R) (s := s) (w := w) (rec := rec) (k := k) (r := r) rows (acc := [D.int 8] ++ (codeN rows.length).map .int) (o3 := some (.fr (.list (rows.map lD)))) (o5 := none) (by simp only [List.length_append, List.length_map, List.length_cons, List.length_nil]; omega)
  have jn : [D.int 8] ++ (codeN rows.length).map D.int ++ rows.flatten.map D.int = (joinL 8 rows.length rows).map .int := by simp only [joinL, List.map_cons, List.map_append, List.cons_append, List.nil_append]
  rw [jn] at lp
  refine ⟨t5, seq_nx s4 (seq_nx (l1 := TlL R s k r (some (.fr (.list (rows.map lD)))) (some (.ow (.lst ((joinL 8 rows.length rows).map .int)))) t5) ?_ rfl)⟩
  show sForT _ _ _ (TlL R s k r (some (.ow (.lst (rows.map lD)))) (some (.ow (.lst ([D.int 8] ++ (codeN rows.length).map .int)))) none) = _
  unfold sForT
  have it : itE (rd 3) (TlL R s k r (some (.ow (.lst (rows.map lD)))) (some (.ow (.lst ([D.int 8] ++ (codeN rows.length).map .int)))) none) = .ok (rows.map lD) (TlL R s k r (some (.fr (.list (rows.map lD)))) (some (.ow (.lst ([D.int 8] ++ (codeN rows.length).map .int)))) none) := rfl
  rw [it]
  exact lp
end
inductive Lst (P : LP) : Int → Prs → List (List Int) → Prop
  | one {ps : Prs} {rows : List (List Int)} (h : Part P ps rows) : Lst P 8 ps rows
  | pcs {ps : Prs} {rows : List (List Int)} (h : PcsL P ps rows) : Lst P 13 ps rows
theorem sp_list {w : World} {rec : MF} {r : Nat} {P : LP} (hi : HI rec r P) {k : Int} {ps : Prs} {rows : List (List Int)} (h : Lst P k ps rows) (few : rows.length ≤ 100000) (few2 : rows.flatten.length ≤ 100000) :
    Sp (m_LooseReader_take_list w rec) [.fr (.int k), .fr (.int ((r : Int) + 1))] ps (.ow (.lst ((joinL 8 rows.length rows).map .int))) [.fr (.int k), .fr (.int ((r : Int) + 1))] := by
  have bg := big
  have s3 : ∀ R s, sSetL 3 (lstL vNil) (TlL R s k r none none none) = .nx (TlL R s k r (some (.ow (.lst []))) none none) := fun R s => rfl
  have kp : ∀ R s, Keep (TlL R s k r none none none) (TlL R s k r (some (.ow (.lst []))) none none) := fun R s => tll_keep (fun _ => rfl) (fun h => h) (fun h => h)
  refine ⟨fun R s F => ?_, fun R s c d st => ?_⟩
  · obtain ⟨t5, le⟩ := list_end (R := R) (s := s + ps.length) (w := w) (rec := rec) (k := k) (r := r) few few2
    refine runF_rt (l := TlL R (s + ps.length) k r (some (.fr (.list (rows.map lD)))) (some (.ow (.lst ((joinL 8 rows.length rows).map .int)))) t5) rfl ?_ rfl
    show b_LooseReader_take_list w rec (TlL R s k r none none none) = _
    refine seq_nx (s3 R s) (seq_nx (l1 := TlL R (s + ps.length) k r (some (.ow (.lst (rows.map lD)))) none none) ?_ le)
    cases h with
    | one h => exact (sif_y (by rw [tl_eq]; rfl)).trans (pl_call (acc := []) hi h (by simp; omega) F)
    | pcs h => exact (sif_n (by rw [tl_eq]; rfl)).trans (pcsl_ok (acc := []) hi h (by simp; omega) F)
  · refine runF_errS rfl (by simp) ?_
    show ErrS (b_LooseReader_take_list w rec) (TlL R s k r none none none) c d
    refine seq_errR (s3 R s) (kp R s) (seq_errL ?_)
    cases h with
    | one h => exact if_errA (by rw [tl_eq]; rfl) (.refl _) (pl_cerr (acc := []) hi h (by simp; omega) st)
    | pcs h => exact if_errB (by rw [tl_eq]; rfl) (.refl _) (pcsl_er (acc := []) hi h (by simp; omega) st)

/-! ### maps -/
def kD (r : List Int) : D := .tup (r.map .int)
abbrev Kv := List Int × List Int
def kvD (kvs : List Kv) : List (D × D) := kvs.map fun p => (kD p.1, lD p.2)
theorem nk_kD (r : List Int) : nkOf (kD r) = some (.tup (r.map .num)) := by
  simp [kD, nkOf, nks_ints]
theorem nk_small (r : List Int) : (NestedKey.tup (r.map .num)).depth ≤ 8 := by
  have := nkdepth_ints r
  simp [NestedKey.depth]
  omega
theorem kv_none {k : List Int} : ∀ {kvs : List Kv}, k ∉ kvs.map (·.1) → dFind (.tup (k.map .num)) (kvD kvs) = none
  | [], _ => rfl
  | p :: r, h => by
    have h1 : k ≠ p.1 := fun z => h (by rw [z]; exact List.mem_cons_self)
    have h2 : k ∉ r.map (·.1) := fun z => h (List.mem_cons_of_mem _ z)
    have ne : ¬ nkOf (kD p.1) = some (.tup (k.map .num)) := fun z => by
      rw [nk_kD] at z
      injection z with z
      injection z with z
      exact h1 (num_inj z).symm
    show (if nkOf (kD p.1) = some (.tup (k.map .num)) then _ else dFind _ (kvD r)) = none
    rw [if_neg ne]
    exact kv_none h2
theorem kv_at {p : Kv} : ∀ {kvs : List Kv}, (kvs.map (·.1)).Nodup → p ∈ kvs → dFind (.tup (p.1.map .num)) (kvD kvs) = some (lD p.2)
  | [], _, h => by cases h
  | q :: r, nd, h => by
    obtain ⟨n1, n2⟩ := List.nodup_cons.mp (show (q.1 :: r.map (·.1)).Nodup from nd)
    rcases List.mem_cons.mp h with rfl | h
    · show (if nkOf (kD p.1) = some (.tup (p.1.map .num)) then _ else _) = _
      rw [if_pos (nk_kD _)]
    · have ne : ¬ nkOf (kD q.1) = some (.tup (p.1.map .num)) := fun z => by
        rw [nk_kD] at z
        injection z with z
        injection z with z
        exact n1 (by rw [num_inj z]; exact List.mem_map.mpr ⟨p, h, rfl⟩)
      show (if nkOf (kD q.1) = some (.tup (p.1.map .num)) then _ else dFind _ (kvD r)) = _
      rw [if_neg ne]
      exact kv_at n2 h
theorem kv_put {p : Kv} {kvs : List Kv} (h : p.1 ∉ kvs.map (·.1)) : dPut (.tup (p.1.map .num)) (kD p.1) (lD p.2) (kvD kvs) = kvD (kvs ++ [p]) := by
  rw [dPut_new]
  · unfold kvD
    rw [List.map_append]
    rfl
  · intro q mq z
    obtain ⟨x, mx, rfl⟩ := List.mem_map.mp mq
    have z : nkOf (kD x.1) = some (.tup (p.1.map .num)) := z
    rw [nk_kD] at z
    injection z with z
    injection z with z
    exact h (by rw [← num_inj z]; exact List.mem_map.mpr ⟨x, mx, rfl⟩)
theorem din_no {w : World} {k : List Int} {kvs : List Kv} (h : k ∉ kvs.map (·.1)) : dinD w false (kD k) (.dict w (kvD kvs)) = some (.bl false) := by
  unfold dinD
  dsimp only
  rw [if_pos rfl, nk_kD]
  show (if (NestedKey.tup (k.map .num)).depth ≤ 8 then _ else _) = _
  rw [if_pos (nk_small k), kv_none h]
  rfl
theorem dix_kv {w : World} {p : Kv} {kvs : List Kv} (nd : (kvs.map (·.1)).Nodup) (h : p ∈ kvs) : dixD w (.dict w (kvD kvs)) (kD p.1) = some (lD p.2) := by
  unfold dixD
  dsimp only
  rw [if_pos rfl, nk_kD]
  show (if (NestedKey.tup (p.1.map .num)).depth ≤ 8 then _ else _) = _
  rw [if_pos (nk_small p.1)]
  exact kv_at nd h
theorem dput_of {w : World} {i : Nat} {gb ge : ME} {l l1 l2 : Ld} {p : Kv} {kvs : List Kv} (he : ge l = .ok (lD p.2) l1) (hh : has? i l1 = true) (hb : gb l1 = .ok (kD p.1) l2) (hl : l2[i]? = some (some (.ow (.dct w (kvD kvs))))) (few : kvs.length < sizeLine) (h : p.1 ∉ kvs.map (·.1)) :
    sDPut w i gb ge l = .nx (l2.set i (some (.ow (.dct w (kvD (kvs ++ [p])))))) := by
  have fw : (kvD kvs).length < sizeLine := by unfold kvD; rw [List.length_map]; exact few
  have pt := kv_put h
  have nk := nk_kD p.1
  have sm := nk_small p.1
  unfold sDPut
  rw [he]
  generalize kvD (kvs ++ [p]) = kv2 at *
  generalize kvD kvs = kv1 at *
  generalize kD p.1 = kk at *
  generalize NestedKey.tup (p.1.map .num) = nn at *
  simp [Res.thn, hh, hb, hl, fw, nk, sm, pt]
def keyKinds : List Int := [4, 5, 6, 7, 11, 12]
inductive Pr (P : LP) : Prs → Kv → Prop
  | mk {g ps1 ps2 : Prs} {k : Int} {key row : List Int} (hg : Gp .key g) (hk : k ∈ keyKinds) (h1 : Scl k ps1 key) (h2 : P ps2 row) : Pr P ((g ++ [(k, .key)]) ++ (ps1 ++ ps2)) (key, row)
inductive ManyP (P : LP) : Prs → List Kv → Prop
  | nil : ManyP P [] []
  | cons {ps qs : Prs} {p : Kv} {kvs : List Kv} (h : Pr P ps p) (t : ManyP P qs kvs) : ManyP P (ps ++ qs) (p :: kvs)
structure PartM (P : LP) (ps : Prs) (kvs : List Kv) : Prop where
  ex : ∃ c qs, Cd false c kvs.length ∧ ManyP P qs kvs ∧ ps = c ++ qs
  few : kvs.length ≤ 1000
theorem rok_key : RoK .key keyKinds := ⟨fun b _ _ h m => h (by
  rcases List.mem_cons.mp m with e | m
  · omega
  · rcases List.mem_cons.mp m with e | m
    · omega
    · rcases List.mem_cons.mp m with e | m
      · omega
      · rcases List.mem_cons.mp m with e | m
        · omega
        · rcases List.mem_cons.mp m with e | m
          · omega
          · rcases List.mem_cons.mp m with e | m
            · omega
            · cases m), fun b h e => h (by omega)⟩
theorem key_rg {k : Int} (hk : k ∈ keyKinds) : 4 ≤ k ∧ k ≤ 12 := by
  simp [keyKinds] at hk
  omega
section
variable {R : List D} {s : Nat} {w : World} {rec : MF} {r : Nat} {P : LP}
def PaL (R : List D) (s : Nat) (w : World) (kvs : List Kv) (r : Nat) (n : Int) (o4 o5 o6 o7 : Option Sl) : Ld := [some (rdr R s), some (.ow (.dct w (kvD kvs))), some (.fr (.int ((r : Int) + 1))), some (.fr (.int n)), o4, o5, o6, o7]
theorem pal_keep {s2 : Nat} {kvs kvs2 : List Kv} {n : Int} {o4 o5 o6 o7 t4 t5 t6 t7 : Option Sl} (h4 : OLe o4 t4) (h5 : OLe o5 t5) (h6 : OLe o6 t6) (h7 : OLe o7 t7) : Keep (PaL R s w kvs r n o4 o5 o6 o7) (PaL R s2 w kvs2 r n t4 t5 t6 t7) := ⟨rfl, fun i hi => by
  match i, hi with
  | 0, _ => rfl
  | 1, _ => rfl
  | 2, _ => rfl
  | 3, _ => rfl
  | 4, z => rw [has_at (o := o4) rfl] at z; rw [has_at (o := t4) rfl]; exact h4 z
  | 5, z => rw [has_at (o := o5) rfl] at z; rw [has_at (o := t5) rfl]; exact h5 z
  | 6, z => rw [has_at (o := o6) rfl] at z; rw [has_at (o := t6) rfl]; exact h6 z
  | 7, z => rw [has_at (o := o7) rfl] at z; rw [has_at (o := t7) rfl]; exact h7 z
  | n + 8, h => cases h⟩
variable {kvs : List Kv} {n : Int} {o4 o5 o6 o7 : Option Sl}
theorem pa_kind {g : Prs} {k : Int} (hg : Gp .key g) (hk : k ∈ keyKinds) (F : Ft R s (g ++ [(k, .key)])) :
    sSet 5 (methO "LooseReader" "take_kind" m_LooseReader_take_kind [] 0 (aVal (cst vKEYS) aNil)) (PaL R s w kvs r n o4 o5 o6 o7) = .nx (PaL R (s + (g ++ [(k, Ro.key)]).length) w kvs r n o4 (some (.fr (.int k))) o6 o7) := by
  have kr := key_rg hk
  exact sset_of (mc_ok (name := "take_kind") (l := [some (.ow (.dct w (kvD kvs))), some (.fr (.int ((r : Int) + 1))), some (.fr (.int n)), o4, o5, o6, o7]) (args := [.val (.tup (keyKinds.map .int))]) (sp_kind rok_key hk (by omega) (by omega) (by omega) hg) (by decide +kernel) (by decide +kernel) rfl rfl (by simp [slotsOf]) rfl F rfl)
theorem pa_kerr {g : Prs} {k : Int} {c : Str} {d : D} (hg : Gp .key g) (hk : k ∈ keyKinds) (F : Stp R s (g ++ [(k, .key)]) c d) :
    ErrS (sSet 5 (methO "LooseReader" "take_kind" m_LooseReader_take_kind [] 0 (aVal (cst vKEYS) aNil))) (PaL R s w kvs r n o4 o5 o6 o7) c d := by
  have kr := key_rg hk
  exact set_errE (mc_err (name := "take_kind") (l := [some (.ow (.dct w (kvD kvs))), some (.fr (.int ((r : Int) + 1))), some (.fr (.int n)), o4, o5, o6, o7]) (args := [.val (.tup (keyKinds.map .int))]) (sp_kind rok_key hk (by omega) (by omega) (by omega) hg) (by decide +kernel) (by decide +kernel) rfl rfl (by simp [slotsOf]) F)
theorem pa_spot : ∃ j : Int, j = (s : Int) - 1 ∧ sSet 6 (bin2 subD (fldO "spot" ["LooseReader"] 0) (cst (.int 1))) (PaL R s w kvs r n o4 o5 o6 o7) = .nx (PaL R s w kvs r n o4 o5 (some (.fr (.int j))) o7) :=
  ⟨(s : Int) - 1, rfl, sset_of (bin_of (f := subD) (l2 := PaL R s w kvs r n o4 o5 o6 o7) f_spot rfl rfl)⟩
theorem pa_scalar {ps1 : Prs} {k : Int} {key : List Int} (h : Scl k ps1 key) (F : Ft R s ps1) :
    sSet 7 (calB tupleB (vCons (methO "LooseReader" "take_scalar" m_LooseReader_take_scalar [] 0 (aSl 5 aNil)) vNil)) (PaL R s w kvs r n o4 (some (.fr (.int k))) o6 o7) = .nx (PaL R (s + ps1.length) w kvs r n o4 (some (.fr (.int k))) o6 (some (.fr (kD key)))) := by
  have e := mc_ok (name := "take_scalar") (l := [some (.ow (.dct w (kvD kvs))), some (.fr (.int ((r : Int) + 1))), some (.fr (.int n)), o4, some (.fr (.int k)), o6, o7]) (ga := aSl 5 aNil) (args := [.sl 5]) (l2 := PaL R (s + ps1.length) w kvs r n o4 (some (.fr (.int k))) o6 o7) (sp_scalar h) (by decide +kernel) (by decide +kernel) rfl rfl (by simp [slotsOf]) rfl F rfl
  refine sset_of (x := kD key) (l1 := PaL R (s + ps1.length) w kvs r n o4 (some (.fr (.int k))) o6 o7) ?_
  unfold calB vCons
  have e : methO "LooseReader" "take_scalar" m_LooseReader_take_scalar [] 0 (aSl 5 aNil) (PaL R s w kvs r n o4 (some (.fr (.int k))) o6 o7) = .ok (.list (key.map .int)) (PaL R (s + ps1.length) w kvs r n o4 (some (.fr (.int k))) o6 o7) := e
  rw [e]
  rfl
theorem pa_serr {ps1 : Prs} {k : Int} {key : List Int} {c : Str} {d : D} (h : Scl k ps1 key) (F : Stp R s ps1 c d) :
    ErrS (sSet 7 (calB tupleB (vCons (methO "LooseReader" "take_scalar" m_LooseReader_take_scalar [] 0 (aSl 5 aNil)) vNil))) (PaL R s w kvs r n o4 (some (.fr (.int k))) o6 o7) c d :=
  set_errE (calB_err (vcons_errL (mc_err (name := "take_scalar") (l := [some (.ow (.dct w (kvD kvs))), some (.fr (.int ((r : Int) + 1))), some (.fr (.int n)), o4, some (.fr (.int k)), o6, o7]) (ga := aSl 5 aNil) (args := [.sl 5]) (sp_scalar h) (by decide +kernel) (by decide +kernel) rfl rfl (by simp [slotsOf]) F)))
theorem pa_din {key : List Int} {b : Bool} (h : dinD w false (kD key) (.dict w (kvD kvs)) = some (.bl b)) : asB (dinO w 1 (rd 7)) (PaL R s w kvs r n o4 o5 o6 (some (.fr (kD key)))) = .ok b (PaL R s w kvs r n o4 o5 o6 (some (.fr (kD key)))) := by
  have e : dinO w 1 (rd 7) (PaL R s w kvs r n o4 o5 o6 (some (.fr (kD key)))) = Res.lift (dinD w false (kD key) (.dict w (kvD kvs))) (PaL R s w kvs r n o4 o5 o6 (some (.fr (kD key)))) := rfl
  unfold asB
  rw [e, h]
  rfl
theorem pa_args : aVal (bin2 subD (rd 2) (cst (.int 1))) aNil (PaL R s w kvs r n o4 o5 o6 o7) = .ok [.val (.int r)] (PaL R s w kvs r n o4 o5 o6 o7) :=
  aval1 (bin_of (f := subD) (a := rd 2) (b := cst (.int 1)) (l := PaL R s w kvs r n o4 o5 o6 o7) (l1 := PaL R s w kvs r n o4 o5 o6 o7) (l2 := PaL R s w kvs r n o4 o5 o6 o7) rfl rfl pt_sub)
theorem pa_put {ps2 : Prs} {p : Kv} (sp : Sp rec [.fr (.int r)] ps2 (.fr (lD p.2)) [.fr (.int r)]) (F : Ft R s ps2) (few : kvs.length < sizeLine) (h : p.1 ∉ kvs.map (·.1)) :
    sDPut w 1 (rd 7) (methO "LooseReader" "take_item" rec [] 0 (aVal (bin2 subD (rd 2) (cst (.int 1))) aNil)) (PaL R s w kvs r n o4 o5 o6 (some (.fr (kD p.1)))) = .nx (PaL R (s + ps2.length) w (kvs ++ [p]) r n o4 o5 o6 (some (.fr (kD p.1)))) := by
  have e := mc_ok (name := "take_item") (l := [some (.ow (.dct w (kvD kvs))), some (.fr (.int ((r : Int) + 1))), some (.fr (.int n)), o4, o5, o6, some (.fr (kD p.1))]) sp (by decide +kernel) (by decide +kernel) pa_args rfl (by simp [slotsOf]) rfl F rfl
  exact dput_of (l := PaL R s w kvs r n o4 o5 o6 (some (.fr (kD p.1)))) (l1 := PaL R (s + ps2.length) w kvs r n o4 o5 o6 (some (.fr (kD p.1)))) (l2 := PaL R (s + ps2.length) w kvs r n o4 o5 o6 (some (.fr (kD p.1)))) e rfl rfl rfl few h
theorem dput_err {i : Nat} {gb ge : ME} {l : Ld} {c : Str} {d : D} (h : ErrE ge l c d) : ErrS (sDPut w i gb ge) l c d := by
  obtain ⟨l', h, k⟩ := h
  refine ⟨l', ?_, k⟩
  unfold sDPut
  rw [h]
  rfl
theorem pa_perr {ps2 : Prs} {row : List Int} {c : Str} {d : D} (sp : Sp rec [.fr (.int r)] ps2 (.fr (lD row)) [.fr (.int r)]) (F : Stp R s ps2 c d) :
    ErrS (sDPut w 1 (rd 7) (methO "LooseReader" "take_item" rec [] 0 (aVal (bin2 subD (rd 2) (cst (.int 1))) aNil))) (PaL R s w kvs r n o4 o5 o6 o7) c d :=
  dput_err (mc_err (name := "take_item") (l := [some (.ow (.dct w (kvD kvs))), some (.fr (.int ((r : Int) + 1))), some (.fr (.int n)), o4, o5, o6, o7]) sp (by decide +kernel) (by decide +kernel) pa_args rfl (by simp [slotsOf]) F)
theorem pa_turn (hi : HI rec r P) {ps : Prs} {p : Kv} (h : Pr P ps p) (nin : p.1 ∉ kvs.map (·.1)) (few : kvs.length < sizeLine) (F : Ft R s ps) :
    ∃ t5 t6 t7, LooseReader_take_pairs_b0 w rec (PaL R s w kvs r n o4 o5 o6 o7) = .nx (PaL R (s + ps.length) w (kvs ++ [p]) r n o4 (some t5) (some t6) (some t7)) := by
  cases h with
  | @mk g ps1 ps2 k key row hg hk h1 h2 =>
    have e1 := pa_kind (w := w) (kvs := kvs) (r := r) (n := n) (o4 := o4) (o5 := o5) (o6 := o6) (o7 := o7) hg hk F.left
    obtain ⟨j, _, e2⟩ := pa_spot (R := R) (s := s + (g ++ [(k, Ro.key)]).length) (w := w) (kvs := kvs) (r := r) (n := n) (o4 := o4) (o5 := some (.fr (.int k))) (o6 := o6) (o7 := o7)
    have e3 := pa_scalar (w := w) (kvs := kvs) (r := r) (n := n) (o4 := o4) (o6 := some (.fr (.int j))) (o7 := o7) h1 F.right.left
    have e5 := pa_put (w := w) (kvs := kvs) (n := n) (o4 := o4) (o5 := some (.fr (.int k))) (o6 := some (.fr (.int j))) (p := (key, row)) (hi _ _ h2) F.right.right few nin
    refine ⟨.fr (.int k), .fr (.int j), .fr (kD key), seq_nx e1 (seq_nx e2 (seq_nx e3 (seq_nx (sif_n (pa_din (din_no nin))) ?_)))⟩
    have L : s + (g ++ [(k, Ro.key)]).length + ps1.length + ps2.length = s + (g ++ [(k, Ro.key)] ++ (ps1 ++ ps2)).length := by simp only [List.length_append]; omega
    rw [L] at e5
    exact e5
theorem pa_terr (hi : HI rec r P) {ps : Prs} {p : Kv} {c : Str} {d : D} (h : Pr P ps p) (nin : p.1 ∉ kvs.map (·.1)) (F : Stp R s ps c d) :
    ErrS (LooseReader_take_pairs_b0 w rec) (PaL R s w kvs r n o4 o5 o6 o7) c d := by
  cases h with
  | @mk g ps1 ps2 k key row hg hk h1 h2 =>
    rcases F.app with F | ⟨F1, F⟩
    · exact seq_errL (pa_kerr hg hk F)
    · have e1 := pa_kind (w := w) (kvs := kvs) (r := r) (n := n) (o4 := o4) (o5 := o5) (o6 := o6) (o7 := o7) hg hk F1
      obtain ⟨j, _, e2⟩ := pa_spot (R := R) (s := s + (g ++ [(k, Ro.key)]).length) (w := w) (kvs := kvs) (r := r) (n := n) (o4 := o4) (o5 := some (.fr (.int k))) (o6 := o6) (o7 := o7)
      refine seq_errR e1 (pal_keep (fun h => h) (fun _ => rfl) (fun h => h) (fun h => h)) (seq_errR e2 (pal_keep (fun h => h) (fun h => h) (fun _ => rfl) (fun h => h)) ?_)
      rcases F.app with F | ⟨F2, F⟩
      · exact seq_errL (pa_serr h1 F)
      · have e3 := pa_scalar (w := w) (kvs := kvs) (r := r) (n := n) (o4 := o4) (o6 := some (.fr (.int j))) (o7 := o7) h1 F2
        exact seq_errR e3 (pal_keep (fun h => h) (fun h => h) (fun h => h) (fun _ => rfl)) (seq_errR (sif_n (pa_din (din_no nin))) (.refl _) (pa_perr (hi _ _ h2) F))
theorem pa_loop (hi : HI rec r P) {ps : Prs} {kv2 : List Kv} (h : ManyP P ps kv2) : ∀ {xs : List D} {s : Nat} {kvs : List Kv} {o4 o5 o6 o7 : Option Sl}, xs.length = kv2.length → ((kvs ++ kv2).map (·.1)).Nodup → kvs.length + kv2.length ≤ sizeLine → Ft R s ps →
    ∃ t4 t5 t6 t7, forT (tName 4) (LooseReader_take_pairs_b0 w rec) xs (PaL R s w kvs r n o4 o5 o6 o7) = .nx (PaL R (s + ps.length) w (kvs ++ kv2) r n t4 t5 t6 t7) := by
  induction h with
  | nil =>
    intro xs s kvs o4 o5 o6 o7 hl _ _ _
    cases xs with
    | nil => exact ⟨o4, o5, o6, o7, by rw [List.append_nil]; rfl⟩
    | cons x xs => simp at hl
  | @cons ps qs p kv2 h t ih =>
    intro xs s kvs o4 o5 o6 o7 hl nd few F
    cases xs with
    | nil => simp at hl
    | cons x xs =>
      rw [List.length_cons] at few
      have nin : p.1 ∉ kvs.map (·.1) := fun m => by
        rw [List.map_append] at nd
        exact (List.nodup_append.mp nd).2.2 _ m p.1 (by simp) rfl
      obtain ⟨u5, u6, u7, e1⟩ := pa_turn (w := w) (n := n) (o4 := some (.fr x)) (o5 := o5) (o6 := o6) (o7 := o7) hi h nin (by omega) F.left
      obtain ⟨t4, t5, t6, t7, e2⟩ := ih (xs := xs) (s := s + ps.length) (kvs := kvs ++ [p]) (o4 := some (.fr x)) (o5 := some u5) (o6 := some u6) (o7 := some u7) (by simpa using hl) (by rw [List.append_assoc]; exact nd) (by rw [List.length_append]; simp; omega) F.right
      refine ⟨t4, t5, t6, t7, ?_⟩
      rw [forT]
      show loopR (LooseReader_take_pairs_b0 w rec (PaL R s w kvs r n (some (.fr x)) o5 o6 o7)) _ = _
      rw [e1]
      show forT _ _ _ _ = _
      rw [e2, List.length_append, Nat.add_assoc, List.append_assoc]
      rfl
theorem pa_lerr (hi : HI rec r P) {ps : Prs} {kv2 : List Kv} {c : Str} {d : D} (h : ManyP P ps kv2) : ∀ {xs : List D} {s : Nat} {kvs : List Kv} {o4 o5 o6 o7 : Option Sl}, xs.length = kv2.length → ((kvs ++ kv2).map (·.1)).Nodup → kvs.length + kv2.length ≤ sizeLine → Stp R s ps c d →
    ErrS (forT (tName 4) (LooseReader_take_pairs_b0 w rec) xs) (PaL R s w kvs r n o4 o5 o6 o7) c d := by
  induction h with
  | nil =>
    intro xs s kvs o4 o5 o6 o7 hl _ _ F
    exact F.nil.elim
  | @cons ps qs p kv2 h t ih =>
    intro xs s kvs o4 o5 o6 o7 hl nd few F
    cases xs with
    | nil => simp at hl
    | cons x xs =>
      rw [List.length_cons] at few
      have nin : p.1 ∉ kvs.map (·.1) := fun m => by
        rw [List.map_append] at nd
        exact (List.nodup_append.mp nd).2.2 _ m p.1 (by simp) rfl
      have k0 : Keep (PaL R s w kvs r n o4 o5 o6 o7) (PaL R s w kvs r n (some (.fr x)) o5 o6 o7) := pal_keep (fun _ => rfl) (fun h => h) (fun h => h) (fun h => h)
      rcases F.app with F | ⟨F1, F⟩
      · exact for_errB (l1 := PaL R s w kvs r n (some (.fr x)) o5 o6 o7) rfl k0 (pa_terr hi h nin F)
      · obtain ⟨u5, u6, u7, e1⟩ := pa_turn (w := w) (n := n) (o4 := some (.fr x)) (o5 := o5) (o6 := o6) (o7 := o7) hi h nin (by omega) F1
        exact for_errN (l1 := PaL R s w kvs r n (some (.fr x)) o5 o6 o7) rfl e1 (pal_keep (fun _ => rfl) (fun _ => rfl) (fun _ => rfl) (fun _ => rfl)) (ih (xs := xs) (by simpa using hl) (by rw [List.append_assoc]; exact nd) (by rw [List.length_append]; simp; omega) F)
end
theorem sp_pairs {w : World} {rec : MF} {r : Nat} {P : LP} (hi : HI rec r P) {ps : Prs} {kvs kv2 : List Kv} (h : PartM P ps kv2) (nd : ((kvs ++ kv2).map (·.1)).Nodup) (few : kvs.length + kv2.length ≤ sizeLine) :
    Sp (m_LooseReader_take_pairs w rec) [.ow (.dct w (kvD kvs)), .fr (.int ((r : Int) + 1))] ps (.fr .non) [.ow (.dct w (kvD (kvs ++ kv2))), .fr (.int ((r : Int) + 1))] := by
  obtain ⟨⟨c, qs, hc, hm, rfl⟩, th⟩ := h
  have rl : ((List.range kv2.length).map fun (k : Nat) => D.int k).length = kv2.length := by rw [List.length_map, List.length_range]
  refine ⟨fun R s F => ?_, fun R s cl d st => ?_⟩
  · have e := cd_call (l := [some (.ow (.dct w (kvD kvs))), some (.fr (.int ((r : Int) + 1))), none, none, none, none, none]) hc F.left
    obtain ⟨t4, t5, t6, t7, lp⟩ := pa_loop (R := R) (w := w) (n := kv2.length) hi hm (s := s + c.length) (kvs := kvs) (o4 := none) (o5 := none) (o6 := none) (o7 := none) rl nd few F.right
    have rg := rng_small (l := PaL R (s + c.length) w kvs r kv2.length none none none none) (i := 3) th rfl
    refine runF_nx (l := PaL R (s + (c ++ qs).length) w (kvs ++ kv2) r kv2.length t4 t5 t6 t7) rfl ?_ rfl
    show b_LooseReader_take_pairs w rec [some (rdr R s), some (.ow (.dct w (kvD kvs))), some (.fr (.int ((r : Int) + 1))), none, none, none, none, none] = _
    refine seq_nx (sset_of e) ?_
    show sForT _ _ _ (PaL R (s + c.length) w kvs r kv2.length none none none none) = _
    unfold sForT
    rw [rg]
    show forT _ _ _ _ = _
    rw [lp, List.length_append, Nat.add_assoc]
  · refine runF_errS rfl (by simp) ?_
    show ErrS (b_LooseReader_take_pairs w rec) [some (rdr R s), some (.ow (.dct w (kvD kvs))), some (.fr (.int ((r : Int) + 1))), none, none, none, none, none] cl d
    rcases st.app with st | ⟨F, st⟩
    · exact seq_errL (set_errE (cd_cerr hc st))
    · have e := cd_call (l := [some (.ow (.dct w (kvD kvs))), some (.fr (.int ((r : Int) + 1))), none, none, none, none, none]) hc F
      have rg := rng_small (l := PaL R (s + c.length) w kvs r kv2.length none none none none) (i := 3) th rfl
      obtain ⟨l', el, kk⟩ := pa_lerr (R := R) (w := w) (n := kv2.length) hi hm (s := s + c.length) (kvs := kvs) (o4 := none) (o5 := none) (o6 := none) (o7 := none) rl nd few st
      have k0 : Keep [some (rdr R s), some (.ow (.dct w (kvD kvs))), some (.fr (.int ((r : Int) + 1))), none, none, none, none, none] (PaL R (s + c.length) w kvs r kv2.length none none none none) := ⟨rfl, fun i hi => by
        match i, hi with
        | 0, _ => rfl
        | 1, _ => rfl
        | 2, _ => rfl
        | n + 8, h => cases h⟩
      refine ⟨l', ?_, k0.trans kk⟩
      refine seq_nx (sset_of e) ?_
      show sForT _ _ _ (PaL R (s + c.length) w kvs r kv2.length none none none none) = _
      unfold sForT
      rw [rg]
      exact el

/-! ### taking a map -/
inductive PcsM (P : LP) : Prs → List Kv → Prop
  | done {g : Prs} (hg : Gp (.pc 9) g) : PcsM P (g ++ [(0, .pc 9)]) []
  | more {g c ps : Prs} {kvs kv2 : List Kv} (hg : Gp (.pc 9) g) (hc : PartM P c kvs) (h : PcsM P ps kv2) : PcsM P (g ++ [(9, .pc 9)] ++ (c ++ ps)) (kvs ++ kv2)
inductive Mp (P : LP) : Int → Prs → List Kv → Prop
  | one {ps : Prs} {kvs : List Kv} (h : PartM P ps kvs) : Mp P 9 ps kvs
  | pcs {ps : Prs} {kvs : List Kv} (h : PcsM P ps kvs) : Mp P 14 ps kvs
noncomputable def sortK (kvs : List Kv) : List Kv := kvs.mergeSort fun a b => PySem.W.dataLe false encT a.1 b.1
def pairR (p : Kv) : List Int := p.1 ++ p.2
noncomputable def mapR (kvs : List Kv) : List Int := 9 :: (codeN kvs.length ++ ((sortK kvs).map pairR).flatten)
theorem ltups : ∀ rs : List (List Int), tupsD (rs.map kD) = some rs
  | [] => rfl
  | r :: rs => by
    show (intsD (r.map .int)).bind (fun ns => (tupsD (rs.map kD)).map (ns :: ·)) = _
    have e : ∀ r : List Int, intsD (r.map .int) = some r := fun r => by
      induction r with
      | nil => rfl
      | cons x r ih => simp [intsD, ih]
    rw [e, ltups rs]
    rfl
theorem sort_kv {kvs : List Kv} (ne : ∀ p ∈ kvs, p.1 ≠ []) : sortTB [.list (kvs.map fun p => kD p.1)] = some ((sortK kvs).map fun p => kD p.1) := by
  have e : (kvs.map fun p => kD p.1) = (kvs.map fun p => p.1).map kD := by rw [List.map_map]; rfl
  rw [e]
  show (tupsD _).bind _ = _
  rw [ltups]
  show (if ((kvs.map fun p => p.1).all fun k => !k.isEmpty) = true then _ else _) = _
  rw [if_pos]
  · congr 1
    have s := List.map_mergeSort (r := fun a b : Kv => PySem.W.dataLe false encT a.1 b.1) (s := PySem.W.dataLe false encT) (f := fun p : Kv => p.1) (l := kvs) (fun a _ b _ => rfl)
    rw [← s, List.map_map]
    rfl
  · rw [List.all_map, List.all_eq_true]
    intro p hp
    have := ne p hp
    simp [this]
theorem sortK_perm (kvs : List Kv) : (sortK kvs).Perm kvs := List.mergeSort_perm _ _
theorem Scl.ne {k : Int} {ps : Prs} {row : List Int} (h : Scl k ps row) : row ≠ [] := by
  cases h <;> simp
theorem ManyP.ne {P : LP} {ps : Prs} {kvs : List Kv} (h : ManyP P ps kvs) : ∀ p ∈ kvs, p.1 ≠ [] := by
  induction h with
  | nil => intro p m; cases m
  | cons h t ih =>
    intro p m
    rcases List.mem_cons.mp m with rfl | m
    · cases h with
      | mk hg hk h1 h2 => exact h1.ne
    · exact ih p m
theorem PartM.ne {P : LP} {ps : Prs} {kvs : List Kv} (h : PartM P ps kvs) : ∀ p ∈ kvs, p.1 ≠ [] := by
  obtain ⟨c, qs, _, hm, _⟩ := h.ex
  exact hm.ne
theorem Mp.ne {P : LP} {k : Int} {ps : Prs} {kvs : List Kv} (h : Mp P k ps kvs) : ∀ p ∈ kvs, p.1 ≠ [] := by
  cases h with
  | one h => exact h.ne
  | pcs h =>
    induction h with
    | done => intro p m; cases m
    | more hg hc h ih =>
      intro p m
      rcases List.mem_append.mp m with m | m
      · exact hc.ne p m
      · exact ih p m
section
variable {R : List D} {s : Nat} {w : World} {rec : MF} {r : Nat} {P : LP} {k : Int}
theorem pm_call (hi : HI rec r P) {ps : Prs} {kvs kv2 : List Kv} {o4 o5 : Option Sl} (h : PartM P ps kv2) (nd : ((kvs ++ kv2).map (·.1)).Nodup) (few : kvs.length + kv2.length ≤ sizeLine) (F : Ft R s ps) :
    sEx (methO "LooseReader" "take_pairs" (m_LooseReader_take_pairs w rec) [] 0 (aSl 3 (aSl 2 aNil))) (TlL R s k r (some (.ow (.dct w (kvD kvs)))) o4 o5) = .nx (TlL R (s + ps.length) k r (some (.ow (.dct w (kvD (kvs ++ kv2))))) o4 o5) :=
  sex_of (mc_ok (name := "take_pairs") (l := [some (.fr (.int k)), some (.fr (.int ((r : Int) + 1))), some (.ow (.dct w (kvD kvs))), o4, o5]) (args := [.sl 3, .sl 2]) (sp_pairs (w := w) hi h nd few) (by decide +kernel) (by decide +kernel) rfl rfl (by simp [slotsOf]) rfl F rfl)
theorem pm_cerr (hi : HI rec r P) {ps : Prs} {kvs kv2 : List Kv} {o4 o5 : Option Sl} {c : Str} {d : D} (h : PartM P ps kv2) (nd : ((kvs ++ kv2).map (·.1)).Nodup) (few : kvs.length + kv2.length ≤ sizeLine) (F : Stp R s ps c d) :
    ErrS (sEx (methO "LooseReader" "take_pairs" (m_LooseReader_take_pairs w rec) [] 0 (aSl 3 (aSl 2 aNil)))) (TlL R s k r (some (.ow (.dct w (kvD kvs)))) o4 o5) c d :=
  ex_errE (mc_err (name := "take_pairs") (l := [some (.fr (.int k)), some (.fr (.int ((r : Int) + 1))), some (.ow (.dct w (kvD kvs))), o4, o5]) (args := [.sl 3, .sl 2]) (sp_pairs (w := w) hi h nd few) (by decide +kernel) (by decide +kernel) rfl rfl (by simp [slotsOf]) F)
theorem tm_args {o3 o4 o5 : Option Sl} : aVal (tupE (vCons (cst (.int 0)) (vCons (cst (.int 9)) vNil))) aNil (TlL R s k r o3 o4 o5) = .ok [.val (.tup ([0, 9].map .int))] (TlL R s k r o3 o4 o5) := by
  refine aval1 ?_
  have s2 : 2 ≤ sizeLine := Nat.le_trans (by decide) thou
  generalize TlL R s k r o3 o4 o5 = l0 at *
  simp [tupE, vCons, vNil, cst, Res.bind, s2]
theorem tm_test {g : Prs} {j : Int} {o3 o4 o5 : Option Sl} (hj : j = 0 ∨ j = 9) (hg : Gp (.pc 9) g) (F : Ft R s (g ++ [(j, .pc 9)])) : LooseReader_take_map_c0 w rec (TlL R s k r o3 o4 o5) = .ok (decide (j ≠ 0)) (TlL R (s + (g ++ [(j, Ro.pc 9)]).length) k r o3 o4 o5) := by
  have sp := sp_kind (rok_pc (k := 9) (by omega)) (k := j) (by rcases hj with e | e <;> simp [e]) (by omega) (by omega) (by omega) hg
  have e := mc_ok (name := "take_kind") (l := [some (.fr (.int k)), some (.fr (.int ((r : Int) + 1))), o3, o4, o5]) sp (by decide +kernel) (by decide +kernel) tm_args rfl (by simp [slotsOf]) rfl F rfl
  exact asB_ne e 0
theorem tm_terr {g : Prs} {j : Int} {o3 o4 o5 : Option Sl} {c : Str} {d : D} (hj : j = 0 ∨ j = 9) (hg : Gp (.pc 9) g) (F : Stp R s (g ++ [(j, .pc 9)]) c d) : ErrT (LooseReader_take_map_c0 w rec) (TlL R s k r o3 o4 o5) c d := by
  have sp := sp_kind (rok_pc (k := 9) (by omega)) (k := j) (by rcases hj with e | e <;> simp [e]) (by omega) (by omega) (by omega) hg
  exact asB_err (bin_errL (mc_err (name := "take_kind") (l := [some (.fr (.int k)), some (.fr (.int ((r : Int) + 1))), o3, o4, o5]) sp (by decide +kernel) (by decide +kernel) tm_args rfl (by simp [slotsOf]) F))
theorem pcsm_ok (hi : HI rec r P) {ps : Prs} {kv2 : List Kv} (h : PcsM P ps kv2) : ∀ {s : Nat} {kvs : List Kv} {o4 o5 : Option Sl}, ((kvs ++ kv2).map (·.1)).Nodup → kvs.length + kv2.length ≤ sizeLine → Ft R s ps →
    whileM (LooseReader_take_map_c0 w rec) (LooseReader_take_map_b1 w rec) (TlL R s k r (some (.ow (.dct w (kvD kvs)))) o4 o5) = .nx (TlL R (s + ps.length) k r (some (.ow (.dct w (kvD (kvs ++ kv2))))) o4 o5) := by
  induction h with
  | done hg =>
    intro s kvs o4 o5 _ _ F
    have t := tm_test (w := w) (rec := rec) (k := k) (r := r) (o3 := some (.ow (.dct w (kvD kvs)))) (o4 := o4) (o5 := o5) (.inl rfl) hg F
    rw [decide_eq_false (fun z => z rfl)] at t
    rw [List.append_nil]
    exact while_end t
  | @more g c ps kva kvb hg hc h ih =>
    intro s kvs o4 o5 nd hz F
    have t := tm_test (w := w) (rec := rec) (k := k) (r := r) (o3 := some (.ow (.dct w (kvD kvs)))) (o4 := o4) (o5 := o5) (.inr rfl) hg F.left
    rw [decide_eq_true (by decide)] at t
    rw [List.length_append] at hz
    rw [← List.append_assoc] at nd
    have nd1 : ((kvs ++ kva).map (·.1)).Nodup := by
      rw [List.map_append] at nd
      exact (List.nodup_append.mp nd).1
    have b := pm_call (w := w) (k := k) (o4 := o4) (o5 := o5) hi hc nd1 (by omega) F.right.left
    have ww := ih (s := s + (g ++ [(9, Ro.pc 9)]).length + c.length) (kvs := kvs ++ kva) (o4 := o4) (o5 := o5) nd (by rw [List.length_append]; omega) F.right.right
    refine (while_go (b := LooseReader_take_map_b1 w rec) t b).trans ?_
    rw [ww, List.append_assoc]
    simp only [List.length_append, Nat.add_assoc]
theorem pcsm_er (hi : HI rec r P) {ps : Prs} {kv2 : List Kv} {cl : Str} {d : D} (h : PcsM P ps kv2) : ∀ {s : Nat} {kvs : List Kv} {o4 o5 : Option Sl}, ((kvs ++ kv2).map (·.1)).Nodup → kvs.length + kv2.length ≤ sizeLine → Stp R s ps cl d →
    ErrS (whileM (LooseReader_take_map_c0 w rec) (LooseReader_take_map_b1 w rec)) (TlL R s k r (some (.ow (.dct w (kvD kvs)))) o4 o5) cl d := by
  induction h with
  | done hg =>
    intro s kvs o4 o5 _ _ F
    exact while_errT (tm_terr (.inl rfl) hg F)
  | @more g c ps kva kvb hg hc h ih =>
    intro s kvs o4 o5 nd hz F
    rw [List.length_append] at hz
    rw [← List.append_assoc] at nd
    have nd1 : ((kvs ++ kva).map (·.1)).Nodup := by
      rw [List.map_append] at nd
      exact (List.nodup_append.mp nd).1
    rcases F.app with F | ⟨F1, F⟩
    · exact while_errT (tm_terr (.inr rfl) hg F)
    · have t := tm_test (w := w) (rec := rec) (k := k) (r := r) (o3 := some (.ow (.dct w (kvD kvs)))) (o4 := o4) (o5 := o5) (.inr rfl) hg F1
      rw [decide_eq_true (by decide)] at t
      have kp : ∀ (s2 : Nat) (acc2 : List Kv), Keep (TlL R s k r (some (.ow (.dct w (kvD kvs)))) o4 o5) (TlL R s2 k r (some (.ow (.dct w (kvD acc2)))) o4 o5) := fun s2 acc2 => tll_keep (fun _ => rfl) (fun h => h) (fun h => h)
      rcases F.app with F | ⟨F2, F⟩
      · exact while_errB t (kp _ _) (pm_cerr hi hc nd1 (by omega) F)
      · exact while_errN t (pm_call (w := w) (k := k) hi hc nd1 (by omega) F2) (kp _ _) (ih nd (by rw [List.length_append]; omega) F)
theorem ext2_of {e : ME} {i : Nat} {l l' : Ld} {x : D} {ds acc : List D} (hx : x = .list ds ∨ x = .tup ds) (h : e l = .ok x l') (hi : isOw i l = true) (hl : l'[i]? = some (some (.ow (.lst acc)))) (few : acc.length + ds.length ≤ sizeLine) : sEx (mtS i fExtend2 (vCons e vNil)) l = .nx (l'.set i (some (.ow (.lst (acc ++ ds))))) := by
  unfold sEx mtS
  rw [if_pos hi]
  unfold vCons
  rw [h]
  have e1 : (Res.ok x l').bind (fun d l1 => (vNil l1).bind fun ds l2 => Res.ok (d :: ds) l2) = .ok [x] l' := rfl
  rw [e1]
  rcases hx with rfl | rfl <;> simp [Res.bind, Res.thn, hl, fExtend2, few]
theorem mjoin_loop {kvs : List Kv} (nd : (kvs.map (·.1)).Nodup) : ∀ (ss : List Kv) {acc : List D} {o5 : Option Sl}, (∀ p ∈ ss, p ∈ kvs) → acc.length + (ss.map pairR).flatten.length ≤ sizeLine →
    ∃ t5, forT (tName 5) (LooseReader_take_map_b2 w rec) (ss.map fun p => kD p.1) (TlL R s k r (some (.fr (.dict w (kvD kvs)))) (some (.ow (.lst acc))) o5) = .nx (TlL R s k r (some (.fr (.dict w (kvD kvs)))) (some (.ow (.lst (acc ++ (ss.map pairR).flatten.map .int)))) t5)
  | [], acc, o5, _, _ => ⟨o5, by simp [forT]⟩
  | p :: ss, acc, o5, hm, few => by
    have few : acc.length + (p.1.length + p.2.length + (ss.map pairR).flatten.length) ≤ sizeLine := by
      rw [List.map_cons, List.flatten_cons, List.length_append, pairR, List.length_append] at few
      exact few
    have dx := dix_kv (w := w) nd (hm p List.mem_cons_self)
    have b1 : sEx (mtS 4 fExtend2 (vCons (rd 5) vNil)) (TlL R s k r (some (.fr (.dict w (kvD kvs)))) (some (.ow (.lst acc))) (some (.fr (kD p.1)))) = .nx (TlL R s k r (some (.fr (.dict w (kvD kvs)))) (some (.ow (.lst (acc ++ p.1.map .int)))) (some (.fr (kD p.1)))) :=
      ext2_of (i := 4) (e := rd 5) (l' := TlL R s k r (some (.fr (.dict w (kvD kvs)))) (some (.ow (.lst acc))) (some (.fr (kD p.1)))) (.inr rfl) rfl rfl rfl (by rw [List.length_map]; omega)
    have b2 : sEx (mtS 4 fExtend2 (vCons (bin2 (dixD w) (rd 3) (rd 5)) vNil)) (TlL R s k r (some (.fr (.dict w (kvD kvs)))) (some (.ow (.lst (acc ++ p.1.map .int)))) (some (.fr (kD p.1)))) = .nx (TlL R s k r (some (.fr (.dict w (kvD kvs)))) (some (.ow (.lst (acc ++ p.1.map .int ++ p.2.map .int)))) (some (.fr (kD p.1)))) :=
      ext2_of (i := 4) (l' := TlL R s k r (some (.fr (.dict w (kvD kvs)))) (some (.ow (.lst (acc ++ p.1.map .int)))) (some (.fr (kD p.1)))) (.inl rfl)
        (bin_of (f := dixD w) (a := rd 3) (b := rd 5) (l1 := TlL R s k r (some (.fr (.dict w (kvD kvs)))) (some (.ow (.lst (acc ++ p.1.map .int)))) (some (.fr (kD p.1)))) rfl rfl dx) rfl rfl (by rw [List.length_append, List.length_map, List.length_map]; omega)
    obtain ⟨t5, e2⟩ := mjoin_loop nd ss (acc := acc ++ p.1.map .int ++ p.2.map .int) (o5 := some (.fr (kD p.1))) (fun q m => hm q (List.mem_cons_of_mem _ m)) (by simp only [List.length_append, List.length_map]; omega)
    refine ⟨t5, ?_⟩
    rw [List.map_cons, forT]
    show loopR (LooseReader_take_map_b2 w rec (TlL R s k r (some (.fr (.dict w (kvD kvs)))) (some (.ow (.lst acc))) (some (.fr (kD p.1))))) _ = _
    rw [show LooseReader_take_map_b2 w rec (TlL R s k r (some (.fr (.dict w (kvD kvs)))) (some (.ow (.lst acc))) (some (.fr (kD p.1)))) = _ from seq_nx b1 b2]
    show forT _ _ _ _ = _
    rw [e2, List.map_cons, List.flatten_cons, pairR]
    simp only [List.map_append, List.append_assoc]
theorem pair_len {a b : List Kv} (h : a.Perm b) : (a.map pairR).flatten.length = (b.map pairR).flatten.length := by
  induction h with
  | nil => rfl
  | cons x h ih => rw [List.map_cons, List.map_cons, List.flatten_cons, List.flatten_cons, List.length_append, List.length_append, ih]
  | swap x y l => simp only [List.map_cons, List.flatten_cons, List.length_append]; omega
  | trans h1 h2 i1 i2 => rw [i1, i2]
theorem map_end {kvs : List Kv} (nd : (kvs.map (·.1)).Nodup) (ne : ∀ p ∈ kvs, p.1 ≠ []) (few : kvs.length ≤ 100000) (few2 : (kvs.map pairR).flatten.length ≤ 100000) :
    ∃ t5, (sSeq (sSetL 4 (bin2L catD (frz (lstL (vCons (cst (.int 9)) vNil))) (callE m_plain_code [] (aVal (calB lenBD (vCons (rd 3) vNil)) aNil))))
  (sSeq (sForT (tName 5) (itE (frz (calL sortTB (vCons (frz (calL listBD (vCons (rd 3) vNil))) vNil)))) (LooseReader_take_map_b2 w rec))
  (sRetS 4))) (TlL R s k r (some (.ow (.dct w (kvD kvs)))) none none) = .rt (.ow (.lst ((mapR kvs).map .int))) (TlL R s k r (some (.fr (.dict w (kvD kvs)))) (some (.ow (.lst ((mapR kvs).map .int)))) t5) := by
  have bg2 : (200000 : Nat) ≤ sizeLine := by decide +kernel
  have nn : kvs.length < 256 ^ 63 := by
    have : (100001 : Nat) ≤ 256 ^ 63 := by decide +kernel
    omega
  have cf := codeN_few nn
  let L0 : Ld := TlL R s k r (some (.ow (.dct w (kvD kvs)))) none none
  let L1 : Ld := TlL R s k r (some (.fr (.dict w (kvD kvs)))) none none
  have kl : (kvD kvs).length = kvs.length := by unfold kvD; rw [List.length_map]
  have ln : calB lenBD (vCons (rd 3) vNil) L0 = .ok (.int kvs.length) L1 := by
    have e : calB lenBD (vCons (rd 3) vNil) L0 = .ok (.int (kvD kvs).length) L1 := rfl
    rw [e, kl]
  have pc : callE m_plain_code [] (aVal (calB lenBD (vCons (rd 3) vNil)) aNil) L0 = .ok (.list ((codeN kvs.length).map .int)) L1 := by
    have pc := e_plain_code nn
    unfold callE
    rw [aval1 ln]
    generalize (codeN kvs.length).map D.int = zs at *
    simp [Res.bind, appE, resolve, slotsOf, putA, pc, Sl.toD]
  have s4 := cat_of (i := 4) (one_list (i := 9) (l := L0)) pc (by simp only [List.length_cons, List.length_nil, List.length_map]; omega)
  have pl := pair_len (sortK_perm kvs)
  obtain ⟨t5, lp⟩ := mjoin_loop (R := R) (s := s) (w := w) (rec := rec) (k := k) (r := r) nd (sortK kvs) (acc := [D.int 9] ++ (codeN kvs.length).map .int) (o5 := none) (fun p m => (sortK_perm kvs).mem_iff.mp m) (by simp only [List.length_append, List.length_map, List.length_cons, List.length_nil]; omega)
  have jn : [D.int 9] ++ (codeN kvs.length).map D.int ++ ((sortK kvs).map pairR).flatten.map D.int = (mapR kvs).map .int := by simp only [mapR, List.map_cons, List.map_append, List.cons_append, List.nil_append]
  rw [jn] at lp
  refine ⟨t5, seq_nx s4 (seq_nx (l1 := TlL R s k r (some (.fr (.dict w (kvD kvs)))) (some (.ow (.lst ((mapR kvs).map .int)))) t5) ?_ rfl)⟩
  show sForT _ _ _ (TlL R s k r (some (.fr (.dict w (kvD kvs)))) (some (.ow (.lst ([D.int 9] ++ (codeN kvs.length).map .int)))) none) = _
  have ks : (kvD kvs).map (·.1) = kvs.map fun p => kD p.1 := by unfold kvD; rw [List.map_map]; rfl
  have it : itE (frz (calL sortTB (vCons (frz (calL listBD (vCons (rd 3) vNil))) vNil))) (TlL R s k r (some (.fr (.dict w (kvD kvs)))) (some (.ow (.lst ([D.int 9] ++ (codeN kvs.length).map .int)))) none) = .ok ((sortK kvs).map fun p => kD p.1) (TlL R s k r (some (.fr (.dict w (kvD kvs)))) (some (.ow (.lst ([D.int 9] ++ (codeN kvs.length).map .int)))) none) := by
    have sk := sort_kv ne
    rw [← ks] at sk
    generalize (sortK kvs).map (fun p => kD p.1) = out at *
    generalize kvD kvs = kd at *
    generalize [D.int 9] ++ (codeN kvs.length).map D.int = ac at *
    unfold TlL
    generalize rdr R s = r0 at *
    simp [itE, frz, calL, vCons, vNil, rd, Res.bind, Res.lift, listBD, sk, walkD]
  unfold sForT
  rw [it]
  exact lp
end
theorem sp_map {w : World} {rec : MF} {r : Nat} {P : LP} (hi : HI rec r P) {k : Int} {ps : Prs} {kvs : List Kv} (h : Mp P k ps kvs) (nd : (kvs.map (·.1)).Nodup) (few : kvs.length ≤ 100000) (few2 : (kvs.map pairR).flatten.length ≤ 100000) :
    Sp (m_LooseReader_take_map w rec) [.fr (.int k), .fr (.int ((r : Int) + 1))] ps (.ow (.lst ((mapR kvs).map .int))) [.fr (.int k), .fr (.int ((r : Int) + 1))] := by
  have bg := big
  have ne := h.ne
  have s3 : ∀ R s, sSetN 3 (dict0 w) (TlL R s k r none none none) = .nx (TlL R s k r (some (.ow (.dct w (kvD [])))) none none) := fun R s => rfl
  have kp : ∀ R s, Keep (TlL R s k r none none none) (TlL R s k r (some (.ow (.dct w (kvD [])))) none none) := fun R s => tll_keep (fun _ => rfl) (fun h => h) (fun h => h)
  refine ⟨fun R s F => ?_, fun R s c d st => ?_⟩
  · obtain ⟨t5, le⟩ := map_end (R := R) (s := s + ps.length) (w := w) (rec := rec) (k := k) (r := r) nd ne few few2
    refine runF_rt (l := TlL R (s + ps.length) k r (some (.fr (.dict w (kvD kvs)))) (some (.ow (.lst ((mapR kvs).map .int)))) t5) rfl ?_ rfl
    show b_LooseReader_take_map w rec (TlL R s k r none none none) = _
    refine seq_nx (s3 R s) (seq_nx (l1 := TlL R (s + ps.length) k r (some (.ow (.dct w (kvD kvs)))) none none) ?_ le)
    cases h with
    | one h => exact (sif_y (by rw [tl_eq]; rfl)).trans (pm_call (kvs := []) hi h nd (by simp; omega) F)
    | pcs h => exact (sif_n (by rw [tl_eq]; rfl)).trans (pcsm_ok (kvs := []) hi h nd (by simp; omega) F)
  · refine runF_errS rfl (by simp) ?_
    show ErrS (b_LooseReader_take_map w rec) (TlL R s k r none none none) c d
    refine seq_errR (s3 R s) (kp R s) (seq_errL ?_)
    cases h with
    | one h => exact if_errA (by rw [tl_eq]; rfl) (.refl _) (pm_cerr (kvs := []) hi h nd (by simp; omega) st)
    | pcs h => exact if_errB (by rw [tl_eq]; rfl) (.refl _) (pcsm_er (kvs := []) hi h nd (by simp; omega) st)

/-! ### items -/
def SCs : List Int := [1, 2, 3, 4, 5, 6, 7, 11, 12]
def NEs : List Int := [8, 9, 10, 13, 14]
inductive ItS (ro : Ro) : LP
  | mk {g ps : Prs} {k : Int} {row : List Int} (hg : Gp ro g) (hk : k ∈ SCs) (h : Scl k ps row) : ItS ro ((g ++ [(k, ro)]) ++ ps) row
inductive ItN (P : LP) : LP
  | tag {g c ps : Prs} {row : List Int} {n : Nat} (hg : Gp .kind g) (hc : Cd false c n) (h : P ps row) (few : row.length ≤ 100000) : ItN P ((g ++ [(10, .kind)]) ++ (c ++ ps)) (10 :: (codeN n ++ row))
  | list {g ps : Prs} {k : Int} {rows : List (List Int)} (hg : Gp .kind g) (h : Lst P k ps rows) (few : rows.length ≤ 100000) (few2 : rows.flatten.length ≤ 100000) : ItN P ((g ++ [(k, .kind)]) ++ ps) (joinL 8 rows.length rows)
  | map {g ps : Prs} {k : Int} {kvs : List Kv} (hg : Gp .kind g) (h : Mp P k ps kvs) (nd : (kvs.map (·.1)).Nodup) (few : kvs.length ≤ 100000) (few2 : (kvs.map pairR).flatten.length ≤ 100000) : ItN P ((g ++ [(k, .kind)]) ++ ps) (mapR kvs)
def LI : Nat → LP
  | 0 => ItS .kin0
  | r + 1 => fun ps row => ItS .kind ps row ∨ ItN (LI r) ps row
theorem sc_rg {k : Int} (h : k ∈ SCs) : (1 ≤ k ∧ k ≤ 7) ∨ k = 11 ∨ k = 12 := by
  simp [SCs] at h
  omega
theorem rok_kin0 : RoK .kin0 SCs := ⟨fun b _ _ h m => h (by have := sc_rg m; omega), fun b h e => h (by omega)⟩
theorem rok_kind : RoK .kind (SCs ++ NEs) := ⟨fun b _ _ h m => h (by
  rcases List.mem_append.mp m with m | m
  · have := sc_rg m; omega
  · simp [NEs] at m; omega), fun b h e => h (by omega)⟩
section
variable {R : List D} {s : Nat} {w : World} {rec : MF}
def ItL (R : List D) (s : Nat) (room : Int) (o2 o3 o4 : Option Sl) : Ld := [some (rdr R s), some (.fr (.int room)), o2, o3, o4]
theorem itl_keep {s2 : Nat} {room : Int} {o2 o3 o4 t2 t3 t4 : Option Sl} (h2 : OLe o2 t2) (h3 : OLe o3 t3) (h4 : OLe o4 t4) : Keep (ItL R s room o2 o3 o4) (ItL R s2 room t2 t3 t4) := ⟨rfl, fun i hi => by
  match i, hi with
  | 0, _ => rfl
  | 1, _ => rfl
  | 2, z => rw [has_at (o := o2) rfl] at z; rw [has_at (o := t2) rfl]; exact h2 z
  | 3, z => rw [has_at (o := o3) rfl] at z; rw [has_at (o := t3) rfl]; exact h3 z
  | 4, z => rw [has_at (o := o4) rfl] at z; rw [has_at (o := t4) rfl]; exact h4 z
  | n + 5, h => cases h⟩
def kindSl (ks : List Int) : Option Sl := some (.fr (.tup (ks.map .int)))
theorem it_gt {room : Int} {o2 o3 o4 : Option Sl} : asB (bin2 gtD (rd 1) (cst (.int 0))) (ItL R s room o2 o3 o4) = .ok (decide (room > 0)) (ItL R s room o2 o3 o4) := rfl
theorem it_pre0 {rest : MS} : sSeq (sSet 2 (cst vSCALARS)) (sSeq (sIf (asB (bin2 gtD (rd 1) (cst (.int 0)))) (sSet 2 (bin2 addD (cst vSCALARS) (cst vNESTS))) sNil) rest) (ItL R s (0 : Nat) none none none) = rest (ItL R s (0 : Nat) (kindSl SCs) none none) := by
  refine seq_nx (l1 := ItL R s (0 : Nat) (kindSl SCs) none none) rfl (seq_nx ?_ rfl)
  exact sif_n (by rw [it_gt]; rfl)
theorem it_preS {r : Nat} {rest : MS} : sSeq (sSet 2 (cst vSCALARS)) (sSeq (sIf (asB (bin2 gtD (rd 1) (cst (.int 0)))) (sSet 2 (bin2 addD (cst vSCALARS) (cst vNESTS))) sNil) rest) (ItL R s ((r : Int) + 1) none none none) = rest (ItL R s ((r : Int) + 1) (kindSl (SCs ++ NEs)) none none) := by
  refine seq_nx (l1 := ItL R s ((r : Int) + 1) (kindSl SCs) none none) rfl (seq_nx (l1 := ItL R s ((r : Int) + 1) (kindSl (SCs ++ NEs)) none none) ?_ rfl)
  refine (sif_y (by rw [it_gt, decide_eq_true (by omega)])).trans ?_
  have z : 14 ≤ sizeLine := Nat.le_trans (by decide) thou
  have ad : addD vSCALARS vNESTS = some (.tup ((SCs ++ NEs).map .int)) := by
    show (if (SCs.map D.int).length + (NEs.map D.int).length ≤ sizeLine then some (D.tup (SCs.map .int ++ NEs.map .int)) else none) = _
    rw [if_pos (by show 9 + 5 ≤ sizeLine; omega)]
    rfl
  exact sset_of (bin_of (f := addD) (a := cst vSCALARS) (b := cst vNESTS) (l1 := ItL R s ((r : Int) + 1) (kindSl SCs) none none) (l2 := ItL R s ((r : Int) + 1) (kindSl SCs) none none) rfl rfl ad)
theorem it_pre0E {rest : MS} {c : Str} {d : D} (h : ErrS rest (ItL R s (0 : Nat) (kindSl SCs) none none) c d) : ErrS (sSeq (sSet 2 (cst vSCALARS)) (sSeq (sIf (asB (bin2 gtD (rd 1) (cst (.int 0)))) (sSet 2 (bin2 addD (cst vSCALARS) (cst vNESTS))) sNil) rest)) (ItL R s (0 : Nat) none none none) c d := by
  obtain ⟨l', e, k⟩ := h
  exact ⟨l', it_pre0.trans e, (itl_keep (fun _ => rfl) (fun h => h) (fun h => h)).trans k⟩
theorem it_preSE {r : Nat} {rest : MS} {c : Str} {d : D} (h : ErrS rest (ItL R s ((r : Int) + 1) (kindSl (SCs ++ NEs)) none none) c d) : ErrS (sSeq (sSet 2 (cst vSCALARS)) (sSeq (sIf (asB (bin2 gtD (rd 1) (cst (.int 0)))) (sSet 2 (bin2 addD (cst vSCALARS) (cst vNESTS))) sNil) rest)) (ItL R s ((r : Int) + 1) none none none) c d := by
  obtain ⟨l', e, k⟩ := h
  exact ⟨l', it_preS.trans e, (itl_keep (fun _ => rfl) (fun h => h) (fun h => h)).trans k⟩
theorem it_kind {room : Int} {ro : Ro} {ks : List Int} {k : Int} {g : Prs} (rk : RoK ro ks) (hk : k ∈ ks) (k15 : k ≠ 15) (k0 : 0 ≤ k) (k1 : k ≤ 255) (hg : Gp ro g) (F : Ft R s (g ++ [(k, ro)])) :
    sSet 3 (methO "LooseReader" "take_kind" m_LooseReader_take_kind [] 0 (aSl 2 aNil)) (ItL R s room (kindSl ks) none none) = .nx (ItL R (s + (g ++ [(k, ro)]).length) room (kindSl ks) (some (.fr (.int k))) none) :=
  sset_of (mc_ok (name := "take_kind") (l := [some (.fr (.int room)), kindSl ks, none, none]) (ga := aSl 2 aNil) (args := [.sl 2]) (sp_kind rk hk k15 k0 k1 hg) (by decide +kernel) (by decide +kernel) rfl rfl (by simp [slotsOf]) rfl F rfl)
theorem it_kerr {room : Int} {ro : Ro} {ks : List Int} {k : Int} {g : Prs} {c : Str} {d : D} (rk : RoK ro ks) (hk : k ∈ ks) (k15 : k ≠ 15) (k0 : 0 ≤ k) (k1 : k ≤ 255) (hg : Gp ro g) (F : Stp R s (g ++ [(k, ro)]) c d) :
    ErrS (sSet 3 (methO "LooseReader" "take_kind" m_LooseReader_take_kind [] 0 (aSl 2 aNil))) (ItL R s room (kindSl ks) none none) c d :=
  set_errE (mc_err (name := "take_kind") (l := [some (.fr (.int room)), kindSl ks, none, none]) (ga := aSl 2 aNil) (args := [.sl 2]) (sp_kind rk hk k15 k0 k1 hg) (by decide +kernel) (by decide +kernel) rfl rfl (by simp [slotsOf]) F)
theorem it_in {room k : Int} {o2 o4 : Option Sl} : asB (bin2 inD (rd 3) (cst vSCALARS)) (ItL R s room o2 (some (.fr (.int k))) o4) = .ok (decide (k ∈ SCs)) (ItL R s room o2 (some (.fr (.int k))) o4) := by
  have e := bin_of (f := inD) (a := rd 3) (b := cst vSCALARS) (l := ItL R s room o2 (some (.fr (.int k))) o4) (l1 := ItL R s room o2 (some (.fr (.int k))) o4) (l2 := ItL R s room o2 (some (.fr (.int k))) o4) rfl rfl (kin_ints k SCs)
  unfold asB
  rw [e]
  rfl
theorem it_eq {room k j : Int} {o2 o4 : Option Sl} : asB (bin2 eqD (rd 3) (cst (.int j))) (ItL R s room o2 (some (.fr (.int k))) o4) = .ok (decide (k = j)) (ItL R s room o2 (some (.fr (.int k))) o4) := by
  have e := bin_of (f := eqD) (a := rd 3) (b := cst (.int j)) (l := ItL R s room o2 (some (.fr (.int k))) o4) (l1 := ItL R s room o2 (some (.fr (.int k))) o4) (l2 := ItL R s room o2 (some (.fr (.int k))) o4) rfl rfl (eqD_i k j)
  unfold asB
  rw [e]
  rfl
theorem it_scalar {room k : Int} {o2 : Option Sl} {ps : Prs} {row : List Int} (hk : k ∈ SCs) (h : Scl k ps row) (F : Ft R s ps) {rest : MS} :
    sSeq (sIf (asB (bin2 inD (rd 3) (cst vSCALARS))) (sRet (methO "LooseReader" "take_scalar" m_LooseReader_take_scalar [] 0 (aSl 3 aNil))) sNil) rest (ItL R s room o2 (some (.fr (.int k))) none) = .rt (.fr (lD row)) (ItL R (s + ps.length) room o2 (some (.fr (.int k))) none) := by
  refine seq_rt ((sif_y (by rw [it_in, decide_eq_true hk])).trans (ret_of ?_))
  exact mc_ok (name := "take_scalar") (l := [some (.fr (.int room)), o2, some (.fr (.int k)), none]) (ga := aSl 3 aNil) (args := [.sl 3]) (l2 := ItL R (s + ps.length) room o2 (some (.fr (.int k))) none) (sp_scalar h) (by decide +kernel) (by decide +kernel) rfl rfl (by simp [slotsOf]) rfl F rfl
theorem it_sserr {room k : Int} {o2 : Option Sl} {ps : Prs} {row : List Int} {c : Str} {d : D} (hk : k ∈ SCs) (h : Scl k ps row) (F : Stp R s ps c d) {rest : MS} :
    ErrS (sSeq (sIf (asB (bin2 inD (rd 3) (cst vSCALARS))) (sRet (methO "LooseReader" "take_scalar" m_LooseReader_take_scalar [] 0 (aSl 3 aNil))) sNil) rest) (ItL R s room o2 (some (.fr (.int k))) none) c d :=
  seq_errL (if_errA (by rw [it_in, decide_eq_true hk]) (.refl _) (ret_errE (mc_err (name := "take_scalar") (l := [some (.fr (.int room)), o2, some (.fr (.int k)), none]) (ga := aSl 3 aNil) (args := [.sl 3]) (sp_scalar h) (by decide +kernel) (by decide +kernel) rfl rfl (by simp [slotsOf]) F)))
theorem it_args {r : Nat} {o2 o3 o4 : Option Sl} : aVal (bin2 subD (rd 1) (cst (.int 1))) aNil (ItL R s ((r : Int) + 1) o2 o3 o4) = .ok [.val (.int r)] (ItL R s ((r : Int) + 1) o2 o3 o4) :=
  aval1 (bin_of (f := subD) (a := rd 1) (b := cst (.int 1)) (l := ItL R s ((r : Int) + 1) o2 o3 o4) (l1 := ItL R s ((r : Int) + 1) o2 o3 o4) (l2 := ItL R s ((r : Int) + 1) o2 o3 o4) rfl rfl pt_sub)
end
theorem sp_item0 {w : World} {n : Nat} : HI (m_LooseReader_take_item w (n + 1)) 0 (ItS .kin0) := by
  intro ps0 row0 h0
  cases h0 with
  | @mk g ps k row hg hk h =>
  have rg := sc_rg hk
  refine ⟨fun R s F => ?_, fun R s c d st => ?_⟩
  · have F1 := F.left
    refine runF_rt (l := ItL R _ (0 : Nat) _ _ none) rfl (it_pre0.trans (seq_nx (it_kind rok_kin0 hk (by omega) (by omega) (by omega) hg F1) (it_scalar hk h F.right))) ?_
    rw [show s + ((g ++ [(k, Ro.kin0)]) ++ ps).length = s + (g ++ [(k, Ro.kin0)]).length + ps.length by simp only [List.length_append]; omega]
    rfl
  · refine runF_errS rfl (by simp) ?_
    show ErrS (b_LooseReader_take_item w _) (ItL R s (0 : Nat) none none none) c d
    refine it_pre0E ?_
    rcases st.app with st | ⟨F, st⟩
    · exact seq_errL (it_kerr rok_kin0 hk (by omega) (by omega) (by omega) hg st)
    · exact seq_errR (it_kind rok_kin0 hk (by omega) (by omega) (by omega) hg F) (itl_keep (fun h => h) (fun _ => rfl) (fun h => h)) (it_sserr hk h st)
theorem dl_plainS {n : Nat} {l : Ld} {i : Nat} (h : n < 256 ^ 63) (hl : l[i]? = some (some (.fr (.int n)))) : callE m_plain_code [] (aSl i aNil) l = .ok (.list ((codeN n).map .int)) l := by
  have pc := e_plain_code h
  have st : l.set i (some (.fr (.int n))) = l := by
    apply List.ext_getElem?
    intro j
    by_cases c : i = j
    · subst c
      rw [List.getElem?_set_self (List.getElem?_eq_some_iff.mp hl).1, hl]
    · rw [List.getElem?_set_ne c]
  generalize (codeN n).map D.int = zs at *
  have hh : has? i l = true := has_of hl
  simp [callE, aSl, hh, hl, aNil, Res.bind, appE, resolve, slotsOf, putA, pc, st, Sl.toD]
theorem sp_itemS {w : World} {n r : Nat} {P : LP} (hi : HI (m_LooseReader_take_item w n) r P) : HI (m_LooseReader_take_item w (n + 1)) (r + 1) (fun ps row => ItS .kind ps row ∨ ItN P ps row) := by
  have cast : (((r + 1 : Nat)) : Int) = (r : Int) + 1 := by omega
  intro ps0 row0 h0
  rw [cast]
  rcases h0 with h0 | h0
  · cases h0 with
    | @mk g ps k row hg hk h =>
    have rg := sc_rg hk
    have hk2 : k ∈ SCs ++ NEs := List.mem_append_left _ hk
    refine ⟨fun R s F => ?_, fun R s c d st => ?_⟩
    · have F1 := F.left
      refine runF_rt (l := ItL R _ ((r : Int) + 1) _ _ none) rfl (it_preS.trans (seq_nx (it_kind rok_kind hk2 (by omega) (by omega) (by omega) hg F1) (it_scalar hk h F.right))) ?_
      rw [show s + ((g ++ [(k, Ro.kind)]) ++ ps).length = s + (g ++ [(k, Ro.kind)]).length + ps.length by simp only [List.length_append]; omega]
      rfl
    · refine runF_errS rfl (by simp) ?_
      show ErrS (b_LooseReader_take_item w _) (ItL R s ((r : Int) + 1) none none none) c d
      refine it_preSE ?_
      rcases st.app with st | ⟨F, st⟩
      · exact seq_errL (it_kerr rok_kind hk2 (by omega) (by omega) (by omega) hg st)
      · exact seq_errR (it_kind rok_kind hk2 (by omega) (by omega) (by omega) hg F) (itl_keep (fun h => h) (fun _ => rfl) (fun h => h)) (it_sserr hk h st)
  · cases h0 with
    | @tag g c ps row n0 hg hc h few =>
      have hk2 : (10 : Int) ∈ SCs ++ NEs := by decide
      have nn : n0 < 256 ^ 63 := by
        obtain ⟨m, e, q⟩ := hc.nat
        have : n0 = m := by exact_mod_cast e
        omega
      have cf := codeN_few nn
      have bg2 : (200000 : Nat) ≤ sizeLine := by decide +kernel
      have e1 : ∀ R s, sIf (asB (bin2 inD (rd 3) (cst vSCALARS))) (sRet (methO "LooseReader" "take_scalar" m_LooseReader_take_scalar [] 0 (aSl 3 aNil))) sNil (ItL R s ((r : Int) + 1) (kindSl (SCs ++ NEs)) (some (.fr (.int 10))) none) = .nx (ItL R s ((r : Int) + 1) (kindSl (SCs ++ NEs)) (some (.fr (.int 10))) none) := fun R s => sif_n (by rw [it_in, decide_eq_false (by decide)])
      refine ⟨fun R s F => ?_, fun R s cl d st => ?_⟩
      · have F1 := F.left
        have cc := cd_call (l := [some (.fr (.int ((r : Int) + 1))), kindSl (SCs ++ NEs), some (.fr (.int 10)), none]) hc F.right.left
        have sp := hi _ _ h
        have mc := mc_ok (name := "take_item") (l := [some (.fr (.int ((r : Int) + 1))), kindSl (SCs ++ NEs), some (.fr (.int 10)), some (.fr (.int n0))]) sp (by decide +kernel) (by decide +kernel) it_args rfl (by simp [slotsOf]) rfl F.right.right rfl
        refine runF_rt (l := ItL R (s + (g ++ [(10, Ro.kind)]).length + c.length + ps.length) ((r : Int) + 1) (kindSl (SCs ++ NEs)) (some (.fr (.int 10))) (some (.fr (.int n0)))) rfl (it_preS.trans (seq_nx (it_kind rok_kind hk2 (by decide) (by decide) (by decide) hg F1) (seq_nx (e1 _ _) (seq_rt ((sif_y (by rw [it_eq]; rfl)).trans (seq_nx (sset_of cc) (ret_of ?_))))))) ?_
        · have pc := e_plain_code nn
          have pp : callE m_plain_code [] (aSl 4 aNil) (ItL R (s + (g ++ [(10, Ro.kind)]).length + c.length) ((r : Int) + 1) (kindSl (SCs ++ NEs)) (some (.fr (.int 10))) (some (.fr (.int n0)))) = .ok (.list ((codeN n0).map .int)) (ItL R (s + (g ++ [(10, Ro.kind)]).length + c.length) ((r : Int) + 1) (kindSl (SCs ++ NEs)) (some (.fr (.int 10))) (some (.fr (.int n0)))) := by
            exact dl_plainS nn rfl
          exact bin_of (f := addD) (bin_of (f := addD) (one_list (i := 10)) pp (by rw [cat_l, if_pos (by simp only [List.length_cons, List.length_nil, List.length_map]; omega)])) mc (by
            show addD (.list _) (.list _) = _
            rw [cat_l, if_pos (by simp only [List.length_append, List.length_cons, List.length_nil, List.length_map]; omega)]
            simp only [lD, List.map_cons, List.map_append, List.cons_append, List.nil_append])
        · rw [show s + ((g ++ [((10 : Int), Ro.kind)]) ++ (c ++ ps)).length = s + (g ++ [((10 : Int), Ro.kind)]).length + c.length + ps.length by simp only [List.length_append]; omega]
          rfl
      · refine runF_errS rfl (by simp) ?_
        show ErrS (b_LooseReader_take_item w _) (ItL R s ((r : Int) + 1) none none none) cl d
        refine it_preSE ?_
        rcases st.app with st | ⟨F, st⟩
        · exact seq_errL (it_kerr rok_kind hk2 (by decide) (by decide) (by decide) hg st)
        · refine seq_errR (it_kind rok_kind hk2 (by decide) (by decide) (by decide) hg F) (itl_keep (fun h => h) (fun _ => rfl) (fun h => h)) (seq_errR (e1 _ _) (.refl _) (seq_errL (if_errA (by rw [it_eq]; rfl) (.refl _) ?_)))
          rcases st.app with st | ⟨F2, st⟩
          · exact seq_errL (set_errE (cd_cerr (l := [some (.fr (.int ((r : Int) + 1))), kindSl (SCs ++ NEs), some (.fr (.int 10)), none]) hc st))
          · have cc := cd_call (l := [some (.fr (.int ((r : Int) + 1))), kindSl (SCs ++ NEs), some (.fr (.int 10)), none]) hc F2
            have kp : Keep (ItL R (s + (g ++ [(10, Ro.kind)]).length) ((r : Int) + 1) (kindSl (SCs ++ NEs)) (some (.fr (.int 10))) none) (ItL R (s + (g ++ [(10, Ro.kind)]).length + c.length) ((r : Int) + 1) (kindSl (SCs ++ NEs)) (some (.fr (.int 10))) (some (.fr (.int n0)))) := itl_keep (fun h => h) (fun h => h) (fun _ => rfl)
            refine seq_errR (sset_of cc) kp (ret_errE ?_)
            have pc := e_plain_code nn
            have pp : callE m_plain_code [] (aSl 4 aNil) (ItL R (s + (g ++ [(10, Ro.kind)]).length + c.length) ((r : Int) + 1) (kindSl (SCs ++ NEs)) (some (.fr (.int 10))) (some (.fr (.int n0)))) = .ok (.list ((codeN n0).map .int)) (ItL R (s + (g ++ [(10, Ro.kind)]).length + c.length) ((r : Int) + 1) (kindSl (SCs ++ NEs)) (some (.fr (.int 10))) (some (.fr (.int n0)))) := by
              exact dl_plainS nn rfl
            exact bin_errR (bin_of (f := addD) (one_list (i := 10)) pp (by rw [cat_l, if_pos (by simp only [List.length_cons, List.length_nil, List.length_map]; omega)])) (.refl _) (mc_err (name := "take_item") (l := [some (.fr (.int ((r : Int) + 1))), kindSl (SCs ++ NEs), some (.fr (.int 10)), some (.fr (.int n0))]) (hi _ _ h) (by decide +kernel) (by decide +kernel) it_args rfl (by simp [slotsOf]) st)
    | @list g ps k rows hg h few few2 =>
      have kk : k = 8 ∨ k = 13 := by cases h <;> simp
      have hk2 : k ∈ SCs ++ NEs := by rcases kk with rfl | rfl <;> decide
      have nk : k ∉ SCs := by rcases kk with rfl | rfl <;> decide
      have e1 : ∀ R s, sIf (asB (bin2 inD (rd 3) (cst vSCALARS))) (sRet (methO "LooseReader" "take_scalar" m_LooseReader_take_scalar [] 0 (aSl 3 aNil))) sNil (ItL R s ((r : Int) + 1) (kindSl (SCs ++ NEs)) (some (.fr (.int k))) none) = .nx (ItL R s ((r : Int) + 1) (kindSl (SCs ++ NEs)) (some (.fr (.int k))) none) := fun R s => sif_n (by rw [it_in, decide_eq_false nk])
      have e2 : ∀ R s (b : MS), sIf (asB (bin2 eqD (rd 3) (cst (.int 10)))) b sNil (ItL R s ((r : Int) + 1) (kindSl (SCs ++ NEs)) (some (.fr (.int k))) none) = .nx (ItL R s ((r : Int) + 1) (kindSl (SCs ++ NEs)) (some (.fr (.int k))) none) := fun R s b => sif_n (by rw [it_eq, decide_eq_false (by omega)])
      have e3 : ∀ R s, orT (asB (bin2 eqD (rd 3) (cst (.int 8)))) (asB (bin2 eqD (rd 3) (cst (.int 13)))) (ItL R s ((r : Int) + 1) (kindSl (SCs ++ NEs)) (some (.fr (.int k))) none) = .ok true (ItL R s ((r : Int) + 1) (kindSl (SCs ++ NEs)) (some (.fr (.int k))) none) := fun R s => by
        rcases kk with rfl | rfl
        · exact or_y (by rw [it_eq]; rfl)
        · exact (or_n (by rw [it_eq]; rfl)).trans (by rw [it_eq]; rfl)
      have sp := sp_list (w := w) hi h few few2
      refine ⟨fun R s F => ?_, fun R s cl d st => ?_⟩
      · refine runF_rt (l := ItL R (s + (g ++ [(k, Ro.kind)]).length + ps.length) ((r : Int) + 1) (kindSl (SCs ++ NEs)) (some (.fr (.int k))) none) rfl (it_preS.trans (seq_nx (it_kind rok_kind hk2 (by omega) (by omega) (by omega) hg F.left) (seq_nx (e1 _ _) (seq_nx (e2 _ _ _) (seq_rt ((sif_y (e3 _ _)).trans (ret_of ?_))))))) ?_
        · exact mc_ok (name := "take_list") (l := [some (.fr (.int ((r : Int) + 1))), kindSl (SCs ++ NEs), some (.fr (.int k)), none]) (ga := aSl 3 (aSl 1 aNil)) (args := [.sl 3, .sl 1]) (l2 := ItL R (s + (g ++ [(k, Ro.kind)]).length + ps.length) ((r : Int) + 1) (kindSl (SCs ++ NEs)) (some (.fr (.int k))) none) sp (by decide +kernel) (by decide +kernel) rfl rfl (by simp [slotsOf]) rfl F.right rfl
        · rw [show s + ((g ++ [(k, Ro.kind)]) ++ ps).length = s + (g ++ [(k, Ro.kind)]).length + ps.length by simp only [List.length_append]; omega]
          rfl
      · refine runF_errS rfl (by simp) ?_
        show ErrS (b_LooseReader_take_item w _) (ItL R s ((r : Int) + 1) none none none) cl d
        refine it_preSE ?_
        rcases st.app with st | ⟨F, st⟩
        · exact seq_errL (it_kerr rok_kind hk2 (by omega) (by omega) (by omega) hg st)
        · exact seq_errR (it_kind rok_kind hk2 (by omega) (by omega) (by omega) hg F) (itl_keep (fun h => h) (fun _ => rfl) (fun h => h)) (seq_errR (e1 _ _) (.refl _) (seq_errR (e2 _ _ _) (.refl _) (seq_errL (if_errA (e3 _ _) (.refl _) (ret_errE
            (mc_err (name := "take_list") (l := [some (.fr (.int ((r : Int) + 1))), kindSl (SCs ++ NEs), some (.fr (.int k)), none]) (ga := aSl 3 (aSl 1 aNil)) (args := [.sl 3, .sl 1]) sp (by decide +kernel) (by decide +kernel) rfl rfl (by simp [slotsOf]) st))))))
    | @map g ps k kvs hg h nd few few2 =>
      have kk : k = 9 ∨ k = 14 := by cases h <;> simp
      have hk2 : k ∈ SCs ++ NEs := by rcases kk with rfl | rfl <;> decide
      have nk : k ∉ SCs := by rcases kk with rfl | rfl <;> decide
      have e1 : ∀ R s, sIf (asB (bin2 inD (rd 3) (cst vSCALARS))) (sRet (methO "LooseReader" "take_scalar" m_LooseReader_take_scalar [] 0 (aSl 3 aNil))) sNil (ItL R s ((r : Int) + 1) (kindSl (SCs ++ NEs)) (some (.fr (.int k))) none) = .nx (ItL R s ((r : Int) + 1) (kindSl (SCs ++ NEs)) (some (.fr (.int k))) none) := fun R s => sif_n (by rw [it_in, decide_eq_false nk])
      have e2 : ∀ R s (b : MS), sIf (asB (bin2 eqD (rd 3) (cst (.int 10)))) b sNil (ItL R s ((r : Int) + 1) (kindSl (SCs ++ NEs)) (some (.fr (.int k))) none) = .nx (ItL R s ((r : Int) + 1) (kindSl (SCs ++ NEs)) (some (.fr (.int k))) none) := fun R s b => sif_n (by rw [it_eq, decide_eq_false (by omega)])
      have e3 : ∀ R s (b : MS), sIf (orT (asB (bin2 eqD (rd 3) (cst (.int 8)))) (asB (bin2 eqD (rd 3) (cst (.int 13))))) b sNil (ItL R s ((r : Int) + 1) (kindSl (SCs ++ NEs)) (some (.fr (.int k))) none) = .nx (ItL R s ((r : Int) + 1) (kindSl (SCs ++ NEs)) (some (.fr (.int k))) none) := fun R s b => sif_n ((or_n (by rw [it_eq, decide_eq_false (by omega)])).trans (by rw [it_eq, decide_eq_false (by omega)]))
      have sp := sp_map (w := w) hi h nd few few2
      refine ⟨fun R s F => ?_, fun R s cl d st => ?_⟩
      · refine runF_rt (l := ItL R (s + (g ++ [(k, Ro.kind)]).length + ps.length) ((r : Int) + 1) (kindSl (SCs ++ NEs)) (some (.fr (.int k))) none) rfl (it_preS.trans (seq_nx (it_kind rok_kind hk2 (by omega) (by omega) (by omega) hg F.left) (seq_nx (e1 _ _) (seq_nx (e2 _ _ _) (seq_nx (e3 _ _ _) (ret_of ?_)))))) ?_
        · exact mc_ok (name := "take_map") (l := [some (.fr (.int ((r : Int) + 1))), kindSl (SCs ++ NEs), some (.fr (.int k)), none]) (ga := aSl 3 (aSl 1 aNil)) (args := [.sl 3, .sl 1]) (l2 := ItL R (s + (g ++ [(k, Ro.kind)]).length + ps.length) ((r : Int) + 1) (kindSl (SCs ++ NEs)) (some (.fr (.int k))) none) sp (by decide +kernel) (by decide +kernel) rfl rfl (by simp [slotsOf]) rfl F.right rfl
        · rw [show s + ((g ++ [(k, Ro.kind)]) ++ ps).length = s + (g ++ [(k, Ro.kind)]).length + ps.length by simp only [List.length_append]; omega]
          rfl
      · refine runF_errS rfl (by simp) ?_
        show ErrS (b_LooseReader_take_item w _) (ItL R s ((r : Int) + 1) none none none) cl d
        refine it_preSE ?_
        rcases st.app with st | ⟨F, st⟩
        · exact seq_errL (it_kerr rok_kind hk2 (by omega) (by omega) (by omega) hg st)
        · exact seq_errR (it_kind rok_kind hk2 (by omega) (by omega) (by omega) hg F) (itl_keep (fun h => h) (fun _ => rfl) (fun h => h)) (seq_errR (e1 _ _) (.refl _) (seq_errR (e2 _ _ _) (.refl _) (seq_errR (e3 _ _ _) (.refl _) (ret_errE
            (mc_err (name := "take_map") (l := [some (.fr (.int ((r : Int) + 1))), kindSl (SCs ++ NEs), some (.fr (.int k)), none]) (ga := aSl 3 (aSl 1 aNil)) (args := [.sl 3, .sl 1]) sp (by decide +kernel) (by decide +kernel) rfl rfl (by simp [slotsOf]) st)))))
theorem sp_item {w : World} : ∀ (r n : Nat), HI (m_LooseReader_take_item w (r + n + 1)) r (LI r)
  | 0, n => sp_item0
  | r + 1, n => by
    have := sp_itemS (sp_item (w := w) r n)
    rw [show r + 1 + n + 1 = r + n + 1 + 1 by omega]
    exact this

/-! ### shortening -/
def docR (row : List Int) (z : Str) : D := .ins "Document" [("data", .tup (row.map .int)), ("kind", .str z)]
theorem doc_data (row : List Int) (z : Str) : fldD "data" ["Document"] (docR row z) = some (.tup (row.map .int)) := by
  simp [fldD, docR, List.lookup]
theorem e_doc_row {k : Int} {t : List Int} {z : Str} (h : atI (vKINDS.map D.str) k = some (.str z)) : m_document_of_row [.fr (lD (k :: t))] = .ok (.fr (docR (k :: t) z)) [.fr (lD (k :: t))] := by
  have i := e_doc_init (t := t) h
  have tb : tupleB [lD (k :: t)] = some (.tup ((k :: t).map .int)) := rfl
  refine runF_rt (l := [some (.fr (lD (k :: t)))]) rfl ?_ rfl
  show b_document_of_row [some (.fr (lD (k :: t)))] = _
  unfold docR
  generalize (k :: t).map D.int = rr at *
  generalize lD (k :: t) = ll at *
  simp [b_document_of_row, runF, frees, back, sSeq, sRet, bin2, rd, cst, vNil, vCons, calB, resolve, slotsOf, putA, aVal, aNil, has?, ixSl, Res.bind, Res.thn, Res.lift, SRes.seq, Sl.toD, O.toD, mkE, mkApp, sFldM, tb, i]
theorem e_reader {data : D} {R : List D} (hd : tupleB [data] = some (.tup R)) : m_LooseReader___init__ [.ow (.ins "LooseReader" []), .fr data] = .ok (.fr .non) [rdr R 0, .fr data] := by
  have n := rd_names.2
  refine runF_nx (l := [some (rdr R 0), some (.fr data)]) rfl ?_ rfl
  show b_LooseReader___init__ [some (.ow (.ins "LooseReader" [])), some (.fr data)] = _
  unfold rdr rfs
  simp [b_LooseReader___init__, runF, frees, back, sSeq, rd, cst, vNil, vCons, calB, has?, Res.bind, Res.thn, Res.lift, SRes.seq, Sl.toD, O.toD, sFldM, hd, putFD, n]
theorem mk_reader {data : D} {R : List D} (hd : tupleB [data] = some (.tup R)) {o2 : Option Sl} : sSetS 1 (mkS "LooseReader" m_LooseReader___init__ [] (aSl 0 aNil)) [some (.fr data), none, o2] = .nx [some (.fr data), some (rdr R 0), o2] := by
  have e := e_reader hd
  generalize rdr R 0 = r0 at *
  simp [sSetS, mkS, mkAppS, aSl, has?, aNil, Res.bind, Res.thn, resolve, slotsOf, putA, e]
section
variable {R : List D} {s : Nat}
theorem mc_ok1 {name : Str} {m : MF} {as as' : List Sl} {ps : Prs} {res : Sl} (sp : Sp m as ps res as') (h1 : (name == "row") = false) (h2 : (name == "spot") = false) {ga : MA} {a : Option Sl} {l l2 : Ld} {args : List Arg} (hga : ga (a :: some (rdr R s) :: l) = .ok args (a :: some (rdr R s) :: l)) (hr : resolve (a :: some (rdr R s) :: l) args = some as) (nd : (slotsOf (.sl 1 :: args)).Nodup) (hl : as'.length = as.length) (F : Ft R s ps)
    (hp : putA args as' (a :: some (rdr R (s + ps.length)) :: l) = l2) : methO "LooseReader" name m [] 1 ga (a :: some (rdr R s) :: l) = .ok res.toD l2 := by
  rw [m_at1 h1 h2, hga]
  show appE m [] (.sl 1 :: args) (a :: some (rdr R s) :: l) = _
  have rs : resolve (a :: some (rdr R s) :: l) (.sl 1 :: args) = some (rdr R s :: as) := by
    show (resolve (a :: some (rdr R s) :: l) args).map (rdr R s :: ·) = _
    rw [hr]
    rfl
  unfold appE
  rw [rs]
  dsimp only
  rw [if_pos nd, List.map_nil, List.append_nil, sp.ok R s F]
  dsimp only
  rw [if_pos (by simp [hl])]
  have tk : (rdr R (s + ps.length) :: as').take (rdr R s :: as).length = rdr R (s + ps.length) :: as' := List.take_of_length_le (by rw [List.length_cons, List.length_cons, hl]; exact Nat.le_refl _)
  rw [tk]
  show Res.ok _ (putA args as' (a :: some (rdr R (s + ps.length)) :: l)) = _
  rw [hp]
end
theorem sp_24 {w : World} {ps : Prs} {row : List Int} (h : LI 24 ps row) : Sp (m_LooseReader_take_item w 26) [.fr (.int 24)] ps (.fr (lD row)) [.fr (.int 24)] := sp_item (w := w) 24 1 ps row h
section
variable {w : World} {data : D} {R : List D} {ps : Prs} {row : List Int}
def ShL (data : D) (R : List D) (s : Nat) (o2 : Option Sl) : Ld := [some (.fr data), some (rdr R s), o2]
theorem sh_test {s : Nat} {o2 : Option Sl} : asB (bin2 ltD (fldO "spot" ["LooseReader"] 1) (calB lenB (vCons (fldO "row" ["LooseReader"] 1) vNil))) (ShL data R s o2) = .ok (decide ((s : Int) < R.length)) (ShL data R s o2) := by
  have a : fldO "spot" ["LooseReader"] 1 (ShL data R s o2) = .ok (.int s) (ShL data R s o2) := f_spot1
  have b : calB lenB (vCons (fldO "row" ["LooseReader"] 1) vNil) (ShL data R s o2) = .ok (.int R.length) (ShL data R s o2) := by
    have b : fldO "row" ["LooseReader"] 1 (ShL data R s o2) = .ok (.tup R) (ShL data R s o2) := f_row1
    unfold calB vCons
    rw [b]
    rfl
  have e := bin_of (f := ltD) a b (show ltD (.int s) (.int R.length) = some (.bl (decide ((s : Int) < R.length))) from rfl)
  unfold asB
  rw [e]
  rfl
theorem sh_item (h : LI 24 ps row) (F : Ft R 0 ps) : sSet 2 (methO "LooseReader" "take_item" (m_LooseReader_take_item w 26) [] 1 (aVal (cst (.int (24))) aNil)) (ShL data R 0 none) = .nx (ShL data R ps.length (some (.fr (lD row)))) := by
  have e := mc_ok1 (name := "take_item") (a := some (.fr data)) (l := [none]) (args := [.val (.int 24)]) (sp_24 (w := w) h) (by decide +kernel) (by decide +kernel) rfl rfl (by simp [slotsOf]) rfl F rfl
  rw [Nat.zero_add] at e
  exact sset_of e
theorem e_shorten (hd : tupleB [data] = some (.tup R)) (h : LI 24 ps row) (F : Ft R 0 ps) (hl : R.length = ps.length) {k : Int} {t : List Int} {z : Str} (hr : row = k :: t) (hz : atI (vKINDS.map D.str) k = some (.str z)) :
    m_shorten w [.fr data] = .ok (.fr (docR row z)) [.fr data] := by
  have dr := e_doc_row (t := t) hz
  rw [← hr] at dr
  refine runF_rt (l := ShL data R ps.length (some (.fr (lD row)))) rfl ?_ rfl
  refine seq_nx (mk_reader hd) (seq_nx (sh_item h F) (seq_nx (sif_n (by rw [sh_test, decide_eq_false (by omega)])) (ret_of ?_)))
  unfold ShL
  generalize rdr R ps.length = r0
  generalize lD row = ll at *
  generalize docR row z = dd at *
  simp [callE, aSl, has?, aNil, Res.bind, appE, resolve, slotsOf, putA, dr, Sl.toD]
end

/-! ### law57: loose codes and documents -/
def lcode (k n : Nat) : List Int := if List.replicate k (0 : Int) ++ digs n = [] then [0] else (191 + ((List.replicate k (0 : Int) ++ digs n).length : Nat) : Int) :: (List.replicate k (0 : Int) ++ digs n)
theorem dfold_app (a : Int) (x y : List Int) : dfold a (x ++ y) = dfold (dfold a x) y := List.foldl_append
theorem dfold_zero : ∀ k : Nat, dfold 0 (List.replicate k (0 : Int)) = 0
  | 0 => rfl
  | k + 1 => by
    show dfold (0 * 256 + 0) (List.replicate k 0) = 0
    exact dfold_zero k
theorem dfold_digs (n : Nat) : dfold 0 (digs n) = n := by
  induction n using Nat.strongRecOn with
  | ind n ih =>
    by_cases e : n = 0
    · subst e
      rw [digs_zero]
      rfl
    · rw [digs_pos e, dfold_app, ih (n / 256) (by omega)]
      show ((n / 256 : Nat) : Int) * 256 + ((n % 256 : Nat) : Int) = n
      omega
def fsts (ps : Prs) : List Int := ps.map (·.1)
theorem fsts_app (a b : Prs) : fsts (a ++ b) = fsts a ++ fsts b := List.map_append
theorem fsts_map (r : Ro) (xs : List Int) : fsts (xs.map fun b => (b, r)) = xs := by
  unfold fsts
  rw [List.map_map]
  exact List.map_id xs
theorem lc_cd (f : Bool) {k n : Nat} (h : k + (digs n).length ≤ 63) (hn : n < 256 ^ 63) : ∃ ps, Cd f ps n ∧ fsts ps = (lcode k n).map (flp f) := by
  have byt : ∀ b ∈ List.replicate k (0 : Int) ++ digs n, 0 ≤ b ∧ b ≤ 255 := fun b m => by
    rcases List.mem_append.mp m with m | m
    · rw [List.eq_of_mem_replicate m]; exact ⟨by decide, by decide⟩
    · have := digs_byte n b m
      exact this
  by_cases e : List.replicate k (0 : Int) ++ digs n = []
  · have z : n = 0 := by
      by_cases c : n = 0
      · exact c
      · have := congrArg List.length e
        rw [digs_pos c] at this
        simp at this
    subst z
    refine ⟨[(flp f 0, rol f)], Cd.short 0 (by decide) (by decide), ?_⟩
    unfold lcode
    rw [if_pos e]
    rfl
  · have ln : (List.replicate k (0 : Int) ++ digs n).length ≤ 63 := by rw [List.length_append, List.length_replicate]; exact h
    have df : dfold 0 (List.replicate k (0 : Int) ++ digs n) = n := by rw [dfold_app, dfold_zero, dfold_digs]
    have c := Cd.long (f := f) _ byt (Nat.pos_of_ne_zero fun z => e (List.eq_nil_of_length_eq_zero z)) ln
    rw [df] at c
    refine ⟨_, c, ?_⟩
    unfold lcode
    rw [if_neg e]
    show _ :: fsts _ = _
    generalize List.replicate k (0 : Int) ++ digs n = cs at *
    rw [List.map_cons]
    congr 1
    unfold fsts
    rw [List.map_map]
    rfl
theorem lcode_len {k n : Nat} (h : k + (digs n).length ≤ 63) : (lcode k n).length ≤ 64 := by
  unfold lcode
  split
  · simp
  · simp only [List.length_cons, List.length_append, List.length_replicate]; omega
theorem ft_all {ps : Prs} {rl : List Int} (h : fsts ps = rl) : Ft (rl.map .int) 0 ps := fun i p hp => by
  subst h
  rw [Nat.zero_add]
  unfold fsts
  rw [List.getElem?_map, List.getElem?_map, hp]
  rfl
theorem flp_false : ∀ l : List Int, l.map (flp false) = l := fun l => List.map_id l
def Loose (rl row : List Int) : Prop := ∃ ps, LI 24 ps row ∧ fsts ps = rl
theorem li_s {g ps : Prs} {k : Int} {row : List Int} {r : Nat} (hg : Gp .kind g) (hk : k ∈ SCs) (h : Scl k ps row) : LI (r + 1) ((g ++ [(k, .kind)]) ++ ps) row := .inl (.mk hg hk h)
theorem loose_pos {c : Prs} {n : Nat} (h : Cd false c n) : Loose (5 :: fsts c) (5 :: codeN n) := ⟨_, li_s (g := []) .nil (by decide) (.pos n h), by rw [fsts_app]; rfl⟩
theorem loose_neg {c : Prs} {n : Nat} (h : Cd true c n) : Loose (4 :: fsts c) (4 :: flip255 (codeN n)) := ⟨_, li_s (g := []) .nil (by decide) (.neg n h), by rw [fsts_app]; rfl⟩
theorem loose_tag {c : Prs} {n : Nat} (h : Cd false c n) : Loose (10 :: (fsts c ++ [3])) (10 :: (codeN n ++ [3])) :=
  ⟨_, .inr (.tag (g := []) .nil h (li_s (g := []) .nil (by decide) (.plain 3 (by decide) (by decide))) (by simp)), by simp only [fsts_app]; rfl⟩
theorem ct_of {c : Prs} {k : Int} {xs : List Int} (h : Cd false c xs.length) (few : xs.length ≤ 1000) (byt : ∀ b ∈ xs, 0 ≤ b ∧ b ≤ 255) (chr : k = 7 → ∀ b ∈ xs, (32 ≤ b ∧ b ≤ 126 ∧ b ≠ 37) ∨ b = 9 ∨ b = 10) : Ct k (c ++ xs.map fun b => (b, rc k)) xs := ⟨⟨c, h, rfl⟩, few, byt, chr⟩
theorem loose_ct {c : Prs} {k : Int} {xs : List Int} (hk : k = 6 ∨ k = 7) (h : Cd false c xs.length) (few : xs.length ≤ 1000) (byt : ∀ b ∈ xs, 0 ≤ b ∧ b ≤ 255) (chr : k = 7 → ∀ b ∈ xs, (32 ≤ b ∧ b ≤ 126 ∧ b ≠ 37) ∨ b = 9 ∨ b = 10) :
    Loose (k :: (fsts c ++ xs)) (k :: (codeN xs.length ++ xs)) :=
  ⟨_, li_s (g := []) .nil (by rcases hk with rfl | rfl <;> decide) (.once k hk (ct_of h few byt chr)), by simp only [fsts_app, fsts_map]; rfl⟩
theorem many_small {r : Nat} {v : Int} (h0 : 1 ≤ v) (h1 : v ≤ 3) : ∀ m : Nat, ∃ ps, Many (LI (r + 1)) ps (List.replicate m [v]) ∧ fsts ps = List.replicate m v
  | 0 => ⟨[], .nil, rfl⟩
  | m + 1 => by
    obtain ⟨ps, a, b⟩ := many_small h0 h1 m
    have one : LI (r + 1) (([] ++ [(v, Ro.kind)]) ++ []) [v] := li_s .nil (by simp [SCs]; omega) (.plain v h0 h1)
    exact ⟨_, .cons one a, by rw [fsts_app, b]; rfl⟩
theorem flat_one (m : Nat) (v : Int) : (List.replicate m [v]).flatten = List.replicate m v := by
  induction m with
  | zero => rfl
  | succ m ih => rw [List.replicate_succ, List.flatten_cons, ih, List.replicate_succ]; rfl
theorem loose_list {c : Prs} {m : Nat} {v : Int} (h : Cd false c m) (few : m ≤ 1000) (h0 : 1 ≤ v) (h1 : v ≤ 3) : Loose (8 :: (fsts c ++ List.replicate m v)) (8 :: (codeN m ++ List.replicate m v)) := by
  obtain ⟨ps, a, b⟩ := many_small (r := 22) h0 h1 m
  have ln : (List.replicate m [v]).length = m := List.length_replicate
  have it : ItN (LI 23) (([] ++ [(8, Ro.kind)]) ++ (c ++ ps)) (joinL 8 (List.replicate m [v]).length (List.replicate m [v])) :=
    .list .nil (.one ⟨⟨c, ps, by rw [ln]; exact h, a, rfl⟩, by rw [ln]; exact few⟩) (by rw [ln]; omega) (by rw [flat_one, List.length_replicate]; omega)
  unfold joinL at it
  rw [flat_one, ln] at it
  exact ⟨_, .inr it, by simp only [fsts_app, b]; rfl⟩
theorem sortK_one (p : Kv) : sortK [p] = [p] := by
  have := sortK_perm [p]
  exact List.perm_singleton.mp this
theorem loose_map {c1 c2 : Prs} {xs : List Int} {v : Int} (h1 : Cd false c1 1) (h : Cd false c2 xs.length) (few : xs.length ≤ 1000) (byt : ∀ b ∈ xs, 0 ≤ b ∧ b ≤ 255) (v0 : 1 ≤ v) (v1 : v ≤ 3) :
    Loose (9 :: (fsts c1 ++ (6 :: (fsts c2 ++ xs) ++ [v]))) (9 :: (codeN 1 ++ (6 :: (codeN xs.length ++ xs) ++ [v]))) := by
  have ct := ct_of (k := 6) h few byt (fun z => by cases z)
  have nn : xs.length < 256 ^ 63 := by
    have : (1001 : Nat) ≤ 256 ^ 63 := by decide +kernel
    omega
  have cf := codeN_few nn
  have pr : Pr (LI 23) (([] ++ [(6, Ro.key)]) ++ ((c2 ++ xs.map fun b => (b, rc 6)) ++ (([] ++ [(v, Ro.kind)]) ++ []))) (6 :: (codeN xs.length ++ xs), [v]) :=
    .mk .nil (by decide) (.once 6 (.inl rfl) ct) (li_s .nil (by simp [SCs]; omega) (.plain v v0 v1))
  have it : ItN (LI 23) (([] ++ [(9, Ro.kind)]) ++ (c1 ++ ((([] ++ [(6, Ro.key)]) ++ ((c2 ++ xs.map fun b => (b, rc 6)) ++ (([] ++ [(v, Ro.kind)]) ++ []))) ++ []))) (mapR [(6 :: (codeN xs.length ++ xs), [v])]) :=
    .map .nil (.one ⟨⟨c1, _, h1, .cons pr .nil, rfl⟩, by simp⟩) (by simp) (by simp) (by
      simp only [List.map_cons, List.map_nil, List.flatten_cons, List.flatten_nil, List.append_nil, pairR, List.length_append, List.length_cons, List.length_nil]
      omega)
  unfold mapR at it
  rw [sortK_one] at it
  have e : (9 :: (codeN [((6 :: (codeN xs.length ++ xs), [v]) : Kv)].length ++ ([((6 :: (codeN xs.length ++ xs), [v]) : Kv)].map pairR).flatten)) = (9 :: (codeN 1 ++ (6 :: (codeN xs.length ++ xs) ++ [v]))) := by
    simp [pairR]
  rw [e] at it
  refine ⟨_, .inr it, ?_⟩
  simp only [fsts_app, fsts_map]
  show 9 :: (fsts c1 ++ (6 :: (fsts c2 ++ xs) ++ ([v] ++ []) ++ [])) = _
  rw [List.append_nil, List.append_nil]
theorem row_kind : ∀ k : Fin 11, k.val ≠ 0 → ∃ z, atI (vKINDS.map D.str) ((k.val : Nat) : Int) = some (.str z)
  | ⟨0, _⟩, h => (h rfl).elim
  | ⟨1, _⟩, _ => ⟨_, rfl⟩
  | ⟨2, _⟩, _ => ⟨_, rfl⟩
  | ⟨3, _⟩, _ => ⟨_, rfl⟩
  | ⟨4, _⟩, _ => ⟨_, rfl⟩
  | ⟨5, _⟩, _ => ⟨_, rfl⟩
  | ⟨6, _⟩, _ => ⟨_, rfl⟩
  | ⟨7, _⟩, _ => ⟨_, rfl⟩
  | ⟨8, _⟩, _ => ⟨_, rfl⟩
  | ⟨9, _⟩, _ => ⟨_, rfl⟩
  | ⟨10, _⟩, _ => ⟨_, rfl⟩
theorem kind_of {k : Int} (h0 : 1 ≤ k) (h1 : k ≤ 10) : ∃ z, atI (vKINDS.map D.str) k = some (.str z) := by
  obtain ⟨n, rfl⟩ := Int.eq_ofNat_of_zero_le (by omega : 0 ≤ k)
  exact row_kind ⟨n, by omega⟩ (by show n ≠ 0; omega)
theorem e_loose {w : World} {data : D} {rl row : List Int} {k : Int} {t : List Int} (h : Loose rl row) (hr : row = k :: t) (h0 : 1 ≤ k) (h1 : k ≤ 10) (hd : data = .list (rl.map .int) ∨ data = .tup (rl.map .int)) :
    ∃ doc, m_shorten w [.fr data] = .ok (.fr doc) [.fr data] ∧ fldD "data" ["Document"] doc = some (.tup (row.map .int)) := by
  obtain ⟨ps, a, b⟩ := h
  obtain ⟨z, hz⟩ := kind_of h0 h1
  have td : tupleB [data] = some (.tup (rl.map .int)) := by rcases hd with rfl | rfl <;> rfl
  have ln : (rl.map D.int).length = ps.length := by rw [← b, List.length_map]; unfold fsts; rw [List.length_map]
  exact ⟨_, e_shorten td a (ft_all b) ln hr hz, doc_data _ _⟩

/-! ### law57: what is drawn -/
theorem e_digs_loop (N : Nat) : ∀ (n : Nat) (ds : List Int), (digs n).length + ds.length ≤ N → N ≤ 1000 →
    whileM _law_digits_c0 _law_digits_b1 [some (.fr (.int n)), some (.fr (.list (ds.map .int)))] = .nx [some (.fr (.int 0)), some (.fr (.list ((digs n ++ ds).map .int)))] := by
  intro n
  induction n using Nat.strongRecOn with
  | ind n ih =>
    intro ds hl hN
    rw [whileM_eq]
    by_cases e : n = 0
    · subst e
      simp [_law_digits_c0, sSeq, sSet, asB, bin2, rd, cst, frz, lstL, vNil, vCons, calB, has?, Res.bind, Res.thn, Res.lift, SRes.seq, loopR, Sl.toD, O.toD, addD, intD, fdivD, modD, cmpD, gtD, intB, digs_zero]
    · have hd := digs_pos e
      have l1 : (digs n).length = (digs (n / 256)).length + 1 := by rw [hd]; simp
      have step := ih (n / 256) (by omega) (((n % 256 : Nat) : Int) :: ds) (by simp only [List.length_cons]; omega) hN
      have s1 : 1 ≤ sizeLine := by decide
      have s2 : 1 + ds.length ≤ sizeLine := size_1000 (by omega)
      have m1 : (n : Int).fmod 256 = ((n % 256 : Nat) : Int) := by rw [Int.fmod_eq_emod_of_nonneg _ (by decide)]; rfl
      have m2 : (n : Int).fdiv 256 = ((n / 256 : Nat) : Int) := by rw [Int.fdiv_eq_ediv_of_nonneg _ (by decide)]; rfl
      have c : _law_digits_c0 [some (.fr (.int n)), some (.fr (.list (ds.map .int)))] = .ok true [some (.fr (.int n)), some (.fr (.list (ds.map .int)))] := by
        simp [_law_digits_c0, sSeq, sSet, asB, bin2, rd, cst, frz, lstL, vNil, vCons, calB, has?, Res.bind, Res.thn, Res.lift, SRes.seq, loopR, Sl.toD, O.toD, addD, intD, fdivD, modD, cmpD, gtD, intB]
        omega
      have b : _law_digits_b1 [some (.fr (.int n)), some (.fr (.list (ds.map .int)))] = .nx [some (.fr (.int ((n / 256 : Nat) : Int))), some (.fr (.list ((((n % 256 : Nat) : Int) :: ds).map .int)))] := by
        simp [_law_digits_b1, sSeq, sSet, asB, bin2, rd, cst, frz, lstL, vNil, vCons, calB, has?, Res.bind, Res.thn, Res.lift, SRes.seq, loopR, Sl.toD, O.toD, addD, intD, fdivD, modD, cmpD, gtD, intB, s1, s2, m1, m2, cDiv]
      rw [c]
      show loopR (_law_digits_b1 _) _ = _
      rw [b]
      show whileM _ _ _ = _
      rw [step, hd]
      simp
theorem e__law_digits {n : Nat} (h : n < 256 ^ 63) : m__law_digits [.fr (.int n)] = .ok (.fr (.list ((digs n).map .int))) [.fr (.int n)] := by
  have l := digs_len 63 n h
  have st := e_digs_loop 63 n [] (by simpa using l) (by decide)
  simp only [List.map_nil, List.append_nil] at st
  refine runF_rt (l := [some (.fr (.int 0)), some (.fr (.list ((digs n).map .int)))]) rfl ?_ rfl
  show b__law_digits [some (.fr (.int n)), none] = _
  exact seq_nx (l1 := [some (.fr (.int n)), some (.fr (.list []))]) rfl (seq_nx st rfl)
theorem tk_call {xs ys : List D} {l : Ld} {n r : Int} {e : ME} (h : m__law_take [.ow (.lst xs), .fr (.int n)] = .ok (.fr (.int r)) [.ow (.lst ys), .fr (.int n)]) (he : e (some (.ow (.lst xs)) :: l) = .ok (.int n) (some (.ow (.lst xs)) :: l)) :
    callE m__law_take [] (aSl 0 (aVal e aNil)) (some (.ow (.lst xs)) :: l) = .ok (.int r) (some (.ow (.lst ys)) :: l) := by
  simp [callE, aSl, has?, aVal, he, aNil, Res.bind, appE, resolve, slotsOf, putA, h, Sl.toD]
theorem ife_y {t : MT} {a b : ME} {l l1 : Ld} (h : t l = .ok true l1) : ifE t a b l = a l1 := by
  unfold ifE
  rw [h]
  rfl
theorem ife_n {t : MT} {a b : ME} {l l1 : Ld} (h : t l = .ok false l1) : ifE t a b l = b l1 := by
  unfold ifE
  rw [h]
  rfl
theorem rd_at {i : Nat} {l : Ld} {d : D} (h : l[i]? = some (some (.fr d))) : rd i l = .ok d l := by
  unfold rd
  rw [h]
theorem cat_e {x y : ME} {l : Ld} {a b : List Int} (hx : x l = .ok (.list (a.map .int)) l) (hy : y l = .ok (.list (b.map .int)) l) (few : a.length + b.length ≤ 100000) : bin2 addD x y l = .ok (.list ((a ++ b).map .int)) l := by
  have bg := big
  exact bin_of hx hy (by rw [cat_l, if_pos (by rw [List.length_map, List.length_map]; omega), List.map_append])
theorem mul_e {x y : ME} {l : Ld} {v : Int} {m : Nat} (hx : x l = .ok (.list [.int v]) l) (hy : y l = .ok (.int m) l) (few : m ≤ 100000) : bin2 mulDL x y l = .ok (.list ((List.replicate m v).map .int)) l := by
  have bg := big
  refine bin_of hx hy ?_
  show (if ([D.int v]).length * (m : Int).toNat ≤ sizeLine ∧ -(2 ^ 62) ≤ (m : Int) ∧ (m : Int) < 2 ^ 62 then some (D.list (repL [.int v] m)) else none) = _
  rw [if_pos ⟨by simp; omega, by omega, by omega⟩, repL_one, List.map_replicate]
theorem e__law_loose_code {xs : List D} {m q n : Nat} (hB : BagT xs m q) (m1 : m + 10 < 1048576) (hn : n < 256 ^ 63) :
    ∃ (k : Nat) (ys : List D), m__law_loose_code [.ow (.lst xs), .fr (.int n)] = .ok (.fr (.list ((lcode k n).map .int))) [.ow (.lst ys), .fr (.int n)] ∧ k + (digs n).length ≤ 63 ∧ BagT ys (m + 2) q := by
  have dl := digs_len 63 n hn
  have bg := big
  obtain ⟨rm, hrm⟩ : ∃ rm : Nat, rm = 63 - (digs n).length := ⟨_, rfl⟩
  obtain ⟨r1, y1, e1, a1, b1, hB1⟩ := e__law_take (n := (rm : Int) + 1) hB (by omega) (by omega) (by omega)
  obtain ⟨r2, y2, e2, a2, b2, hB2⟩ := e__law_take (n := 4) hB1 (by omega) (by omega) (by omega)
  let dg : D := .list ((digs n).map .int)
  have L0 : ∀ (bag : List D) (o3 o4 o5 : Option Sl), lenSl 2 [some (.ow (.lst bag)), some (.fr (.int n)), some (.fr dg), o3, o4, o5] = .ok (.int (digs n).length) [some (.ow (.lst bag)), some (.fr (.int n)), some (.fr dg), o3, o4, o5] := fun bag o3 o4 o5 => by
    have := len_sl (l := [some (.ow (.lst bag)), some (.fr (.int n)), some (.fr dg), o3, o4, o5]) (i := 2) rfl (len_list _)
    rwa [List.length_map] at this
  have s2 : sSet 2 (callE m__law_digits [] (aSl 1 aNil)) [some (.ow (.lst xs)), some (.fr (.int n)), none, none, none, none] = .nx [some (.ow (.lst xs)), some (.fr (.int n)), some (.fr dg), none, none, none] := by
    have d := e__law_digits hn
    show sSet 2 _ _ = SRes.nx [_, _, some (.fr (.list ((digs n).map .int))), _, _, _]
    generalize (digs n).map D.int = zs at *
    refine sset_of (x := .list zs) (l1 := [some (.ow (.lst xs)), some (.fr (.int n)), none, none, none, none]) ?_
    simp [callE, aSl, has?, aNil, Res.bind, appE, resolve, slotsOf, putA, d, Sl.toD]
  have sb : subD (.int 63) (.int (digs n).length) = some (.int rm) := by
    show some (D.int (63 - ((digs n).length : Int))) = _
    rw [show (63 - ((digs n).length : Int)) = rm by omega]
  have s3 : sSet 3 (bin2 subD (cst (.int 63)) (lenSl 2)) [some (.ow (.lst xs)), some (.fr (.int n)), some (.fr dg), none, none, none] = .nx [some (.ow (.lst xs)), some (.fr (.int n)), some (.fr dg), some (.fr (.int rm)), none, none] :=
    sset_of (bin_of (f := subD) rfl (L0 xs none none none) sb)
  obtain ⟨mn, hmn, hm0⟩ : ∃ mn : Int, ixD (.list [.int 0, .int 1, .int rm, .int r1]) (.int r2) = some (.int mn) ∧ 0 ≤ mn := by
    have c : r2 = 0 ∨ r2 = 1 ∨ r2 = 2 ∨ r2 = 3 := by omega
    rcases c with rfl | rfl | rfl | rfl
    · exact ⟨0, rfl, by decide⟩
    · exact ⟨1, rfl, by decide⟩
    · exact ⟨rm, rfl, by omega⟩
    · exact ⟨r1, rfl, by omega⟩
  have s4 : sSet 4 (bin2 ixD (frz (lstL (vCons (cst (.int 0)) (vCons (cst (.int 1)) (vCons (rd 3) (vCons (callE m__law_take [] (aSl 0 (aVal (bin2 addD (rd 3) (cst (.int 1))) aNil))) vNil)))))) (callE m__law_take [] (aSl 0 (aVal (cst (.int 4)) aNil)))) [some (.ow (.lst xs)), some (.fr (.int n)), some (.fr dg), some (.fr (.int rm)), none, none] =
      .nx [some (.ow (.lst y2)), some (.fr (.int n)), some (.fr dg), some (.fr (.int rm)), some (.fr (.int mn)), none] := by
    have t1 := tk_call (l := [some (.fr (.int n)), some (.fr dg), some (.fr (.int rm)), none, none]) (e := bin2 addD (rd 3) (cst (.int 1))) e1 (bin_of (f := addD) (a := rd 3) (b := cst (.int 1)) rfl rfl rfl)
    have t2 := tk_call (l := [some (.fr (.int n)), some (.fr dg), some (.fr (.int rm)), none, none]) (e := cst (.int 4)) e2 rfl
    have s4 : 4 ≤ sizeLine := by omega
    have li : frz (lstL (vCons (cst (.int 0)) (vCons (cst (.int 1)) (vCons (rd 3) (vCons (callE m__law_take [] (aSl 0 (aVal (bin2 addD (rd 3) (cst (.int 1))) aNil))) vNil))))) [some (.ow (.lst xs)), some (.fr (.int n)), some (.fr dg), some (.fr (.int rm)), none, none] = .ok (.list [.int 0, .int 1, .int rm, .int r1]) [some (.ow (.lst y1)), some (.fr (.int n)), some (.fr dg), some (.fr (.int rm)), none, none] := by
      generalize callE m__law_take [] (aSl 0 (aVal (bin2 addD (rd 3) (cst (.int 1))) aNil)) = TK at *
      generalize dg = dg0 at *
      simp [frz, lstL, vCons, vNil, cst, rd, Res.bind, t1, s4]
    exact sset_of (bin_of (f := ixD) li t2 hmn)
  obtain ⟨k, hk, hk2⟩ : ∃ k : Nat, min2 [.int mn, .int rm] = some (.int k) ∧ k ≤ rm := by
    have e : min2 [.int mn, .int rm] = some (.int (if (rm : Int) < mn then rm else mn)) := rfl
    rw [e]
    by_cases c : (rm : Int) < mn
    · rw [if_pos c]; exact ⟨rm, rfl, Nat.le_refl _⟩
    · rw [if_neg c]; exact ⟨mn.toNat, by rw [Int.toNat_of_nonneg hm0], by omega⟩
  let L4 : Ld := [some (.ow (.lst y2)), some (.fr (.int n)), some (.fr dg), some (.fr (.int rm)), some (.fr (.int mn)), none]
  have mi : calB min2 (vCons (calB intB (vCons (rd 4) vNil)) (vCons (bin2 subD (cst (.int 63)) (lenSl 2)) vNil)) L4 = .ok (.int k) L4 := by
    have b := bin_of (f := subD) (a := cst (.int 63)) (l := L4) rfl (L0 y2 (some (.fr (.int rm))) (some (.fr (.int mn))) none) sb
    have a : calB intB (vCons (rd 4) vNil) L4 = .ok (.int mn) L4 := rfl
    show calB min2 (vCons _ (vCons _ vNil)) L4 = _
    generalize calB intB (vCons (rd 4) vNil) = A at *
    generalize bin2 subD (cst (.int 63)) (lenSl 2) = B at *
    have b : B L4 = .ok (.int rm) L4 := b
    generalize L4 = l4 at *
    simp [calB, vCons, vNil, Res.bind, Res.lift, a, b, hk]
  have s5 : sSet 5 (bin2 addD (bin2 mulDL (frz (lstL (vCons (cst (.int 0)) vNil))) (calB min2 (vCons (calB intB (vCons (rd 4) vNil)) (vCons (bin2 subD (cst (.int 63)) (lenSl 2)) vNil)))) (rd 2)) L4 = .nx [some (.ow (.lst y2)), some (.fr (.int n)), some (.fr dg), some (.fr (.int rm)), some (.fr (.int mn)), some (.fr (.list ((List.replicate k (0 : Int) ++ digs n).map .int)))] :=
    sset_of (cat_e (mul_e one_list mi (by omega)) (rd_at rfl) (by rw [List.length_replicate]; omega))
  refine ⟨k, y2, ?_, by omega, hB2⟩
  refine runF_rt (l := [some (.ow (.lst y2)), some (.fr (.int n)), some (.fr dg), some (.fr (.int rm)), some (.fr (.int mn)), some (.fr (.list ((List.replicate k (0 : Int) ++ digs n).map .int)))]) rfl ?_ rfl
  show b__law_loose_code [some (.ow (.lst xs)), some (.fr (.int n)), none, none, none, none] = _
  refine seq_nx s2 (seq_nx s3 (seq_nx s4 (seq_nx s5 (ret_of ?_))))
  have ne := ne_listsI (List.replicate k (0 : Int) ++ digs n) []
  have ln : (List.replicate k (0 : Int) ++ digs n).length ≤ 63 := by rw [List.length_append, List.length_replicate]; omega
  unfold lcode
  generalize List.replicate k (0 : Int) ++ digs n = cs at *
  let L5 : Ld := [some (.ow (.lst y2)), some (.fr (.int n)), some (.fr dg), some (.fr (.int rm)), some (.fr (.int mn)), some (.fr (.list (cs.map .int)))]
  have tt : asB (bin2 neD (rd 5) (frz (lstL vNil))) L5 = .ok (!decide (cs = [])) L5 := by
    have e := bin_of (f := neD) (a := rd 5) (b := frz (lstL vNil)) (l := L5) (l1 := L5) (l2 := L5) (rd_at rfl) rfl ne
    unfold asB
    rw [e]
    rfl
  show ifE _ _ _ L5 = .ok _ L5
  by_cases c : cs = []
  · rw [decide_eq_true c] at tt
    rw [if_pos c]
    exact (ife_n tt).trans one_list
  · rw [decide_eq_false c] at tt
    rw [if_neg c]
    have le : lenSl 5 L5 = .ok (.int cs.length) L5 := by
      have := len_sl (l := L5) (i := 5) rfl (len_list (cs.map .int))
      rwa [List.length_map] at this
    have ad : bin2 addD (cst (.int 191)) (lenSl 5) L5 = .ok (.int (191 + (cs.length : Int))) L5 := bin_of (f := addD) rfl le rfl
    have h1 : frz (lstL (vCons (bin2 addD (cst (.int 191)) (lenSl 5)) vNil)) L5 = .ok (.list ([(191 + (cs.length : Int))].map .int)) L5 := by
      have z1 : 1 ≤ sizeLine := by omega
      generalize bin2 addD (cst (.int 191)) (lenSl 5) = A at *
      generalize L5 = l5 at *
      simp [frz, lstL, vCons, vNil, Res.bind, ad, z1]
    exact (ife_y tt).trans (cat_e h1 (rd_at rfl) (by simp; omega))

/-! ### law57: one cell -/
theorem sh_of {w : World} {e : ME} {l : Ld} {x : D} {rl row : List Int} {k : Int} {t : List Int} (h : Loose rl row) (hr : row = k :: t) (h0 : 1 ≤ k) (h1 : k ≤ 10) (he : e l = .ok x l) (hx : x = .list (rl.map .int) ∨ x = .tup (rl.map .int)) :
    un1 (fldD "data" ["Document"]) (callE (m_shorten w) [] (aVal e aNil)) l = .ok (.tup (row.map .int)) l := by
  obtain ⟨doc, d, f⟩ := e_loose (w := w) h hr h0 h1 hx
  have c : callE (m_shorten w) [] (aVal e aNil) l = .ok doc l := by
    unfold callE
    rw [aval1 he]
    simp [Res.bind, appE, resolve, slotsOf, putA, d, Sl.toD]
  unfold un1
  rw [c]
  simp only [Res.bind, Res.lift, f]
theorem ne_of {A B : ME} {l : Ld} {row : List Int} (a : A l = .ok (.tup (row.map .int)) l) (b : B l = .ok (.tup (row.map .int)) l) : asB (bin2 neD A B) l = .ok false l := by
  have q := eq_tups row row
  have n : neD (.tup (row.map .int)) (.tup (row.map .int)) = some (.bl false) := by
    unfold eqD at q
    unfold neD
    cases h : eqB (.tup (row.map .int)) (.tup (row.map .int)) with
    | none => rw [h] at q; cases q
    | some b =>
      rw [h, decide_eq_true rfl] at q
      have : b = true := D.bl.inj (Option.some.inj q)
      rw [this]
      rfl
  have e := bin_of (f := neD) a b n
  unfold asB
  rw [e]
  rfl
theorem tup_e {e : ME} {l : Ld} {ds : List D} (h : e l = .ok (.list ds) l) : calB tupleB (vCons e vNil) l = .ok (.tup ds) l := by
  unfold calB vCons
  rw [h]
  rfl
theorem one_of {e : ME} {l l1 : Ld} {d : D} (h : e l = .ok d l1) : frz (lstL (vCons e vNil)) l = .ok (.list [d]) l1 := by
  have s1 : 1 ≤ sizeLine := Nat.le_trans (by decide) thou
  simp [frz, lstL, vCons, vNil, Res.bind, h, s1]
theorem mul_g {x y : ME} {l l1 : Ld} {v : Int} {m : Nat} (hx : x l = .ok (.list [.int v]) l1) (hy : y l1 = .ok (.int m) l1) (few : m ≤ 100000) : bin2 mulDL x y l = .ok (.list ((List.replicate m v).map .int)) l1 := by
  have bg := big
  refine bin_of hx hy ?_
  show (if ([D.int v]).length * (m : Int).toNat ≤ sizeLine ∧ -(2 ^ 62) ≤ (m : Int) ∧ (m : Int) < 2 ^ 62 then some (D.list (repL [.int v] m)) else none) = _
  rw [if_pos ⟨by simp; omega, by omega, by omega⟩, repL_one, List.map_replicate]
abbrev lI (c : List Int) : Option Sl := some (.fr (.list (c.map .int)))
def R9 (bag : List D) (n : Int) (s2 s3 s5 s6 s7 s8 : Option Sl) : Ld := [some (.ow (.lst bag)), some (.fr (.int n)), s2, s3, none, s5, s6, s7, s8]
section
variable {w : World} {bag : List D} {n : Int} {s2 s3 s5 s6 s7 s8 : Option Sl}
theorem neg9 {e : ME} (he : ∀ (d : Int), e [some (.ow (.lst bag)), some (.fr (.int n)), s2, s3, some (.fr (.int d)), s5, s6, s7, s8] = .ok (.int (255 - d)) [some (.ow (.lst bag)), some (.fr (.int n)), s2, s3, some (.fr (.int d)), s5, s6, s7, s8]) {g : ME} {ds : List Int} (hg : g (R9 bag n s2 s3 s5 s6 s7 s8) = .ok (.list (ds.map .int)) (R9 bag n s2 s3 s5 s6 s7 s8)) (hl : ds.length ≤ 1000) :
    frz (lcL [4] (tName 4) yes e (itE g)) (R9 bag n s2 s3 s5 s6 s7 s8) = .ok (.list ((ds.map (flp true)).map .int)) (R9 bag n s2 s3 s5 s6 s7 s8) := by
  have bg := thou
  have lp := lcM_map (vs := [4]) (t := tName 4) (c := yes) (e := e) (fun x => match x with | .int d => .int (255 - d) | x => x) (R9 bag n s2 s3 s5 s6 s7 s8) (ds.map .int) [] (by simp only [List.length_map, List.length_nil]; omega) (by
    intro x m
    obtain ⟨d, md, rfl⟩ := List.mem_map.mp m
    exact ⟨_, _, _, rfl, rfl, he d, rfl⟩)
  have it : itE g (R9 bag n s2 s3 s5 s6 s7 s8) = .ok (ds.map .int) (R9 bag n s2 s3 s5 s6 s7 s8) := by
    unfold itE
    rw [hg]
    rfl
  have em : emp [4] (R9 bag n s2 s3 s5 s6 s7 s8) = true := rfl
  unfold frz lcL
  rw [it]
  have e2 : (Res.ok (ds.map D.int) (R9 bag n s2 s3 s5 s6 s7 s8)).bind (fun xs l1 => if emp [4] l1 = true then lcM [4] (tName 4) yes e xs [] l1 else .stuck) = lcM [4] (tName 4) yes e (ds.map D.int) [] (R9 bag n s2 s3 s5 s6 s7 s8) := by
    show (if emp [4] (R9 bag n s2 s3 s5 s6 s7 s8) = true then lcM [4] (tName 4) yes e (ds.map D.int) [] (R9 bag n s2 s3 s5 s6 s7 s8) else .stuck) = _
    rw [if_pos em]
  rw [e2, lp, List.nil_append, List.map_map, List.map_map]
  rfl
theorem negE0 (d : Int) : _law_right_e0 w [some (.ow (.lst bag)), some (.fr (.int n)), s2, s3, some (.fr (.int d)), s5, s6, s7, s8] = .ok (.int (255 - d)) [some (.ow (.lst bag)), some (.fr (.int n)), s2, s3, some (.fr (.int d)), s5, s6, s7, s8] := rfl
theorem negE1 (d : Int) : _law_right_e1 w [some (.ow (.lst bag)), some (.fr (.int n)), s2, s3, some (.fr (.int d)), s5, s6, s7, s8] = .ok (.int (255 - d)) [some (.ow (.lst bag)), some (.fr (.int n)), s2, s3, some (.fr (.int d)), s5, s6, s7, s8] := rfl
theorem c57a {c : Prs} {m : Nat} (h : Cd false c m) (hm : m < 256 ^ 63) (cl : (fsts c).length ≤ 64) (h2 : s2 = lI (fsts c)) (h3 : s3 = lI (codeN m)) :
    sIf (orT (asB (bin2 neD (un1 (fldD "data" ["Document"]) (callE (m_shorten w) [] (aVal (bin2 addD (frz (lstL (vCons (cst (.int 5)) vNil))) (rd 2)) aNil))) (calB tupleB (vCons (bin2 addD (frz (lstL (vCons (cst (.int 5)) vNil))) (rd 3)) vNil)))) (asB (bin2 neD (un1 (fldD "data" ["Document"]) (callE (m_shorten w) [] (aVal (bin2 addD (bin2 addD (frz (lstL (vCons (cst (.int 10)) vNil))) (rd 2)) (frz (lstL (vCons (cst (.int 3)) vNil)))) aNil))) (calB tupleB (vCons (bin2 addD (bin2 addD (frz (lstL (vCons (cst (.int 10)) vNil))) (rd 3)) (frz (lstL (vCons (cst (.int 3)) vNil)))) vNil))))) (sRet (cst (.bl false))) sNil (R9 bag n s2 s3 s5 s6 s7 s8) = .nx (R9 bag n s2 s3 s5 s6 s7 s8) := by
  subst h2 h3
  have cf := codeN_few hm
  have r2 : rd 2 (R9 bag n (lI (fsts c)) (lI (codeN m)) s5 s6 s7 s8) = .ok (.list ((fsts c).map .int)) (R9 bag n (lI (fsts c)) (lI (codeN m)) s5 s6 s7 s8) := rd_at rfl
  have r3 : rd 3 (R9 bag n (lI (fsts c)) (lI (codeN m)) s5 s6 s7 s8) = .ok (.list ((codeN m).map .int)) (R9 bag n (lI (fsts c)) (lI (codeN m)) s5 s6 s7 s8) := rd_at rfl
  have a1 := sh_of (w := w) (loose_pos h) rfl (by decide) (by decide) (cat_e (a := [5]) one_list r2 (by simp; omega)) (.inl rfl)
  have b1 := tup_e (cat_e (a := [5]) one_list r3 (by simp; omega))
  have a2 := sh_of (w := w) (loose_tag h) rfl (by decide) (by decide) (cat_e (b := [3]) (cat_e (a := [10]) one_list r2 (by simp; omega)) one_list (by simp; omega)) (.inl rfl)
  have b2 := tup_e (cat_e (b := [3]) (cat_e (a := [10]) one_list r3 (by simp; omega)) one_list (by simp; omega))
  exact sif_n ((or_n (ne_of a1 b1)).trans (ne_of a2 b2))
theorem c57b {c : List Int} (h2 : s2 = lI c) (cl : c.length ≤ 64) : sSet 5 (frz (lcL [4] (tName 4) yes (_law_right_e0 w) (itE (rd 2)))) (R9 bag n s2 s3 none s6 s7 s8) = .nx (R9 bag n s2 s3 (lI (c.map (flp true))) s6 s7 s8) := by
  subst h2
  exact sset_of (neg9 (negE0 (w := w)) (rd_at rfl) (by omega))
theorem c57c {c : Prs} {m : Nat} (h : Cd true c m) (hm : m < 256 ^ 63) (cl : (fsts c).length ≤ 64) (h5 : s5 = lI (fsts c)) (h3 : s3 = lI (codeN m)) :
    sIf (asB (bin2 neD (un1 (fldD "data" ["Document"]) (callE (m_shorten w) [] (aVal (calB tupleB (vCons (bin2 addD (frz (lstL (vCons (cst (.int 4)) vNil))) (rd 5)) vNil)) aNil))) (calB tupleB (vCons (bin2 addD (frz (lstL (vCons (cst (.int 4)) vNil))) (frz (lcL [4] (tName 4) yes (_law_right_e1 w) (itE (rd 3))))) vNil)))) (sRet (cst (.bl false))) sNil (R9 bag n s2 s3 s5 s6 s7 s8) = .nx (R9 bag n s2 s3 s5 s6 s7 s8) := by
  subst h5 h3
  have cf := codeN_few hm
  have r5 : rd 5 (R9 bag n s2 (lI (codeN m)) (lI (fsts c)) s6 s7 s8) = .ok (.list ((fsts c).map .int)) (R9 bag n s2 (lI (codeN m)) (lI (fsts c)) s6 s7 s8) := rd_at rfl
  have r3 : rd 3 (R9 bag n s2 (lI (codeN m)) (lI (fsts c)) s6 s7 s8) = .ok (.list ((codeN m).map .int)) (R9 bag n s2 (lI (codeN m)) (lI (fsts c)) s6 s7 s8) := rd_at rfl
  have ng := neg9 (negE1 (w := w)) r3 (by omega)
  have a1 := sh_of (w := w) (loose_neg h) rfl (by decide) (by decide) (tup_e (cat_e (a := [4]) one_list r5 (by simp; omega))) (.inr rfl)
  have b1 := tup_e (cat_e (a := [4]) one_list ng (by simp; omega))
  exact sif_n (ne_of a1 b1)
theorem c57d {k : Int} {c : Prs} {xs : List Int} (hk : k = 6 ∨ k = 7) (h : Cd false c xs.length) (few : xs.length ≤ 1000) (byt : ∀ b ∈ xs, 0 ≤ b ∧ b ≤ 255) (chr : k = 7 → ∀ b ∈ xs, (32 ≤ b ∧ b ≤ 126 ∧ b ≠ 37) ∨ b = 9 ∨ b = 10) (cl : (fsts c).length ≤ 64) (h2 : s2 = lI (fsts c)) (h3 : s3 = lI (codeN xs.length)) (h7 : s7 = lI xs) :
    sIf (asB (bin2 neD (un1 (fldD "data" ["Document"]) (callE (m_shorten w) [] (aVal (bin2 addD (bin2 addD (frz (lstL (vCons (cst (.int k)) vNil))) (rd 2)) (rd 7)) aNil))) (calB tupleB (vCons (bin2 addD (bin2 addD (frz (lstL (vCons (cst (.int k)) vNil))) (rd 3)) (rd 7)) vNil)))) (sRet (cst (.bl false))) sNil (R9 bag n s2 s3 s5 s6 s7 s8) = .nx (R9 bag n s2 s3 s5 s6 s7 s8) := by
  subst h2 h3 h7
  have nn : xs.length < 256 ^ 63 := by
    have : (1001 : Nat) ≤ 256 ^ 63 := by decide +kernel
    omega
  have cf := codeN_few nn
  have r2 : rd 2 (R9 bag n (lI (fsts c)) (lI (codeN xs.length)) s5 s6 (lI xs) s8) = .ok (.list ((fsts c).map .int)) (R9 bag n (lI (fsts c)) (lI (codeN xs.length)) s5 s6 (lI xs) s8) := rd_at rfl
  have r3 : rd 3 (R9 bag n (lI (fsts c)) (lI (codeN xs.length)) s5 s6 (lI xs) s8) = .ok (.list ((codeN xs.length).map .int)) (R9 bag n (lI (fsts c)) (lI (codeN xs.length)) s5 s6 (lI xs) s8) := rd_at rfl
  have r7 : rd 7 (R9 bag n (lI (fsts c)) (lI (codeN xs.length)) s5 s6 (lI xs) s8) = .ok (.list (xs.map .int)) (R9 bag n (lI (fsts c)) (lI (codeN xs.length)) s5 s6 (lI xs) s8) := rd_at rfl
  have a1 := sh_of (w := w) (loose_ct hk h few byt chr) rfl (by omega) (by omega) (cat_e (cat_e (a := [k]) one_list r2 (by simp; omega)) r7 (by simp; omega)) (.inl rfl)
  have b1 := tup_e (cat_e (cat_e (a := [k]) one_list r3 (by simp; omega)) r7 (by simp; omega))
  exact sif_n (ne_of a1 b1)
theorem c57e {c : Prs} {m : Nat} {v : Int} (h : Cd false c m) (few : m ≤ 1000) (v0 : 1 ≤ v) (v1 : v ≤ 3) (cl : (fsts c).length ≤ 64) (h2 : s2 = lI (fsts c)) (h3 : s3 = lI (codeN m)) (h7 : s7 = lI (List.replicate m v)) :
    sIf (asB (bin2 neD (un1 (fldD "data" ["Document"]) (callE (m_shorten w) [] (aVal (bin2 addD (bin2 addD (frz (lstL (vCons (cst (.int 8)) vNil))) (rd 2)) (rd 7)) aNil))) (calB tupleB (vCons (bin2 addD (bin2 addD (frz (lstL (vCons (cst (.int 8)) vNil))) (rd 3)) (rd 7)) vNil)))) (sRet (cst (.bl false))) sNil (R9 bag n s2 s3 s5 s6 s7 s8) = .nx (R9 bag n s2 s3 s5 s6 s7 s8) := by
  subst h2 h3 h7
  have nn : m < 256 ^ 63 := by
    have : (1001 : Nat) ≤ 256 ^ 63 := by decide +kernel
    omega
  have cf := codeN_few nn
  have lr : (List.replicate m v).length = m := List.length_replicate
  have r2 : rd 2 (R9 bag n (lI (fsts c)) (lI (codeN m)) s5 s6 (lI (List.replicate m v)) s8) = .ok (.list ((fsts c).map .int)) (R9 bag n (lI (fsts c)) (lI (codeN m)) s5 s6 (lI (List.replicate m v)) s8) := rd_at rfl
  have r3 : rd 3 (R9 bag n (lI (fsts c)) (lI (codeN m)) s5 s6 (lI (List.replicate m v)) s8) = .ok (.list ((codeN m).map .int)) (R9 bag n (lI (fsts c)) (lI (codeN m)) s5 s6 (lI (List.replicate m v)) s8) := rd_at rfl
  have r7 : rd 7 (R9 bag n (lI (fsts c)) (lI (codeN m)) s5 s6 (lI (List.replicate m v)) s8) = .ok (.list ((List.replicate m v).map .int)) (R9 bag n (lI (fsts c)) (lI (codeN m)) s5 s6 (lI (List.replicate m v)) s8) := rd_at rfl
  have a1 := sh_of (w := w) (loose_list h few v0 v1) rfl (by decide) (by decide) (cat_e (cat_e (a := [8]) one_list r2 (by simp; omega)) r7 (by simp; omega)) (.inl rfl)
  have b1 := tup_e (cat_e (cat_e (a := [8]) one_list r3 (by simp; omega)) r7 (by simp; omega))
  exact sif_n (ne_of a1 b1)
theorem three_list {a b c : Int} {l : Ld} : frz (lstL (vCons (cst (.int a)) (vCons (cst (.int b)) (vCons (cst (.int c)) vNil)))) l = .ok (.list ([a, b, c].map .int)) l := by
  have s1 : 3 ≤ sizeLine := Nat.le_trans (by decide) thou
  simp [frz, lstL, vCons, vNil, cst, Res.bind, s1]
theorem c57f {c : Prs} {m : Nat} {v : Int} (h : Cd false c m) (few : m ≤ 1000) (v0 : 1 ≤ v) (v1 : v ≤ 3) (cl : (fsts c).length ≤ 64) (h6 : s6 = some (.fr (.int m))) (h3 : s3 = lI (codeN m)) (h7 : s7 = lI (List.replicate m v)) (h8 : s8 = lI ([6] ++ fsts c ++ List.replicate m 7)) :
    sRet (bin2 eqD (un1 (fldD "data" ["Document"]) (callE (m_shorten w) [] (aVal (bin2 addD (bin2 addD (bin2 addD (frz (lstL (vCons (cst (.int 9)) (vCons (cst (.int 192)) (vCons (cst (.int 1)) vNil))))) (rd 8)) (slE (rd 7) oNone (oSome (cst (.int 1))))) (bin2 mulDL (frz (lstL (vCons (cst (.int 2)) vNil))) (calB intB (vCons (bin2 eqD (rd 6) (cst (.int 0))) vNil)))) aNil))) (calB tupleB (vCons (bin2 addD (bin2 addD (bin2 addD (bin2 addD (frz (lstL (vCons (cst (.int 9)) (vCons (cst (.int 1)) (vCons (cst (.int 6)) vNil))))) (rd 3)) (bin2 mulDL (frz (lstL (vCons (cst (.int 7)) vNil))) (rd 6))) (slE (rd 7) oNone (oSome (cst (.int 1))))) (bin2 mulDL (frz (lstL (vCons (cst (.int 2)) vNil))) (calB intB (vCons (bin2 eqD (rd 6) (cst (.int 0))) vNil)))) vNil))) (R9 bag n s2 s3 s5 s6 s7 s8) = .rt (.fr (.bl true)) (R9 bag n s2 s3 s5 s6 s7 s8) := by
  subst h3 h6 h7 h8
  obtain ⟨L, hL⟩ : ∃ L, L = R9 bag n s2 (lI (codeN m)) s5 (some (.fr (.int m))) (lI (List.replicate m v)) (lI ([6] ++ fsts c ++ List.replicate m 7)) := ⟨_, rfl⟩
  have r3 : rd 3 L = .ok (.list ((codeN m).map .int)) L := by subst hL; exact rd_at rfl
  have r6 : rd 6 L = .ok (.int m) L := by subst hL; exact rd_at rfl
  have r7 : rd 7 L = .ok (.list ((List.replicate m v).map .int)) L := by subst hL; exact rd_at rfl
  have r8 : rd 8 L = .ok (.list (([6] ++ fsts c ++ List.replicate m 7).map .int)) L := by subst hL; exact rd_at rfl
  rw [← hL]
  have nn : m < 256 ^ 63 := by
    have : (1001 : Nat) ≤ 256 ^ 63 := by decide +kernel
    omega
  have cf := codeN_few nn
  have lr : ∀ v : Int, (List.replicate m v).length = m := fun v => List.length_replicate
  -- the first of the content
  have sl : slE (rd 7) oNone (oSome (cst (.int 1))) L = .ok (.list (((List.replicate m v).take 1).map .int)) L := by
    unfold slE
    rw [r7]
    have e : slD (.list ((List.replicate m v).map .int)) none (some 1) = some (.list (((List.replicate m v).take 1).map .int)) := by
      show some (D.list (cutD ((List.replicate m v).map .int) none (some 1))) = _
      cases m with
      | zero => rfl
      | succ m =>
        have c0 : HT.sIx ((List.replicate (m + 1) v).map D.int).length 0 none = 0 := rfl
        have c1 : HT.sIx ((List.replicate (m + 1) v).map D.int).length ((List.replicate (m + 1) v).map D.int).length (some 1) = 1 := by
          simp [HT.sIx]
        unfold cutD
        rw [c0, c1]
        rfl
    show (Res.ok (D.list ((List.replicate m v).map .int)) L).bind _ = _
    simp only [Res.bind, oNone, oSome, cst, Res.lift, e]
  have iz : calB intB (vCons (bin2 eqD (rd 6) (cst (.int 0))) vNil) L = .ok (.int ((if m = 0 then 1 else 0 : Nat) : Int)) L := by
    have q := bin_of (f := eqD) (b := cst (.int 0)) (l2 := L) r6 rfl (eqD_i m 0)
    unfold calB vCons
    rw [q]
    by_cases z : m = 0
    · subst z
      rfl
    · have z2 : ¬ ((m : Int) = 0) := by omega
      rw [decide_eq_false z2, if_neg z]
      rfl
  have mz := mul_g (v := 2) one_list iz (by split <;> omega)
  have m7 := mul_g (v := 7) one_list r6 (by omega)
  obtain ⟨u, hu, u0, u1⟩ : ∃ u : Int, (List.replicate m v).take 1 ++ List.replicate (if m = 0 then 1 else 0) 2 = [u] ∧ 1 ≤ u ∧ u ≤ 3 := by
    cases m with
    | zero => exact ⟨2, rfl, by decide, by decide⟩
    | succ m => exact ⟨v, by simp [List.replicate_succ], v0, v1⟩
  obtain ⟨c1, hc1, f1⟩ : ∃ c1, Cd false c1 1 ∧ fsts c1 = [192, 1] := ⟨_, Cd.long (f := false) [1] (by simp) (by decide) (by decide), rfl⟩
  have lm := loose_map (xs := List.replicate m 7) hc1 (by rw [lr]; exact h) (by rw [lr]; exact few) (fun b mb => by rw [List.eq_of_mem_replicate mb]; exact ⟨by decide, by decide⟩) u0 u1
  have tk : ((List.replicate m v).take 1).length ≤ 1 := by rw [List.length_take]; omega
  have ts : (List.replicate (if m = 0 then 1 else 0) (2 : Int)).length ≤ 1 := by rw [List.length_replicate]; split <;> omega
  have d1 := cat_e (cat_e (cat_e (three_list (a := 9) (b := 192) (c := 1)) r8 (by simp; omega)) sl (by simp only [List.length_append, List.length_cons, List.length_nil, lr]; omega)) mz (by simp only [List.length_append, List.length_cons, List.length_nil, lr]; omega)
  have d2 := cat_e (cat_e (cat_e (cat_e (three_list (a := 9) (b := 1) (c := 6)) r3 (by simp; omega)) m7 (by simp only [List.length_append, List.length_cons, List.length_nil, lr]; omega)) sl (by simp only [List.length_append, List.length_cons, List.length_nil, lr]; omega)) mz (by simp only [List.length_append, List.length_cons, List.length_nil, lr]; omega)
  have x1 : ([9, 192, 1] ++ ([6] ++ fsts c ++ List.replicate m 7) ++ (List.replicate m v).take 1 ++ List.replicate (if m = 0 then 1 else 0) 2) = 9 :: (fsts c1 ++ (6 :: (fsts c ++ List.replicate m 7) ++ [u])) := by
    rw [f1, ← hu]
    simp only [List.append_assoc, List.cons_append, List.nil_append]
  have x2 : ([9, 1, 6] ++ codeN m ++ List.replicate m 7 ++ (List.replicate m v).take 1 ++ List.replicate (if m = 0 then 1 else 0) 2) = 9 :: (codeN 1 ++ (6 :: (codeN (List.replicate m (7 : Int)).length ++ List.replicate m 7) ++ [u])) := by
    have c1 : codeN 1 = [1] := rfl
    rw [← hu, lr, c1]
    simp only [List.append_assoc, List.cons_append, List.nil_append]
  rw [x1] at d1
  rw [x2] at d2
  have a := sh_of (w := w) lm rfl (by decide) (by decide) d1 (.inl rfl)
  have b := tup_e d2
  have q := eq_tups (9 :: (codeN 1 ++ (6 :: (codeN (List.replicate m (7 : Int)).length ++ List.replicate m 7) ++ [u]))) (9 :: (codeN 1 ++ (6 :: (codeN (List.replicate m (7 : Int)).length ++ List.replicate m 7) ++ [u])))
  rw [decide_eq_true rfl] at q
  exact ret_of (bin_of (f := eqD) a b q)
end

/-! ### law57: the law -/
theorem set_same {l : Ld} {i : Nat} {s : Sl} (hl : l[i]? = some (some s)) : l.set i (some s) = l := by
  apply List.ext_getElem?
  intro j
  by_cases c : i = j
  · subst c
    rw [List.getElem?_set_self (List.getElem?_eq_some_iff.mp hl).1, hl]
  · rw [List.getElem?_set_ne c]
theorem call1 {m : MF} {r d : D} {i : Nat} {l : Ld} (h : m [.fr d] = .ok (.fr r) [.fr d]) (hl : l[i]? = some (some (.fr d))) : callE m [] (aSl i aNil) l = .ok r l := by
  have st := set_same hl
  have hh : has? i l = true := has_of hl
  simp [callE, aSl, hh, hl, aNil, Res.bind, appE, resolve, slotsOf, putA, h, st, Sl.toD]
theorem call2 {m : MF} {r d : D} {xs ys : List D} {i : Nat} {l : Ld} (h : m [.ow (.lst xs), .fr d] = .ok (.fr r) [.ow (.lst ys), .fr d]) (hl : l[i]? = some (some (.fr d))) : callE m [] (aSl 0 (aSl (i + 1) aNil)) (some (.ow (.lst xs)) :: l) = .ok r (some (.ow (.lst ys)) :: l) := by
  have st := set_same hl
  have hh : has? (i + 1) (some (.ow (.lst xs)) :: l) = true := has_of (s := .fr d) (by simpa using hl)
  simp [callE, aSl, hh, hl, has?, aNil, Res.bind, appE, resolve, slotsOf, putA, h, st, Sl.toD]
theorem par_of {a b : ME} {i j : Nat} {l l1 l2 : Ld} {x y : D} (ha : a l = .ok x l1) (hb : b l1 = .ok y l2) : sPar i j (vCons a (vCons b vNil)) l = .nx ((l2.set i (some (.fr x))).set j (some (.fr y))) := by
  unfold sPar vCons
  rw [ha]
  show (((vCons b vNil) l1).bind fun ds l2 => Res.ok (x :: ds) l2).thn _ = _
  unfold vCons
  rw [hb]
  rfl
section
variable {w : World}
theorem e__law_right57 {xs : List D} {m q n : Nat} (hB : BagT xs m q) (hm : m + 100 < 1048576) (hn : n < 256 ^ 63) : ∃ ys, m__law_right w [.ow (.lst xs), .fr (.int n)] = .ok (.fr (.bl true)) [.ow (.lst ys), .fr (.int n)] ∧ BagT ys (m + 9) q := by
  obtain ⟨k, y1, e1, hk, hB1⟩ := e__law_loose_code hB (by omega) hn
  have ec := e__law_code hn
  have p1 : sPar 2 3 (vCons (callE m__law_loose_code [] (aSl 0 (aSl 1 aNil))) (vCons (callE m__law_code [] (aSl 1 aNil)) vNil)) (R9 xs n none none none none none none) = .nx (R9 y1 n (lI (lcode k n)) (lI (codeN n)) none none none none) :=
    par_of (call2 (i := 0) e1 rfl) (call1 (i := 1) ec rfl)
  obtain ⟨c, hc, f⟩ := lc_cd false hk hn
  obtain ⟨cT, hcT, fT⟩ := lc_cd true hk hn
  rw [flp_false] at f
  have cl := lcode_len hk
  have e2 := c57a (w := w) (bag := y1) (n := n) (s5 := none) (s6 := none) (s7 := none) (s8 := none) hc hn (by rw [f]; exact cl) (s2 := lI (lcode k n)) (s3 := lI (codeN n)) (by rw [f]) rfl
  have e3 := c57b (w := w) (bag := y1) (n := n) (s3 := lI (codeN n)) (s6 := none) (s7 := none) (s8 := none) (s2 := lI (lcode k n)) rfl cl
  have e4 := c57c (w := w) (bag := y1) (n := n) (s2 := lI (lcode k n)) (s6 := none) (s7 := none) (s8 := none) hcT hn (by rw [fT, List.length_map]; exact cl) (s5 := lI ((lcode k n).map (flp true))) (s3 := lI (codeN n)) (by rw [fT]) rfl
  -- how many
  obtain ⟨M, y3, e5, hM, hB3⟩ : ∃ (M : Nat) (y3 : List D), sSet 6 (ifE (asB (bin2 eqD (callE m__law_take [] (aSl 0 (aVal (cst (.int 4)) aNil))) (cst (.int 0)))) (callE m__law_take [] (aSl 0 (aVal (cst (.int 300)) aNil))) (callE m__law_take [] (aSl 0 (aVal (cst (.int 4)) aNil)))) (R9 y1 n (lI (lcode k n)) (lI (codeN n)) (lI ((lcode k n).map (flp true))) none none none) =
      .nx (R9 y3 n (lI (lcode k n)) (lI (codeN n)) (lI ((lcode k n).map (flp true))) (some (.fr (.int M))) none none) ∧ M < 300 ∧ BagT y3 (m + 2 + 1 + 1) q := by
    obtain ⟨a, y2, ea, a0, a1, hB2⟩ := e__law_take (n := 4) hB1 (by omega) (by omega) (by omega)
    have ta := tk_call (l := (R9 y1 n (lI (lcode k n)) (lI (codeN n)) (lI ((lcode k n).map (flp true))) none none none).tail) (e := cst (.int 4)) ea rfl
    have tt : asB (bin2 eqD (callE m__law_take [] (aSl 0 (aVal (cst (.int 4)) aNil))) (cst (.int 0))) (R9 y1 n (lI (lcode k n)) (lI (codeN n)) (lI ((lcode k n).map (flp true))) none none none) = .ok (decide (a = 0)) (R9 y2 n (lI (lcode k n)) (lI (codeN n)) (lI ((lcode k n).map (flp true))) none none none) := by
      have e := bin_of (f := eqD) (b := cst (.int 0)) ta rfl (eqD_i a 0)
      unfold asB
      rw [show bin2 eqD (callE m__law_take [] (aSl 0 (aVal (cst (.int 4)) aNil))) (cst (.int 0)) (R9 y1 n (lI (lcode k n)) (lI (codeN n)) (lI ((lcode k n).map (flp true))) none none none) = _ from e]
      rfl
    by_cases z : a = 0
    · obtain ⟨b, y3, eb, b0, b1, hB3⟩ := e__law_take (n := 300) hB2 (by omega) (by omega) (by omega)
      have tb := tk_call (l := (R9 y1 n (lI (lcode k n)) (lI (codeN n)) (lI ((lcode k n).map (flp true))) none none none).tail) (e := cst (.int 300)) eb rfl
      rw [decide_eq_true z] at tt
      obtain ⟨M, rfl⟩ := Int.eq_ofNat_of_zero_le b0
      exact ⟨M, y3, sset_of ((ife_y tt).trans tb), by omega, hB3⟩
    · obtain ⟨b, y3, eb, b0, b1, hB3⟩ := e__law_take (n := 4) hB2 (by omega) (by omega) (by omega)
      have tb := tk_call (l := (R9 y1 n (lI (lcode k n)) (lI (codeN n)) (lI ((lcode k n).map (flp true))) none none none).tail) (e := cst (.int 4)) eb rfl
      rw [decide_eq_false z] at tt
      obtain ⟨M, rfl⟩ := Int.eq_ofNat_of_zero_le b0
      exact ⟨M, y3, sset_of ((ife_n tt).trans tb), by omega, hB3⟩
  have hMn : M < 256 ^ 63 := by
    have : (300 : Nat) ≤ 256 ^ 63 := by decide +kernel
    omega
  obtain ⟨k2, y4, e6, hk2, hB4⟩ := e__law_loose_code hB3 (by omega) hMn
  have ec2 := e__law_code hMn
  have cl2 := lcode_len hk2
  let F5 : Option Sl := lI ((lcode k n).map (flp true))
  let M6 : Option Sl := some (.fr (.int M))
  have p2 : sPar 2 3 (vCons (callE m__law_loose_code [] (aSl 0 (aSl 6 aNil))) (vCons (callE m__law_code [] (aSl 6 aNil)) vNil)) (R9 y3 n (lI (lcode k n)) (lI (codeN n)) F5 M6 none none) = .nx (R9 y4 n (lI (lcode k2 M)) (lI (codeN M)) F5 M6 none none) :=
    par_of (call2 (i := 5) e6 rfl) (call1 (i := 6) ec2 rfl)
  obtain ⟨c2, hc2, f2⟩ := lc_cd false hk2 hMn
  rw [flp_false] at f2
  have lr : ∀ v : Int, (List.replicate M v).length = M := fun v => List.length_replicate
  -- octets
  obtain ⟨v6, y5, ev6, v60, v61, hB5⟩ := e__law_take (n := 256) hB4 (by omega) (by omega) (by omega)
  have t6 := tk_call (l := (R9 y4 n (lI (lcode k2 M)) (lI (codeN M)) F5 M6 none none).tail) (e := cst (.int 256)) ev6 rfl
  have q6 : sSet 7 (bin2 mulDL (frz (lstL (vCons (callE m__law_take [] (aSl 0 (aVal (cst (.int 256)) aNil))) vNil))) (rd 6)) (R9 y4 n (lI (lcode k2 M)) (lI (codeN M)) F5 M6 none none) = .nx (R9 y5 n (lI (lcode k2 M)) (lI (codeN M)) F5 M6 (lI (List.replicate M v6)) none) :=
    sset_of (mul_g (one_of t6) (rd_at rfl) (by omega))
  have e7 := c57d (w := w) (bag := y5) (n := n) (s5 := F5) (s6 := M6) (s8 := none) (k := 6) (xs := List.replicate M v6) (.inl rfl) (by rw [lr]; exact hc2) (by rw [lr]; omega) (fun b mb => by rw [List.eq_of_mem_replicate mb]; omega) (fun z => by cases z) (by rw [f2]; exact cl2) (s2 := lI (lcode k2 M)) (s3 := lI (codeN M)) (s7 := lI (List.replicate M v6)) (by rw [f2]) (by rw [lr]) rfl
  -- a text
  obtain ⟨v7, y6, ev7, v70, v71, hB6⟩ := e__law_take (n := 5) hB5 (by omega) (by omega) (by omega)
  have t7 := tk_call (l := (R9 y5 n (lI (lcode k2 M)) (lI (codeN M)) F5 M6 (lI (List.replicate M v6)) none).tail) (e := cst (.int 5)) ev7 rfl
  have q7 : sSet 7 (bin2 mulDL (frz (lstL (vCons (bin2 addD (cst (.int 32)) (callE m__law_take [] (aSl 0 (aVal (cst (.int 5)) aNil)))) vNil))) (rd 6)) (R9 y5 n (lI (lcode k2 M)) (lI (codeN M)) F5 M6 (lI (List.replicate M v6)) none) = .nx (R9 y6 n (lI (lcode k2 M)) (lI (codeN M)) F5 M6 (lI (List.replicate M (32 + v7))) none) :=
    sset_of (mul_g (one_of (bin_of (f := addD) (a := cst (.int 32)) rfl t7 rfl)) (rd_at rfl) (by omega))
  have e8 := c57d (w := w) (bag := y6) (n := n) (s5 := F5) (s6 := M6) (s8 := none) (k := 7) (xs := List.replicate M (32 + v7)) (.inr rfl) (by rw [lr]; exact hc2) (by rw [lr]; omega) (fun b mb => by rw [List.eq_of_mem_replicate mb]; omega) (fun z b mb => by rw [List.eq_of_mem_replicate mb]; omega) (by rw [f2]; exact cl2) (s2 := lI (lcode k2 M)) (s3 := lI (codeN M)) (s7 := lI (List.replicate M (32 + v7))) (by rw [f2]) (by rw [lr]) rfl
  -- a list
  obtain ⟨v8, y7, ev8, v80, v81, hB7⟩ := e__law_take (n := 3) hB6 (by omega) (by omega) (by omega)
  have t8 := tk_call (l := (R9 y6 n (lI (lcode k2 M)) (lI (codeN M)) F5 M6 (lI (List.replicate M (32 + v7))) none).tail) (e := cst (.int 3)) ev8 rfl
  have q8 : sSet 7 (bin2 mulDL (frz (lstL (vCons (bin2 addD (cst (.int 1)) (callE m__law_take [] (aSl 0 (aVal (cst (.int 3)) aNil)))) vNil))) (rd 6)) (R9 y6 n (lI (lcode k2 M)) (lI (codeN M)) F5 M6 (lI (List.replicate M (32 + v7))) none) = .nx (R9 y7 n (lI (lcode k2 M)) (lI (codeN M)) F5 M6 (lI (List.replicate M (1 + v8))) none) :=
    sset_of (mul_g (one_of (bin_of (f := addD) (a := cst (.int 1)) rfl t8 rfl)) (rd_at rfl) (by omega))
  have e9 := c57e (w := w) (bag := y7) (n := n) (s5 := F5) (s6 := M6) (s8 := none) (v := 1 + v8) hc2 (by omega) (by omega) (by omega) (by rw [f2]; exact cl2) (s2 := lI (lcode k2 M)) (s3 := lI (codeN M)) (s7 := lI (List.replicate M (1 + v8))) (by rw [f2]) rfl rfl
  -- a map
  have q9 : sSet 8 (bin2 addD (bin2 addD (frz (lstL (vCons (cst (.int 6)) vNil))) (rd 2)) (bin2 mulDL (frz (lstL (vCons (cst (.int 7)) vNil))) (rd 6))) (R9 y7 n (lI (lcode k2 M)) (lI (codeN M)) F5 M6 (lI (List.replicate M (1 + v8))) none) = .nx (R9 y7 n (lI (lcode k2 M)) (lI (codeN M)) F5 M6 (lI (List.replicate M (1 + v8))) (lI ([6] ++ lcode k2 M ++ List.replicate M 7))) :=
    sset_of (cat_e (cat_e (a := [6]) one_list (rd_at rfl) (by simp; omega)) (mul_g one_list (rd_at rfl) (by omega)) (by simp only [List.length_append, List.length_cons, List.length_nil, lr]; omega))
  have e10 := c57f (w := w) (bag := y7) (n := n) (s2 := lI (lcode k2 M)) (s5 := F5) (v := 1 + v8) hc2 (by omega) (by omega) (by omega) (by rw [f2]; exact cl2) (s6 := M6) (s3 := lI (codeN M)) (s7 := lI (List.replicate M (1 + v8))) (s8 := lI ([6] ++ lcode k2 M ++ List.replicate M 7)) rfl rfl rfl (by rw [f2])
  refine ⟨y7, runF_rt (l := R9 y7 n (lI (lcode k2 M)) (lI (codeN M)) F5 M6 (lI (List.replicate M (1 + v8))) (lI ([6] ++ lcode k2 M ++ List.replicate M 7))) rfl ?_ rfl, by
    have := hB7
    rwa [show m + 2 + 1 + 1 + 2 + 1 + 1 + 1 = m + 9 by omega] at this⟩
  show b__law_right w (R9 xs n none none none none none none) = _
  unfold b__law_right
  exact seq_nx p1 (seq_nx e2 (seq_nx e3 (seq_nx e4 (seq_nx e5 (seq_nx p2 (seq_nx q6 (seq_nx e7 (seq_nx q7 (seq_nx e8 (seq_nx q8 (seq_nx e9 (seq_nx q9 e10))))))))))))
theorem cell57 {ns : List Int} {i : Nat} {s2 : Option Sl} (hi : i < 20) : ∃ t2, law_b0 w [some (.fr (.scr ns)), some (.fr (.int i)), s2] = .nx [some (.fr (.scr ns)), some (.fr (.int i)), t2] := by
  obtain ⟨x, e1, hB⟩ := e__law_bag (ns := ns) (i := (i : Int)) (by omega) (by omega)
  obtain ⟨v, x1, e2, hv, hB1⟩ := e__law_number hB (by omega)
  obtain ⟨x2, e3, hB2⟩ := e__law_right57 (w := w) hB1 (by omega) hv
  obtain ⟨r, x3, e4, r0, r1, hB3⟩ := e__law_take (n := 192) hB2 (by omega) (by omega) (by omega)
  obtain ⟨rn, rfl⟩ := Int.eq_ofNat_of_zero_le r0
  have hr : rn < 256 ^ 63 := by
    have : (192 : Nat) ≤ 256 ^ 63 := by decide +kernel
    omega
  obtain ⟨x4, e5, hB4⟩ := e__law_right57 (w := w) hB3 (by omega) hr
  refine ⟨some (.ow (.lst x4)), ?_⟩
  have e5 : m__law_right w [.ow (.lst x3), .fr (.int (rn : Int))] = .ok (.fr (.bl true)) [.ow (.lst x4), .fr (.int (rn : Int))] := e5
  generalize (rn : Int) = RN at *
  generalize (v : Int) = VV at *
  simp [law_b0, runF, frees, back, sSeq, sIf, sRet, sRetL, sRetS, sNil, sEx, sSet, sSetL, sPar, sPut, sRaise, asB, tru, truSl, andT, orT, notT, andE, orE, notE, ifE, bin2, bin2L, un1, rd, cst, frz, lstL, tupE, vNil, vCons, calB, calL, callE, callL, appE, appL, resolve, slotsOf, putA, aSl, aVal, aNil, has?, isOw, chn, ixSl, lenSl, mtS, tName, itE, rng1, slE, oSome, oNone, Res.bind, Res.thn, Res.lift, SRes.seq, loopR, Sl.toD, O.toD, mkE, mkApp, sFldM, sForT, isiE, lcL, emp, yes, e1, e2, e3, e4, e5, truD]
theorem law57 {ns : List Int} : m_law w [.fr (.scr ns)] = .ok (.fr (.bl true)) [.fr (.scr ns)] := by
  obtain ⟨c, hc, c3⟩ : ∃ c : Nat, (if (if (ns.length : Int) < 20 then (ns.length : Int) else 20) > 2 then (if (ns.length : Int) < 20 then (ns.length : Int) else 20) else 2) = c ∧ c ≤ 20 := by
    refine ⟨(if (if (ns.length : Int) < 20 then (ns.length : Int) else 20) > 2 then (if (ns.length : Int) < 20 then (ns.length : Int) else 20) else 2).toNat, ?_, ?_⟩ <;> split <;> split <;> omega
  have st : ∀ (j : Nat) (x : D) (l : Ld), ((List.range c).map fun (k : Nat) => D.int k)[j]? = some x → (∃ s1 s2 : Option Sl, l = [some (.fr (.scr ns)), s1, s2]) → ∃ l1 l2, tName 1 x l = some l1 ∧ law_b0 w l1 = .nx l2 ∧ ∃ s1 s2 : Option Sl, l2 = [some (.fr (.scr ns)), s1, s2] := by
    rintro j x l hx ⟨s1, s2, rfl⟩
    obtain ⟨hj, rfl⟩ := range_lt hx
    obtain ⟨t2, e⟩ := cell57 (w := w) (ns := ns) (i := j) (s2 := s2) (by omega)
    exact ⟨_, _, rfl, e, _, _, rfl⟩
  obtain ⟨l', e, s1, s2, rfl⟩ := forT_at (t := tName 1) (b := law_b0 w) (l := [some (.fr (.scr ns)), none, none]) (fun _ l => ∃ s1 s2 : Option Sl, l = [some (.fr (.scr ns)), s1, s2]) ⟨_, _, rfl⟩ st
  have ln : lenD (.scr ns) = some ns.length := rfl
  have mn : min2 [.int 20, .int (ns.length : Int)] = some (.int (if (ns.length : Int) < 20 then (ns.length : Int) else 20)) := rfl
  have mx : max2 [.int 2, .int (if (ns.length : Int) < 20 then (ns.length : Int) else 20)] = some (.int c) := by
    show some (D.int (if (if (ns.length : Int) < 20 then (ns.length : Int) else 20) > 2 then (if (ns.length : Int) < 20 then (ns.length : Int) else 20) else 2)) = _
    rw [hc]
  have vc : (vCons (calB max2 (vCons (cst (.int 2)) (vCons (calB min2 (vCons (cst (.int 20)) (vCons (lenSl 0) vNil))) vNil))) vNil) [some (.fr (.scr ns)), none, none] = .ok [.int c] [some (.fr (.scr ns)), none, none] := by
    generalize (if (ns.length : Int) < 20 then (ns.length : Int) else 20) = MM at *
    simp [vCons, vNil, calB, cst, lenSl, Res.bind, Res.lift, ln, mn, mx, Sl.toD]
  have fo : (sForT (tName 1) (rng1 (vCons (calB max2 (vCons (cst (.int 2)) (vCons (calB min2 (vCons (cst (.int 20)) (vCons (lenSl 0) vNil))) vNil))) vNil)) (law_b0 w)) [some (.fr (.scr ns)), none, none] = .nx [some (.fr (.scr ns)), s1, s2] := by
    unfold sForT
    rw [rng1_at (by omega) vc]
    exact e
  refine runF_rt (l := [some (.fr (.scr ns)), s1, s2]) rfl ?_ rfl
  show b_law w [some (.fr (.scr ns)), none, none] = _
  unfold b_law
  exact seq_nx fo rfl
end

end Sb
namespace Sb
open PySem PySem.Spec PyProof.Rows L2
theorem sc_init_WrongByte : FnScope ["self", "at"] ["self", "at"] (defScope s_init_WrongByte) := ⟨rfl, rfl, rfl, by decide +kernel, rfl, by decide +kernel, by decide +kernel⟩
theorem sc_init_Unfinished : FnScope ["self", "at"] ["self", "at"] (defScope s_init_Unfinished) := ⟨rfl, rfl, rfl, by decide +kernel, rfl, by decide +kernel, by decide +kernel⟩
theorem sc_init_DuplicateKey : FnScope ["self", "at"] ["self", "at"] (defScope s_init_DuplicateKey) := ⟨rfl, rfl, rfl, by decide +kernel, rfl, by decide +kernel, by decide +kernel⟩
theorem sc__law_bag : FnScope ["_law_script", "_law_at", "_law_cell"] ["_law_script", "_law_at"] (defScope s__law_bag) := ⟨rfl, rfl, rfl, by decide +kernel, rfl, by decide +kernel, by decide +kernel⟩
theorem sc__law_take : FnScope ["_law_bag_here", "_law_many", "_law_digit", "_law_near", "_law_mixed"] ["_law_bag_here", "_law_many"] (defScope s__law_take) := ⟨rfl, rfl, rfl, by decide +kernel, rfl, by decide +kernel, by decide +kernel⟩
theorem sc__law_code : FnScope ["_law_number_here", "_law_row_here"] ["_law_number_here"] (defScope s__law_code) := ⟨rfl, rfl, rfl, by decide +kernel, rfl, by decide +kernel, by decide +kernel⟩
theorem sc__law_number : FnScope ["_law_bag_here", "_law_road", "_law_number_here", "_law_turn"] ["_law_bag_here"] (defScope s__law_number) := ⟨rfl, rfl, rfl, by decide +kernel, rfl, by decide +kernel, by decide +kernel⟩
theorem sc_is_integer : FnScope ["thing"] ["thing"] (defScope s_is_integer) := ⟨rfl, rfl, rfl, by decide +kernel, rfl, by decide +kernel, by decide +kernel⟩
theorem sc_is_byte : FnScope ["thing"] ["thing"] (defScope s_is_byte) := ⟨rfl, rfl, rfl, by decide +kernel, rfl, by decide +kernel, by decide +kernel⟩
theorem sc_base_bytes : FnScope ["number", "digits"] ["number"] (defScope s_base_bytes) := ⟨rfl, rfl, rfl, by decide +kernel, rfl, by decide +kernel, by decide +kernel⟩
theorem sc_plain_code : FnScope ["number", "digits"] ["number"] (defScope s_plain_code) := ⟨rfl, rfl, rfl, by decide +kernel, rfl, by decide +kernel, by decide +kernel⟩
theorem sc_is_char_code : FnScope ["code"] ["code"] (defScope s_is_char_code) := ⟨rfl, rfl, rfl, by decide +kernel, rfl, by decide +kernel, by decide +kernel⟩
theorem sc_integer_row : FnScope ["number", "digit"] ["number"] (defScope s_integer_row) := ⟨rfl, rfl, rfl, by decide +kernel, rfl, by decide +kernel, by decide +kernel⟩
theorem sc_Document___init__ : FnScope ["self", "data"] ["self", "data"] (defScope s_Document___init__) := ⟨rfl, rfl, rfl, by decide +kernel, rfl, by decide +kernel, by decide +kernel⟩
theorem sc_document_of_row : FnScope ["row"] ["row"] (defScope s_document_of_row) := ⟨rfl, rfl, rfl, by decide +kernel, rfl, by decide +kernel, by decide +kernel⟩
theorem sc_LooseReader___init__ : FnScope ["self", "data"] ["self", "data"] (defScope s_LooseReader___init__) := ⟨rfl, rfl, rfl, by decide +kernel, rfl, by decide +kernel, by decide +kernel⟩
theorem sc_LooseReader_look : FnScope ["self"] ["self"] (defScope s_LooseReader_look) := ⟨rfl, rfl, rfl, by decide +kernel, rfl, by decide +kernel, by decide +kernel⟩
theorem sc_LooseReader_take : FnScope ["self", "byte"] ["self"] (defScope s_LooseReader_take) := ⟨rfl, rfl, rfl, by decide +kernel, rfl, by decide +kernel, by decide +kernel⟩
theorem sc_LooseReader_take_code : FnScope ["self", "is_flipped", "mask", "first", "number", "turn"] ["self", "is_flipped"] (defScope s_LooseReader_take_code) := ⟨rfl, rfl, rfl, by decide +kernel, rfl, by decide +kernel, by decide +kernel⟩
theorem sc_LooseReader_take_gaps : FnScope ["self", "many", "turn"] ["self"] (defScope s_LooseReader_take_gaps) := ⟨rfl, rfl, rfl, by decide +kernel, rfl, by decide +kernel, by decide +kernel⟩
theorem sc_LooseReader_take_kind : FnScope ["self", "kinds", "kind"] ["self", "kinds"] (defScope s_LooseReader_take_kind) := ⟨rfl, rfl, rfl, by decide +kernel, rfl, by decide +kernel, by decide +kernel⟩
theorem sc_LooseReader_take_content : FnScope ["self", "kind", "many", "content", "turn", "byte"] ["self", "kind"] (defScope s_LooseReader_take_content) := ⟨rfl, rfl, rfl, by decide +kernel, rfl, by decide +kernel, by decide +kernel⟩
theorem sc_LooseReader_take_scalar : FnScope ["self", "kind", "content"] ["self", "kind"] (defScope s_LooseReader_take_scalar) := ⟨rfl, rfl, rfl, by decide +kernel, rfl, by decide +kernel, by decide +kernel⟩
theorem sc_LooseReader_take_parts : FnScope ["self", "rows", "room", "many", "turn"] ["self", "rows", "room"] (defScope s_LooseReader_take_parts) := ⟨rfl, rfl, rfl, by decide +kernel, rfl, by decide +kernel, by decide +kernel⟩
theorem sc_LooseReader_take_pairs : FnScope ["self", "table", "room", "many", "turn", "kind", "start", "key"] ["self", "table", "room"] (defScope s_LooseReader_take_pairs) := ⟨rfl, rfl, rfl, by decide +kernel, rfl, by decide +kernel, by decide +kernel⟩
theorem sc_LooseReader_take_list : FnScope ["self", "kind", "room", "rows", "joined", "row"] ["self", "kind", "room"] (defScope s_LooseReader_take_list) := ⟨rfl, rfl, rfl, by decide +kernel, rfl, by decide +kernel, by decide +kernel⟩
theorem sc_LooseReader_take_map : FnScope ["self", "kind", "room", "table", "joined", "key"] ["self", "kind", "room"] (defScope s_LooseReader_take_map) := ⟨rfl, rfl, rfl, by decide +kernel, rfl, by decide +kernel, by decide +kernel⟩
theorem sc_LooseReader_take_item : FnScope ["self", "room", "kinds", "kind", "number"] ["self", "room"] (defScope s_LooseReader_take_item) := ⟨rfl, rfl, rfl, by decide +kernel, rfl, by decide +kernel, by decide +kernel⟩
theorem sc_shorten : FnScope ["data", "reader", "row"] ["data"] (defScope s_shorten) := ⟨rfl, rfl, rfl, by decide +kernel, rfl, by decide +kernel, by decide +kernel⟩
theorem sc__law_digits : FnScope ["_law_number_here", "_law_digits_here"] ["_law_number_here"] (defScope s__law_digits) := ⟨rfl, rfl, rfl, by decide +kernel, rfl, by decide +kernel, by decide +kernel⟩
theorem sc__law_loose_code : FnScope ["_law_bag_here", "_law_number_here", "_law_digits_here", "_law_room", "_law_many", "_law_code_here"] ["_law_bag_here", "_law_number_here"] (defScope s__law_loose_code) := ⟨rfl, rfl, rfl, by decide +kernel, rfl, by decide +kernel, by decide +kernel⟩
theorem sc__law_right : FnScope ["_law_bag_here", "_law_number_here", "_law_code_here", "_law_due", "_law_byte", "_law_flipped", "_law_many", "_law_content", "_law_keys"] ["_law_bag_here", "_law_number_here"] (defScope s__law_right) := ⟨rfl, rfl, rfl, by decide +kernel, rfl, by decide +kernel, by decide +kernel⟩
theorem sc_law : FnScope ["_law_script", "_law_at", "_law_bag_here"] ["_law_script"] (defScope s_law) := ⟨rfl, rfl, rfl, by decide +kernel, rfl, by decide +kernel, by decide +kernel⟩
structure Txt (K : PySem.W.Frag) (mg : Str → Option Value) : Prop where
  d__law_bag : DefAt K mg "_law_bag" s__law_bag []
  d__law_take : DefAt K mg "_law_take" s__law_take []
  d__law_code : DefAt K mg "_law_code" s__law_code []
  d__law_number : DefAt K mg "_law_number" s__law_number []
  d_is_integer : DefAt K mg "is_integer" s_is_integer []
  d_is_byte : DefAt K mg "is_byte" s_is_byte []
  d_base_bytes : DefAt K mg "base_bytes" s_base_bytes []
  d_plain_code : DefAt K mg "plain_code" s_plain_code []
  d_is_char_code : DefAt K mg "is_char_code" s_is_char_code []
  d_integer_row : DefAt K mg "integer_row" s_integer_row []
  d_document_of_row : DefAt K mg "document_of_row" s_document_of_row []
  d_shorten : DefAt K mg "shorten" s_shorten []
  d__law_digits : DefAt K mg "_law_digits" s__law_digits []
  d__law_loose_code : DefAt K mg "_law_loose_code" s__law_loose_code []
  d__law_right : DefAt K mg "_law_right" s__law_right []
  d_law : DefAt K mg "law" s_law []
  d_Document___init__ : ∃ fd, FunD K "__init__" "Document.__init__" (defArgs s_Document___init__) (defBody s_Document___init__) (defScope s_Document___init__) [] [] (He.fAd K ("Document", some "__init__")) fd
  k_Document : Mk K (He.ga K "Document") (He.fAd K ("Document", some "__init__"))
  d_LooseReader___init__ : ∃ fd, FunD K "__init__" "LooseReader.__init__" (defArgs s_LooseReader___init__) (defBody s_LooseReader___init__) (defScope s_LooseReader___init__) [] [] (He.fAd K ("LooseReader", some "__init__")) fd
  k_LooseReader : Mk K (He.ga K "LooseReader") (He.fAd K ("LooseReader", some "__init__"))
  d_LooseReader_look : ∃ fd, FunD K "look" "LooseReader.look" (defArgs s_LooseReader_look) (defBody s_LooseReader_look) (defScope s_LooseReader_look) [] [] (He.fAd K ("LooseReader", some "look")) fd
  mt_LooseReader_look : MethF K "LooseReader" "look" (He.fAd K ("LooseReader", some "look"))
  d_LooseReader_take : ∃ fd, FunD K "take" "LooseReader.take" (defArgs s_LooseReader_take) (defBody s_LooseReader_take) (defScope s_LooseReader_take) [] [] (He.fAd K ("LooseReader", some "take")) fd
  mt_LooseReader_take : MethF K "LooseReader" "take" (He.fAd K ("LooseReader", some "take"))
  d_LooseReader_take_code : ∃ fd, FunD K "take_code" "LooseReader.take_code" (defArgs s_LooseReader_take_code) (defBody s_LooseReader_take_code) (defScope s_LooseReader_take_code) [] [] (He.fAd K ("LooseReader", some "take_code")) fd
  mt_LooseReader_take_code : MethF K "LooseReader" "take_code" (He.fAd K ("LooseReader", some "take_code"))
  d_LooseReader_take_gaps : ∃ fd, FunD K "take_gaps" "LooseReader.take_gaps" (defArgs s_LooseReader_take_gaps) (defBody s_LooseReader_take_gaps) (defScope s_LooseReader_take_gaps) [] [] (He.fAd K ("LooseReader", some "take_gaps")) fd
  mt_LooseReader_take_gaps : MethF K "LooseReader" "take_gaps" (He.fAd K ("LooseReader", some "take_gaps"))
  d_LooseReader_take_kind : ∃ fd, FunD K "take_kind" "LooseReader.take_kind" (defArgs s_LooseReader_take_kind) (defBody s_LooseReader_take_kind) (defScope s_LooseReader_take_kind) [] [] (He.fAd K ("LooseReader", some "take_kind")) fd
  mt_LooseReader_take_kind : MethF K "LooseReader" "take_kind" (He.fAd K ("LooseReader", some "take_kind"))
  d_LooseReader_take_content : ∃ fd, FunD K "take_content" "LooseReader.take_content" (defArgs s_LooseReader_take_content) (defBody s_LooseReader_take_content) (defScope s_LooseReader_take_content) [] [] (He.fAd K ("LooseReader", some "take_content")) fd
  mt_LooseReader_take_content : MethF K "LooseReader" "take_content" (He.fAd K ("LooseReader", some "take_content"))
  d_LooseReader_take_scalar : ∃ fd, FunD K "take_scalar" "LooseReader.take_scalar" (defArgs s_LooseReader_take_scalar) (defBody s_LooseReader_take_scalar) (defScope s_LooseReader_take_scalar) [] [] (He.fAd K ("LooseReader", some "take_scalar")) fd
  mt_LooseReader_take_scalar : MethF K "LooseReader" "take_scalar" (He.fAd K ("LooseReader", some "take_scalar"))
  d_LooseReader_take_parts : ∃ fd, FunD K "take_parts" "LooseReader.take_parts" (defArgs s_LooseReader_take_parts) (defBody s_LooseReader_take_parts) (defScope s_LooseReader_take_parts) [] [] (He.fAd K ("LooseReader", some "take_parts")) fd
  mt_LooseReader_take_parts : MethF K "LooseReader" "take_parts" (He.fAd K ("LooseReader", some "take_parts"))
  d_LooseReader_take_pairs : ∃ fd, FunD K "take_pairs" "LooseReader.take_pairs" (defArgs s_LooseReader_take_pairs) (defBody s_LooseReader_take_pairs) (defScope s_LooseReader_take_pairs) [] [] (He.fAd K ("LooseReader", some "take_pairs")) fd
  mt_LooseReader_take_pairs : MethF K "LooseReader" "take_pairs" (He.fAd K ("LooseReader", some "take_pairs"))
  d_LooseReader_take_list : ∃ fd, FunD K "take_list" "LooseReader.take_list" (defArgs s_LooseReader_take_list) (defBody s_LooseReader_take_list) (defScope s_LooseReader_take_list) [] [] (He.fAd K ("LooseReader", some "take_list")) fd
  mt_LooseReader_take_list : MethF K "LooseReader" "take_list" (He.fAd K ("LooseReader", some "take_list"))
  d_LooseReader_take_map : ∃ fd, FunD K "take_map" "LooseReader.take_map" (defArgs s_LooseReader_take_map) (defBody s_LooseReader_take_map) (defScope s_LooseReader_take_map) [] [] (He.fAd K ("LooseReader", some "take_map")) fd
  mt_LooseReader_take_map : MethF K "LooseReader" "take_map" (He.fAd K ("LooseReader", some "take_map"))
  d_LooseReader_take_item : ∃ fd, FunD K "take_item" "LooseReader.take_item" (defArgs s_LooseReader_take_item) (defBody s_LooseReader_take_item) (defScope s_LooseReader_take_item) [] [] (He.fAd K ("LooseReader", some "take_item")) fd
  mt_LooseReader_take_item : MethF K "LooseReader" "take_item" (He.fAd K ("LooseReader", some "take_item"))
  c_Document : mg "Document" = some (.ref (He.ga K "Document"))
  c_LooseReader : mg "LooseReader" = some (.ref (He.ga K "LooseReader"))
  f_data : FldF K "data" ["Document"]
  f_kind : FldF K "kind" ["Document"]
  f_row : FldF K "row" ["LooseReader"]
  f_spot : FldF K "spot" ["LooseReader"]
  m_bool : mg "bool" = none
  m_int : mg "int" = none
  m_isinstance : mg "isinstance" = none
  m_len : mg "len" = none
  m_list : mg "list" = none
  m_max : mg "max" = none
  m_min : mg "min" = none
  m_range : mg "range" = none
  m_sorted : mg "sorted" = none
  m_tuple : mg "tuple" = none
  e_base : BaseAt K mg "ShortestBytesError"
  e_WrongByte : ErrAt K mg "WrongByte" "at" "WrongByte.__init__" s_init_WrongByte
  e_Unfinished : ErrAt K mg "Unfinished" "at" "Unfinished.__init__" s_init_Unfinished
  e_DuplicateKey : ErrAt K mg "DuplicateKey" "at" "DuplicateKey.__init__" s_init_DuplicateKey
  i_int : IsiF K (.type "int") tab_int
  i_bool : IsiF K (.type "bool") tab_bool
  i_str : IsiF K (.type "str") tab_str
  i_tuple : IsiF K (.type "tuple") tab_tuple
  i_list : IsiF K (.type "list") tab_list
  ap : Apart K lps kcs
  g_MOST : ∃ t, mg "MOST" = some (.int (256 ^ 63 - 1) t)
  g_LIMIT : ∃ t, mg "LIMIT" = some (.int (256 ^ 63) t)
  g_DEEPEST : ∃ t, mg "DEEPEST" = some (.int 24 t)
  g_CHARS : ∃ t, mg "CHARS" = some (.str vCHARS t)
  g_KINDS : mg "KINDS" = some (.ref (He.ga K "KINDS")) ∧ tupStrB K (He.ga K "KINDS") vKINDS = true
  g_GAP : ∃ t, mg "GAP" = some (.int 15 t)
  g_SCALARS : mg "SCALARS" = some (.ref (He.ga K "SCALARS")) ∧ dataB K (.ref (He.ga K "SCALARS")) vSCALARS = true
  g_NESTS : mg "NESTS" = some (.ref (He.ga K "NESTS")) ∧ dataB K (.ref (He.ga K "NESTS")) vNESTS = true
  g_KEYS : mg "KEYS" = some (.ref (He.ga K "KEYS")) ∧ dataB K (.ref (He.ga K "KEYS")) vKEYS = true
section
variable {P : Program} {w : World} {K : PySem.W.Frag} {mg : Str → Option Value} {base : Heap}
theorem er_WrongByte (T : Txt K mg) : Err P w K mg base "WrongByte" "at" := by
  obtain ⟨fd, F⟩ := T.e_WrongByte.F
  refine ⟨T.e_WrongByte.g, T.e_WrongByte.c, _, fd, ["self", "at"], T.e_WrongByte.i, T.e_WrongByte.t, F.ok (CX := CX0) sc_init_WrongByte (fun vs H Q E h => ?_) (fun cv A outer s H vs Q E hr h => ?_), F.bindsN fun _ _ _ _ _ _ us hl => match us, hl with | [_, _], _ => rfl⟩
  · obtain ⟨a, v, rfl, _⟩ := h
    rfl
  · obtain ⟨a, v, rfl, isE, q⟩ := h
    refine ⟨_, PSs.nox (pss_cons (ps_expr (pe_baseinit (by rfl) T.e_base.g T.e_base.b (pa_cons (pv 0) (pa_cons pe_str pa_nil)))) (pss_one (ps_ost (pv 0) (pv 1)))), ?_⟩
    refine ⟨_, rfl, a, He.ga K "WrongByte", _, rfl, (by show 1 ≤ 1000; decide), T.e_WrongByte.c.oex, isE, ?_⟩
    exact ⟨_, rfl, _, rfl, a, _, rfl, T.e_WrongByte.c.oex, T.e_WrongByte.n, .inl ⟨isE, q⟩⟩
theorem er_Unfinished (T : Txt K mg) : Err P w K mg base "Unfinished" "at" := by
  obtain ⟨fd, F⟩ := T.e_Unfinished.F
  refine ⟨T.e_Unfinished.g, T.e_Unfinished.c, _, fd, ["self", "at"], T.e_Unfinished.i, T.e_Unfinished.t, F.ok (CX := CX0) sc_init_Unfinished (fun vs H Q E h => ?_) (fun cv A outer s H vs Q E hr h => ?_), F.bindsN fun _ _ _ _ _ _ us hl => match us, hl with | [_, _], _ => rfl⟩
  · obtain ⟨a, v, rfl, _⟩ := h
    rfl
  · obtain ⟨a, v, rfl, isE, q⟩ := h
    refine ⟨_, PSs.nox (pss_cons (ps_expr (pe_baseinit (by rfl) T.e_base.g T.e_base.b (pa_cons (pv 0) (pa_cons pe_str pa_nil)))) (pss_one (ps_ost (pv 0) (pv 1)))), ?_⟩
    refine ⟨_, rfl, a, He.ga K "Unfinished", _, rfl, (by show 1 ≤ 1000; decide), T.e_Unfinished.c.oex, isE, ?_⟩
    exact ⟨_, rfl, _, rfl, a, _, rfl, T.e_Unfinished.c.oex, T.e_Unfinished.n, .inl ⟨isE, q⟩⟩
theorem er_DuplicateKey (T : Txt K mg) : Err P w K mg base "DuplicateKey" "at" := by
  obtain ⟨fd, F⟩ := T.e_DuplicateKey.F
  refine ⟨T.e_DuplicateKey.g, T.e_DuplicateKey.c, _, fd, ["self", "at"], T.e_DuplicateKey.i, T.e_DuplicateKey.t, F.ok (CX := CX0) sc_init_DuplicateKey (fun vs H Q E h => ?_) (fun cv A outer s H vs Q E hr h => ?_), F.bindsN fun _ _ _ _ _ _ us hl => match us, hl with | [_, _], _ => rfl⟩
  · obtain ⟨a, v, rfl, _⟩ := h
    rfl
  · obtain ⟨a, v, rfl, isE, q⟩ := h
    refine ⟨_, PSs.nox (pss_cons (ps_expr (pe_baseinit (by rfl) T.e_base.g T.e_base.b (pa_cons (pv 0) (pa_cons pe_str pa_nil)))) (pss_one (ps_ost (pv 0) (pv 1)))), ?_⟩
    refine ⟨_, rfl, a, He.ga K "DuplicateKey", _, rfl, (by show 1 ≤ 1000; decide), T.e_DuplicateKey.c.oex, isE, ?_⟩
    exact ⟨_, rfl, _, rfl, a, _, rfl, T.e_DuplicateKey.c.oex, T.e_DuplicateKey.n, .inl ⟨isE, q⟩⟩
theorem ok__law_bag (T : Txt K mg) : Has P w K mg base (L2.CX P w) 1 "_law_bag" ["_law_script", "_law_at"] [] (spM K 2 m__law_bag) := by
  refine has_m (k := 0) T.d__law_bag sc__law_bag (fun fd F => ⟨[], .nil, F.bindsN fun _ _ _ _ _ _ us hl => match us, hl with | [_, _], _ => rfl⟩) (fun cv A outer s H E F0 H0 pr np hg hr => ?_)
  exact (ms_cons (ms_set (i := 2) (np 2 (by decide)) sc__law_bag.nd rfl (lz rfl) (me_if (mt_cmp (op_ltD' rfl hr.units) (mv 1) (me_lenS (i := 0) rfl rfl (vz rfl) (by rfl) T.m_len) (nomark _)) (me_ixS (i := 0) rfl rfl (vz rfl) (mv 1)) (me_op (op_addD rfl) (me_op (op_mulD) me_int (mv 1)) me_int)))
    (ms_one (ms_retL (ml_lst (mv_cons (me_if (mt_cmp (op_geD) (mv 2) (me_op (op_powD) me_int me_int) (nomark _)) (mv 2) me_int) (mv_cons (me_op (op_modD) (me_callTy (call_intD) (by rfl) T.m_int (by decide +kernel) (mv_cons (mv 2) mv_nil)) me_int) (mv_cons me_int (mv_cons (me_slice rfl (mv 0) mo_none (mo_some me_int)) (mv_cons me_int mv_nil)))))))))
theorem ok__law_take (T : Txt K mg) : Has P w K mg base (L2.CX P w) 1 "_law_take" ["_law_bag_here", "_law_many"] [] (spM K 2 m__law_take) := by
  refine has_m (k := 0) T.d__law_take sc__law_take (fun fd F => ⟨[], .nil, F.bindsN fun _ _ _ _ _ _ us hl => match us, hl with | [_, _], _ => rfl⟩) (fun cv A outer s H E F0 H0 pr np hg hr => ?_)
  exact (ms_cons (ms_if (mt_cmp (op_gtD) (me_ixS (i := 0) rfl rfl (vz rfl) me_int) me_int (nomark _))
    (ms_cons (ms_set (i := 2) (np 2 (by decide)) sc__law_take.nd rfl (lz rfl) (me_op (op_modD) (me_callTy (call_intD) (by rfl) T.m_int (by decide +kernel) (mv_cons (me_ixS (i := 0) rfl rfl (vz rfl) me_int) mv_nil)) (mv 1)))
    (ms_cons (ms_put (i := 0) rfl (vz rfl) me_int (me_op (op_fdivD) (me_ixS (i := 0) rfl rfl (vz rfl) me_int) (mv 1)))
    (ms_one (ms_ret (mv 2)))))
    ms_nil)
    (ms_cons (ms_put (i := 0) rfl (vz rfl) me_int (me_op (op_addD rfl) (me_ixS (i := 0) rfl rfl (vz rfl) me_int) me_int))
    (ms_cons (ms_set (i := 3) (np 3 (by decide)) sc__law_take.nd rfl (lz rfl) (me_if (mt_cmp (op_neDD rfl hr.units) (me_ixS (i := 0) rfl rfl (vz rfl) me_int) (me_frz (ml_lst mv_nil)) (nomark _)) (me_ix rfl (me_ixS (i := 0) rfl rfl (vz rfl) me_int) (me_op (op_modD) (me_callTy (call_intD) (by rfl) T.m_int (by decide +kernel) (mv_cons (me_ixS (i := 0) rfl rfl (vz rfl) me_int) mv_nil)) (me_callB (call_lenD' rfl) (by rfl) T.m_len PySem.boot_len (mv_cons (me_ixS (i := 0) rfl rfl (vz rfl) me_int) mv_nil)))) me_int))
    (ms_cons (ms_put (i := 0) rfl (vz rfl) me_int (me_op (op_modD) (me_callTy (call_intD) (by rfl) T.m_int (by decide +kernel) (mv_cons (me_op (op_addD rfl) (me_op (op_addD rfl) (me_op (op_mulD) (me_ixS (i := 0) rfl rfl (vz rfl) me_int) me_int) (me_op (op_modD) (me_callTy (call_intD) (by rfl) T.m_int (by decide +kernel) (mv_cons (mv 3) mv_nil)) me_int)) (me_op (op_mulD) me_int (me_ixS (i := 0) rfl rfl (vz rfl) me_int))) mv_nil)) me_int))
    (ms_cons (ms_set (i := 4) (np 4 (by decide)) sc__law_take.nd rfl (lz rfl) (me_op (op_modD) (me_callTy (call_intD) (by rfl) T.m_int (by decide +kernel) (mv_cons (me_op (op_addD rfl) (me_op (op_mulD) (me_ixS (i := 0) rfl rfl (vz rfl) me_int) (me_ixS (i := 0) rfl rfl (vz rfl) me_int)) (me_op (op_mulD) me_int (me_ixS (i := 0) rfl rfl (vz rfl) me_int))) mv_nil)) me_int))
    (ms_one (ms_ret (me_op (op_modD) (me_callTy (call_intD) (by rfl) T.m_int (by decide +kernel) (mv_cons (me_op (op_fdivD) (mv 4) me_int) mv_nil)) (mv 1)))))))))
theorem ok__law_code (T : Txt K mg) : Has P w K mg base (L2.CX P w) 1 "_law_code" ["_law_number_here"] [] (spM K 1 m__law_code) := by
  refine has_m (k := 0) T.d__law_code sc__law_code (fun fd F => ⟨[], .nil, F.bindsN fun _ _ _ _ _ _ us hl => match us, hl with | [_], _ => rfl⟩) (fun cv A outer s H E F0 H0 pr np hg hr => ?_)
  exact (ms_cons (ms_if (mt_cmp (op_ltD' rfl hr.units) (mv 0) me_int (nomark _))
    (ms_one (ms_ret (me_frz (ml_lst (mv_cons (mv 0) mv_nil)))))
    ms_nil)
    (ms_cons (ms_set (i := 1) (np 1 (by decide)) sc__law_code.nd rfl (lz rfl) (me_frz (ml_lst mv_nil)))
    (ms_cons (ms_while (passes_of rfl) (mt_cmp (op_gtD) (mv 0) me_int (nomark _))
    (ms_cons (ms_set (i := 1) (np 1 (by decide)) sc__law_code.nd rfl (lz rfl) (me_op (op_addD rfl) (me_frz (ml_lst (mv_cons (me_op (op_modD) (me_callTy (call_intD) (by rfl) T.m_int (by decide +kernel) (mv_cons (mv 0) mv_nil)) me_int) mv_nil))) (mv 1)))
    (ms_one (ms_set (i := 0) (np 0 (by decide)) sc__law_code.nd rfl (lz rfl) (me_op (op_fdivD) (mv 0) me_int)))))
    (ms_one (ms_ret (me_op (op_addD rfl) (me_frz (ml_lst (mv_cons (me_op (op_addD rfl) me_int (me_lenS (i := 1) rfl rfl (vz rfl) (by rfl) T.m_len)) mv_nil))) (mv 1)))))))
theorem ok__law_number (T : Txt K mg) : Has P w K mg base (L2.CX P w) 2 "_law_number" ["_law_bag_here"] [] (spM K 1 m__law_number) := by
  refine has_m (k := 1) T.d__law_number sc__law_number (fun fd F => ⟨[], .nil, F.bindsN fun _ _ _ _ _ _ us hl => match us, hl with | [_], _ => rfl⟩) (fun cv A outer s H E F0 H0 pr np hg hr => ?_)
  exact (ms_cons (ms_set (i := 1) (np 1 (by decide)) sc__law_number.nd rfl (lz rfl) (me_call (ok__law_take T) rfl (fun _ => .nil) rfl (pxa rfl rfl rfl rfl) hg (hr.mono (by omega)) (by rfl) (ma_sl (i := 0) rfl (vz rfl) (ma_val me_int ma_nil)) (alS (alV al0))))
    (ms_cons (ms_if (mt_cmp (op_eqDD rfl hr.units) (mv 1) me_int (nomark _))
    (ms_one (ms_ret (me_call (ok__law_take T) rfl (fun _ => .nil) rfl (pxa rfl rfl rfl rfl) hg (hr.mono (by omega)) (by rfl) (ma_sl (i := 0) rfl (vz rfl) (ma_val me_int ma_nil)) (alS (alV al0)))))
    ms_nil)
    (ms_cons (ms_if (mt_cmp (op_eqDD rfl hr.units) (mv 1) me_int (nomark _))
    (ms_one (ms_ret (me_op (op_addD rfl) (me_ix rfl (me_frz (ml_lst (mv_cons me_int (mv_cons me_int (mv_cons me_int (mv_cons (me_op (op_subD) (me_op (op_powD) me_int me_int) me_int) (mv_cons (me_op (op_subD) (me_op (op_powD) me_int me_int) me_int) mv_nil))))))) (me_call (ok__law_take T) rfl (fun _ => .nil) rfl (pxa rfl rfl rfl rfl) hg (hr.mono (by omega)) (by rfl) (ma_sl (i := 0) rfl (vz rfl) (ma_val me_int ma_nil)) (alS (alV al0)))) (me_call (ok__law_take T) rfl (fun _ => .nil) rfl (pxa rfl rfl rfl rfl) hg (hr.mono (by omega)) (by rfl) (ma_sl (i := 0) rfl (vz rfl) (ma_val me_int ma_nil)) (alS (alV al0))))))
    ms_nil)
    (ms_cons (ms_set (i := 2) (np 2 (by decide)) sc__law_number.nd rfl (lz rfl) me_int)
    (ms_cons (ms_for (passes_of rfl) rfl (mi_range1 (by rfl) T.m_range (mv_cons (me_op (op_addD rfl) me_int (me_call (ok__law_take T) rfl (fun _ => .nil) rfl (pxa rfl rfl rfl rfl) hg (hr.mono (by omega)) (by rfl) (ma_sl (i := 0) rfl (vz rfl) (ma_val (me_ix rfl (me_frz (ml_lst (mv_cons me_int (mv_cons me_int (mv_cons me_int mv_nil))))) (me_op (op_subD) (mv 1) me_int)) ma_nil)) (alS (alV al0)))) mv_nil)) (mg_name (i := 3) (np 3 (by decide)) sc__law_number.nd rfl (lz rfl))
    (ms_one (ms_set (i := 2) (np 2 (by decide)) sc__law_number.nd rfl (lz rfl) (me_op (op_addD rfl) (me_op (op_mulD) (mv 2) me_int) (me_call (ok__law_take T) rfl (fun _ => .nil) rfl (pxa rfl rfl rfl rfl) hg (hr.mono (by omega)) (by rfl) (ma_sl (i := 0) rfl (vz rfl) (ma_val me_int ma_nil)) (alS (alV al0)))))))
    (ms_one (ms_ret (mv 2))))))))
theorem ok_is_integer (T : Txt K mg) : Has P w K mg base (L2.CX P w) 1 "is_integer" ["thing"] [] (spM K 1 m_is_integer) := by
  refine has_m (k := 0) T.d_is_integer sc_is_integer (fun fd F => ⟨[], .nil, F.bindsN fun _ _ _ _ _ _ us hl => match us, hl with | [_], _ => rfl⟩) (fun cv A outer s H E F0 H0 pr np hg hr => ?_)
  exact (ms_one (ms_ret (me_and (me_isi rfl T.i_int (by decide) (by rfl) T.m_isinstance (mv 0) (pe_bltn (v := .ty "int") (by rfl) T.m_int (by decide +kernel) rfl) (.ty "int")) (me_one (me_not (me_isi rfl T.i_bool (by decide) (by rfl) T.m_isinstance (mv 0) (pe_bltn (v := .ty "bool") (by rfl) T.m_bool (by decide +kernel) rfl) (.ty "bool")))))))
theorem ok_is_byte (T : Txt K mg) : Has P w K mg base (L2.CX P w) 2 "is_byte" ["thing"] [] (spM K 1 m_is_byte) := by
  refine has_m (k := 1) T.d_is_byte sc_is_byte (fun fd F => ⟨[], .nil, F.bindsN fun _ _ _ _ _ _ us hl => match us, hl with | [_], _ => rfl⟩) (fun cv A outer s H E F0 H0 pr np hg hr => ?_)
  exact (ms_one (ms_ret (me_and (me_call (ok_is_integer T) rfl (fun _ => .nil) rfl (pxa rfl rfl rfl rfl) hg (hr.mono (by omega)) (by rfl) (ma_sl (i := 0) rfl (vz rfl) ma_nil) (alS al0)) (me_one (me_chn (op_leD) (op_leD) me_int (mv 0) me_int)))))
theorem ok_base_bytes (T : Txt K mg) : Has P w K mg base (L2.CX P w) 1 "base_bytes" ["number"] [] (spM K 1 m_base_bytes) := by
  refine has_m (k := 0) T.d_base_bytes sc_base_bytes (fun fd F => ⟨[], .nil, F.bindsN fun _ _ _ _ _ _ us hl => match us, hl with | [_], _ => rfl⟩) (fun cv A outer s H E F0 H0 pr np hg hr => ?_)
  exact (ms_cons (ms_setL (i := 1) (np 1 (by decide)) sc_base_bytes.nd rfl (lz rfl) (ml_lst mv_nil))
    (ms_cons (ms_while (passes_of rfl) (mt_cmp (op_gtD) (mv 0) me_int (nomark _))
    (ms_cons (ms_expr (me_mt (i := 1) (md_append _) rfl PySem.F.slot_list_append PySem.F.type_list_append mt_append rfl (vz rfl) (mv_cons (me_op (op_andD) (mv 0) me_int) mv_nil)))
    (ms_one (ms_set (i := 0) (np 0 (by decide)) sc_base_bytes.nd rfl (lz rfl) (me_op (op_shrD) (mv 0) me_int)))))
    (ms_cons (ms_expr (me_mt0 (i := 1) (md_reverse _) rfl PySem.F.slot_list_reverse PySem.F.type_list_reverse mt_reverse rfl (vz rfl)))
    (ms_one (ms_retS (i := 1) (np 1 (by decide)) rfl (vz rfl))))))
theorem ok_plain_code (T : Txt K mg) : Has P w K mg base (L2.CX P w) 2 "plain_code" ["number"] [] (spM K 1 m_plain_code) := by
  refine has_m (k := 1) T.d_plain_code sc_plain_code (fun fd F => ⟨[], .nil, F.bindsN fun _ _ _ _ _ _ us hl => match us, hl with | [_], _ => rfl⟩) (fun cv A outer s H E F0 H0 pr np hg hr => ?_)
  exact (ms_cons (ms_if (mt_cmp (op_ltD' rfl hr.units) (mv 0) me_int (nomark _))
    (ms_one (ms_ret (me_frz (ml_lst (mv_cons (mv 0) mv_nil)))))
    ms_nil)
    (ms_cons (ms_set (i := 1) (np 1 (by decide)) sc_plain_code.nd rfl (lz rfl) (me_call (ok_base_bytes T) rfl (fun _ => .nil) rfl (pxa rfl rfl rfl rfl) hg (hr.mono (by omega)) (by rfl) (ma_sl (i := 0) rfl (vz rfl) ma_nil) (alS al0)))
    (ms_one (ms_ret (me_op (op_addD rfl) (me_frz (ml_lst (mv_cons (me_op (op_addD rfl) me_int (me_lenS (i := 1) rfl rfl (vz rfl) (by rfl) T.m_len)) mv_nil))) (mv 1))))))
theorem ok_is_char_code (T : Txt K mg) : Has P w K mg base (L2.CX P w) 1 "is_char_code" ["code"] [] (spM K 1 m_is_char_code) := by
  refine has_m (k := 0) T.d_is_char_code sc_is_char_code (fun fd F => ⟨[], .nil, F.bindsN fun _ _ _ _ _ _ us hl => match us, hl with | [_], _ => rfl⟩) (fun cv A outer s H E F0 H0 pr np hg hr => ?_)
  exact (ms_one (ms_ret (me_or (me_and (me_chn (op_leD) (op_leD) me_int (mv 0) me_int) (me_one (me_cmp (op_neDD rfl hr.units) (mv 0) me_int (nomark _)))) (me_or (me_cmp (op_eqDD rfl hr.units) (mv 0) me_int (nomark _)) (me_one (me_cmp (op_eqDD rfl hr.units) (mv 0) me_int (nomark _)))))))
theorem ok_integer_row (T : Txt K mg) : Has P w K mg base (L2.CX P w) 3 "integer_row" ["number"] [] (spM K 1 m_integer_row) := by
  refine has_m (k := 2) T.d_integer_row sc_integer_row (fun fd F => ⟨[], .nil, F.bindsN fun _ _ _ _ _ _ us hl => match us, hl with | [_], _ => rfl⟩) (fun cv A outer s H E F0 H0 pr np hg hr => ?_)
  exact (ms_cons (ms_if (mt_cmp (op_geD) (mv 0) me_int (nomark _))
    (ms_one (ms_ret (me_op (op_addD rfl) (me_frz (ml_lst (mv_cons me_int mv_nil))) (me_call (ok_plain_code T) rfl (fun _ => .nil) rfl (pxa rfl rfl rfl rfl) hg (hr.mono (by omega)) (by rfl) (ma_sl (i := 0) rfl (vz rfl) ma_nil) (alS al0)))))
    ms_nil)
    (ms_one (ms_ret (me_op (op_addD rfl) (me_frz (ml_lst (mv_cons me_int mv_nil))) (me_frz (ml_lc (own := [("digit", 1)]) (by intro i hi; exact np i (by revert i; decide)) (by decide) (tg_name 1) rfl sc_integer_row.nd (mi_data rfl (me_call (ok_plain_code T) rfl (fun _ => .nil) rfl (pxa rfl rfl rfl rfl) hg (hr.mono (by omega)) (by rfl) (ma_val (me_op (op_subD) (me_un un_negD me_int) (mv 0)) ma_nil) (alV al0))) (blkOk_by (own := [("digit", 1)]) (N := ["number", "digit"]) (sc := defScope s_integer_row) (by decide +kernel)) (fun _ _ _ _ _ => (mg_name (i := 1) (np 1 (by decide)) sc_integer_row.nd rfl (lz rfl))) (fun _ _ _ _ _ => mts_nil) (fun _ _ _ _ _ => (me_op (op_subD) me_int (mv 1)))))))))
theorem ok_Document___init__ (T : Txt K mg) : HasF P w K mg base (L2.CX P w) 3 (He.fAd K ("Document", some "__init__")) ["self", "data"] [] (spM K 2 m_Document___init__) := by
  refine has_mF (k := 2) T.d_Document___init__ sc_Document___init__ (fun fd F => ⟨[], .nil, F.bindsN fun _ _ _ _ _ _ us hl => match us, hl with | [_, _], _ => rfl⟩) (fun cv A outer s H E F0 H0 pr np hg hr => ?_)
  exact (ms_cons (ms_fld (i := 0) rfl T.f_data rfl (vz rfl) (mv 1))
    (ms_one (ms_fld (i := 0) rfl T.f_kind rfl (vz rfl) (me_ix rfl (me_cst (pe_glob (v := .ref (He.ga K "KINDS")) (by rfl) T.g_KINDS.1 rfl) (fun F => tupStr_ok T.g_KINDS.2 F)) (me_ixS (i := 1) rfl rfl (vz rfl) me_int)))))
theorem ok_document_of_row (T : Txt K mg) : Has P w K mg base (L2.CX P w) 5 "document_of_row" ["row"] [] (spM K 1 m_document_of_row) := by
  refine has_m (k := 4) T.d_document_of_row sc_document_of_row (fun fd F => ⟨[], .nil, F.bindsN fun _ _ _ _ _ _ us hl => match us, hl with | [_], _ => rfl⟩) (fun cv A outer s H E F0 H0 pr np hg hr => ?_)
  exact (ms_one (ms_ret (me_make (c := "Document") (ok_Document___init__ T) rfl T.k_Document T.c_Document (fun _ => .nil) rfl (pxa rfl rfl rfl rfl) hg (hr.mono (by omega)) (by rfl) (ma_val (me_callTy (call_tupleD rfl) (by rfl) T.m_tuple (by decide +kernel) (mv_cons (mv 0) mv_nil)) ma_nil) (alV al0))))
theorem ok_LooseReader___init__ (T : Txt K mg) : HasF P w K mg base (L2.CX P w) 2 (He.fAd K ("LooseReader", some "__init__")) ["self", "data"] [] (spM K 2 m_LooseReader___init__) := by
  refine has_mF (k := 1) T.d_LooseReader___init__ sc_LooseReader___init__ (fun fd F => ⟨[], .nil, F.bindsN fun _ _ _ _ _ _ us hl => match us, hl with | [_, _], _ => rfl⟩) (fun cv A outer s H E F0 H0 pr np hg hr => ?_)
  exact (ms_cons (ms_fld (i := 0) rfl T.f_row rfl (vz rfl) (me_callTy (call_tupleD rfl) (by rfl) T.m_tuple (by decide +kernel) (mv_cons (mv 1) mv_nil)))
    (ms_one (ms_fld (i := 0) rfl T.f_spot rfl (vz rfl) me_int)))
theorem ok_LooseReader_look (T : Txt K mg) : HasF P w K mg base (L2.CX P w) 3 (He.fAd K ("LooseReader", some "look")) ["self"] [] (spM K 1 m_LooseReader_look) := by
  refine has_mF (k := 2) T.d_LooseReader_look sc_LooseReader_look (fun fd F => ⟨[], .nil, F.bindsN fun _ _ _ _ _ _ us hl => match us, hl with | [_], _ => rfl⟩) (fun cv A outer s H E F0 H0 pr np hg hr => ?_)
  exact (ms_cons (ms_if (mt_cmp (op_geD) (me_fldO (i := 0) rfl T.f_spot rfl (vz rfl)) (me_callB (call_lenD' rfl) (by rfl) T.m_len PySem.boot_len (mv_cons (me_fldO (i := 0) rfl T.f_row rfl (vz rfl)) mv_nil)) (nomark _))
    (ms_one (ms_raise (k := 0) (er_Unfinished T) rfl rfl (takes_of rfl rfl rfl rfl) (hr.mono (by omega)) (by rfl) (me_callB (call_lenD' rfl) (by rfl) T.m_len PySem.boot_len (mv_cons (me_fldO (i := 0) rfl T.f_row rfl (vz rfl)) mv_nil))))
    ms_nil)
    (ms_cons (ms_if (mt_not (mt_truth rfl (me_call (ok_is_byte T) rfl (fun _ => .nil) rfl (pxa rfl rfl rfl rfl) hg (hr.mono (by omega)) (by rfl) (ma_val (me_ix rfl (me_fldO (i := 0) rfl T.f_row rfl (vz rfl)) (me_fldO (i := 0) rfl T.f_spot rfl (vz rfl))) ma_nil) (alV al0))))
    (ms_one (ms_raise (k := 0) (er_WrongByte T) rfl rfl (takes_of rfl rfl rfl rfl) (hr.mono (by omega)) (by rfl) (me_fldO (i := 0) rfl T.f_spot rfl (vz rfl))))
    ms_nil)
    (ms_one (ms_ret (me_ix rfl (me_fldO (i := 0) rfl T.f_row rfl (vz rfl)) (me_fldO (i := 0) rfl T.f_spot rfl (vz rfl)))))))
theorem ok_LooseReader_take (T : Txt K mg) : HasF P w K mg base (L2.CX P w) 4 (He.fAd K ("LooseReader", some "take")) ["self"] [] (spM K 1 m_LooseReader_take) := by
  refine has_mF (k := 3) T.d_LooseReader_take sc_LooseReader_take (fun fd F => ⟨[], .nil, F.bindsN fun _ _ _ _ _ _ us hl => match us, hl with | [_], _ => rfl⟩) (fun cv A outer s H E F0 H0 pr np hg hr => ?_)
  exact (ms_cons (ms_set (i := 1) (np 1 (by decide)) sc_LooseReader_take.nd rfl (lz rfl) (me_methO0 (i := 0) (c := "LooseReader") (ok_LooseReader_look T) rfl T.mt_LooseReader_look (fun _ => .nil) rfl (pxa rfl rfl rfl rfl) hg (hr.mono (by omega)) rfl (vz rfl)))
    (ms_cons (ms_fldAug (g2 := fun i j => i + j) (i := 0) in_add rfl T.f_spot rfl (vz rfl) me_int)
    (ms_one (ms_ret (mv 1)))))
theorem ok_LooseReader_take_code (T : Txt K mg) : HasF P w K mg base (L2.CX P w) 5 (He.fAd K ("LooseReader", some "take_code")) ["self", "is_flipped"] [] (spM K 2 m_LooseReader_take_code) := by
  refine has_mF (k := 4) T.d_LooseReader_take_code sc_LooseReader_take_code (fun fd F => ⟨[], .nil, F.bindsN fun _ _ _ _ _ _ us hl => match us, hl with | [_, _], _ => rfl⟩) (fun cv A outer s H E F0 H0 pr np hg hr => ?_)
  exact (ms_cons (ms_set (i := 2) (np 2 (by decide)) sc_LooseReader_take_code.nd rfl (lz rfl) me_int)
    (ms_cons (ms_if (mt_truS (i := 1) rfl rfl (vz rfl))
    (ms_one (ms_set (i := 2) (np 2 (by decide)) sc_LooseReader_take_code.nd rfl (lz rfl) me_int))
    ms_nil)
    (ms_cons (ms_set (i := 3) (np 3 (by decide)) sc_LooseReader_take_code.nd rfl (lz rfl) (me_op (op_xorD) (me_methO0 (i := 0) (c := "LooseReader") (ok_LooseReader_look T) rfl T.mt_LooseReader_look (fun _ => .nil) rfl (pxa rfl rfl rfl rfl) hg (hr.mono (by omega)) rfl (vz rfl)) (mv 2)))
    (ms_cons (ms_if (mt_cmp (op_eqDD rfl hr.units) (mv 3) me_int (nomark _))
    (ms_one (ms_raise (k := 0) (er_WrongByte T) rfl rfl (takes_of rfl rfl rfl rfl) (hr.mono (by omega)) (by rfl) (me_fldO (i := 0) rfl T.f_spot rfl (vz rfl))))
    ms_nil)
    (ms_cons (ms_fldAug (g2 := fun i j => i + j) (i := 0) in_add rfl T.f_spot rfl (vz rfl) me_int)
    (ms_cons (ms_if (mt_cmp (op_ltD' rfl hr.units) (mv 3) me_int (nomark _))
    (ms_one (ms_ret (mv 3)))
    ms_nil)
    (ms_cons (ms_set (i := 4) (np 4 (by decide)) sc_LooseReader_take_code.nd rfl (lz rfl) me_int)
    (ms_cons (ms_for (passes_of rfl) rfl (mi_range1 (by rfl) T.m_range (mv_cons (me_op (op_subD) (mv 3) me_int) mv_nil)) (mg_name (i := 5) (np 5 (by decide)) sc_LooseReader_take_code.nd rfl (lz rfl))
    (ms_one (ms_set (i := 4) (np 4 (by decide)) sc_LooseReader_take_code.nd rfl (lz rfl) (me_op (op_addD rfl) (me_op (op_mulD) (mv 4) me_int) (me_op (op_xorD) (me_methO0 (i := 0) (c := "LooseReader") (ok_LooseReader_take T) rfl T.mt_LooseReader_take (fun _ => .nil) rfl (pxa rfl rfl rfl rfl) hg (hr.mono (by omega)) rfl (vz rfl)) (mv 2))))))
    (ms_one (ms_ret (mv 4)))))))))))
theorem ok_LooseReader_take_gaps (T : Txt K mg) : HasF P w K mg base (L2.CX P w) 6 (He.fAd K ("LooseReader", some "take_gaps")) ["self"] [] (spM K 1 m_LooseReader_take_gaps) := by
  refine has_mF (k := 5) T.d_LooseReader_take_gaps sc_LooseReader_take_gaps (fun fd F => ⟨[], .nil, F.bindsN fun _ _ _ _ _ _ us hl => match us, hl with | [_], _ => rfl⟩) (fun cv A outer s H E F0 H0 pr np hg hr => ?_)
  exact (ms_one (ms_while (passes_of rfl) (mt_cmp (op_eqDD rfl hr.units) (me_methO0 (i := 0) (c := "LooseReader") (ok_LooseReader_look T) rfl T.mt_LooseReader_look (fun _ => .nil) rfl (pxa rfl rfl rfl rfl) hg (hr.mono (by omega)) rfl (vz rfl)) (me_cst (pe_glob (v := .int 15) (by rfl) T.g_GAP.choose_spec ⟨_, rfl⟩) (fun _ => .int _)) (nomark _))
    (ms_cons (ms_fldAug (g2 := fun i j => i + j) (i := 0) in_add rfl T.f_spot rfl (vz rfl) me_int)
    (ms_cons (ms_set (i := 1) (np 1 (by decide)) sc_LooseReader_take_gaps.nd rfl (lz rfl) (me_methO (i := 0) (c := "LooseReader") (ok_LooseReader_take_code T) rfl T.mt_LooseReader_take_code (fun _ => .nil) rfl (pxa rfl rfl rfl rfl) hg (hr.mono (by omega)) rfl (vz rfl) (ma_val me_bl ma_nil) (alV al0)))
    (ms_one (ms_for (passes_of rfl) rfl (mi_range1 (by rfl) T.m_range (mv_cons (mv 1) mv_nil)) (mg_name (i := 2) (np 2 (by decide)) sc_LooseReader_take_gaps.nd rfl (lz rfl))
    (ms_one (ms_expr (me_methO0 (i := 0) (c := "LooseReader") (ok_LooseReader_take T) rfl T.mt_LooseReader_take (fun _ => .nil) rfl (pxa rfl rfl rfl rfl) hg (hr.mono (by omega)) rfl (vz rfl))))))))))
theorem ok_LooseReader_take_kind (T : Txt K mg) : HasF P w K mg base (L2.CX P w) 7 (He.fAd K ("LooseReader", some "take_kind")) ["self", "kinds"] [] (spM K 2 m_LooseReader_take_kind) := by
  refine has_mF (k := 6) T.d_LooseReader_take_kind sc_LooseReader_take_kind (fun fd F => ⟨[], .nil, F.bindsN fun _ _ _ _ _ _ us hl => match us, hl with | [_, _], _ => rfl⟩) (fun cv A outer s H E F0 H0 pr np hg hr => ?_)
  exact (ms_cons (ms_expr (me_methO0 (i := 0) (c := "LooseReader") (ok_LooseReader_take_gaps T) rfl T.mt_LooseReader_take_gaps (fun _ => .nil) rfl (pxa rfl rfl rfl rfl) hg (hr.mono (by omega)) rfl (vz rfl)))
    (ms_cons (ms_set (i := 2) (np 2 (by decide)) sc_LooseReader_take_kind.nd rfl (lz rfl) (me_methO0 (i := 0) (c := "LooseReader") (ok_LooseReader_look T) rfl T.mt_LooseReader_look (fun _ => .nil) rfl (pxa rfl rfl rfl rfl) hg (hr.mono (by omega)) rfl (vz rfl)))
    (ms_cons (ms_if (mt_cmp (op_notInD rfl) (mv 2) (mv 1) (by rfl))
    (ms_one (ms_raise (k := 0) (er_WrongByte T) rfl rfl (takes_of rfl rfl rfl rfl) (hr.mono (by omega)) (by rfl) (me_fldO (i := 0) rfl T.f_spot rfl (vz rfl))))
    ms_nil)
    (ms_cons (ms_fldAug (g2 := fun i j => i + j) (i := 0) in_add rfl T.f_spot rfl (vz rfl) me_int)
    (ms_one (ms_ret (mv 2)))))))
theorem ok_LooseReader_take_content (T : Txt K mg) : HasF P w K mg base (L2.CX P w) 6 (He.fAd K ("LooseReader", some "take_content")) ["self", "kind"] [] (spM K 2 m_LooseReader_take_content) := by
  refine has_mF (k := 5) T.d_LooseReader_take_content sc_LooseReader_take_content (fun fd F => ⟨[], .nil, F.bindsN fun _ _ _ _ _ _ us hl => match us, hl with | [_, _], _ => rfl⟩) (fun cv A outer s H E F0 H0 pr np hg hr => ?_)
  exact (ms_cons (ms_set (i := 2) (np 2 (by decide)) sc_LooseReader_take_content.nd rfl (lz rfl) (me_methO (i := 0) (c := "LooseReader") (ok_LooseReader_take_code T) rfl T.mt_LooseReader_take_code (fun _ => .nil) rfl (pxa rfl rfl rfl rfl) hg (hr.mono (by omega)) rfl (vz rfl) (ma_val me_bl ma_nil) (alV al0)))
    (ms_cons (ms_setL (i := 3) (np 3 (by decide)) sc_LooseReader_take_content.nd rfl (lz rfl) (ml_lst mv_nil))
    (ms_cons (ms_for (passes_of rfl) rfl (mi_range1 (by rfl) T.m_range (mv_cons (mv 2) mv_nil)) (mg_name (i := 4) (np 4 (by decide)) sc_LooseReader_take_content.nd rfl (lz rfl))
    (ms_cons (ms_set (i := 5) (np 5 (by decide)) sc_LooseReader_take_content.nd rfl (lz rfl) (me_methO0 (i := 0) (c := "LooseReader") (ok_LooseReader_look T) rfl T.mt_LooseReader_look (fun _ => .nil) rfl (pxa rfl rfl rfl rfl) hg (hr.mono (by omega)) rfl (vz rfl)))
    (ms_cons (ms_if (PW.pt (mw_and (mt_cmp (op_eqDD rfl hr.units) (mv 1) me_int (nomark _)) (mw_and1 (mt_not (mt_truth rfl (me_call (ok_is_char_code T) rfl (fun _ => .nil) rfl (pxa rfl rfl rfl rfl) hg (hr.mono (by omega)) (by rfl) (ma_sl (i := 5) rfl (vz rfl) ma_nil) (alS al0)))))))
    (ms_one (ms_raise (k := 0) (er_WrongByte T) rfl rfl (takes_of rfl rfl rfl rfl) (hr.mono (by omega)) (by rfl) (me_fldO (i := 0) rfl T.f_spot rfl (vz rfl))))
    ms_nil)
    (ms_cons (ms_fldAug (g2 := fun i j => i + j) (i := 0) in_add rfl T.f_spot rfl (vz rfl) me_int)
    (ms_one (ms_expr (me_mt (i := 3) (md_append _) rfl PySem.F.slot_list_append PySem.F.type_list_append mt_append rfl (vz rfl) (mv_cons (mv 5) mv_nil))))))))
    (ms_one (ms_retS (i := 3) (np 3 (by decide)) rfl (vz rfl))))))
theorem ok_LooseReader_take_scalar (T : Txt K mg) : HasF P w K mg base (L2.CX P w) 8 (He.fAd K ("LooseReader", some "take_scalar")) ["self", "kind"] [] (spM K 2 m_LooseReader_take_scalar) := by
  refine has_mF (k := 7) T.d_LooseReader_take_scalar sc_LooseReader_take_scalar (fun fd F => ⟨[], .nil, F.bindsN fun _ _ _ _ _ _ us hl => match us, hl with | [_, _], _ => rfl⟩) (fun cv A outer s H E F0 H0 pr np hg hr => ?_)
  exact (ms_cons (ms_if (mt_cmp (op_leD) (mv 1) me_int (nomark _))
    (ms_one (ms_ret (me_frz (ml_lst (mv_cons (mv 1) mv_nil)))))
    ms_nil)
    (ms_cons (ms_if (mt_cmp (op_eqDD rfl hr.units) (mv 1) me_int (nomark _))
    (ms_one (ms_ret (me_call (ok_integer_row T) rfl (fun _ => .nil) rfl (pxa rfl rfl rfl rfl) hg (hr.mono (by omega)) (by rfl) (ma_val (me_op (op_subD) (me_un un_negD me_int) (me_methO (i := 0) (c := "LooseReader") (ok_LooseReader_take_code T) rfl T.mt_LooseReader_take_code (fun _ => .nil) rfl (pxa rfl rfl rfl rfl) hg (hr.mono (by omega)) rfl (vz rfl) (ma_val me_bl ma_nil) (alV al0))) ma_nil) (alV al0))))
    ms_nil)
    (ms_cons (ms_if (mt_cmp (op_eqDD rfl hr.units) (mv 1) me_int (nomark _))
    (ms_one (ms_ret (me_call (ok_integer_row T) rfl (fun _ => .nil) rfl (pxa rfl rfl rfl rfl) hg (hr.mono (by omega)) (by rfl) (ma_val (me_methO (i := 0) (c := "LooseReader") (ok_LooseReader_take_code T) rfl T.mt_LooseReader_take_code (fun _ => .nil) rfl (pxa rfl rfl rfl rfl) hg (hr.mono (by omega)) rfl (vz rfl) (ma_val me_bl ma_nil) (alV al0)) ma_nil) (alV al0))))
    ms_nil)
    (ms_cons (ms_if (PW.pt (mw_or (mt_cmp (op_eqDD rfl hr.units) (mv 1) me_int (nomark _)) (mw_or1 (mt_cmp (op_eqDD rfl hr.units) (mv 1) me_int (nomark _)))))
    (ms_cons (ms_set (i := 2) (np 2 (by decide)) sc_LooseReader_take_scalar.nd rfl (lz rfl) (me_methO (i := 0) (c := "LooseReader") (ok_LooseReader_take_content T) rfl T.mt_LooseReader_take_content (fun _ => .nil) rfl (pxa rfl rfl rfl rfl) hg (hr.mono (by omega)) rfl (vz rfl) (ma_sl (i := 1) rfl (vz rfl) ma_nil) (alS al0)))
    (ms_one (ms_ret (me_op (op_addD rfl) (me_op (op_addD rfl) (me_frz (ml_lst (mv_cons (mv 1) mv_nil))) (me_call (ok_plain_code T) rfl (fun _ => .nil) rfl (pxa rfl rfl rfl rfl) hg (hr.mono (by omega)) (by rfl) (ma_val (me_lenS (i := 2) rfl rfl (vz rfl) (by rfl) T.m_len) ma_nil) (alV al0))) (mv 2)))))
    ms_nil)
    (ms_cons (ms_setL (i := 2) (np 2 (by decide)) sc_LooseReader_take_scalar.nd rfl (lz rfl) (ml_lst mv_nil))
    (ms_cons (ms_while (passes_of rfl) (mt_cmp (op_neDD rfl hr.units) (me_methO (i := 0) (c := "LooseReader") (ok_LooseReader_take_kind T) rfl T.mt_LooseReader_take_kind (fun _ => .nil) rfl (pxa rfl rfl rfl rfl) hg (hr.mono (by omega)) rfl (vz rfl) (ma_val (me_tup (mv_cons me_int (mv_cons (me_op (op_subD) (mv 1) me_int) mv_nil))) ma_nil) (alV al0)) me_int (nomark _))
    (ms_one (ms_expr (me_mt (i := 2) (md_extend _) rfl PySem.F.slot_list_extend PySem.F.type_list_extend mt_extend rfl (vz rfl) (mv_cons (me_methO (i := 0) (c := "LooseReader") (ok_LooseReader_take_content T) rfl T.mt_LooseReader_take_content (fun _ => .nil) rfl (pxa rfl rfl rfl rfl) hg (hr.mono (by omega)) rfl (vz rfl) (ma_val (me_op (op_subD) (mv 1) me_int) ma_nil) (alV al0)) mv_nil)))))
    (ms_one (ms_ret (me_op (op_addD rfl) (me_op (op_addD rfl) (me_frz (ml_lst (mv_cons (me_op (op_subD) (mv 1) me_int) mv_nil))) (me_call (ok_plain_code T) rfl (fun _ => .nil) rfl (pxa rfl rfl rfl rfl) hg (hr.mono (by omega)) (by rfl) (ma_val (me_lenS (i := 2) rfl rfl (vz rfl) (by rfl) T.m_len) ma_nil) (alV al0))) (mv 2))))))))))
theorem ok_LooseReader_take_parts (T : Txt K mg) {n : Nat} {rec : MF} (ih : HasF P w K mg base (L2.CX P w) n (He.fAd K ("LooseReader", some "take_item")) ["self", "room"] [] (spM K 2 rec)) (hn : 10 ≤ n) : HasF P w K mg base (L2.CX P w) (n + 1) (He.fAd K ("LooseReader", some "take_parts")) ["self", "rows", "room"] [] (spM K 3 (m_LooseReader_take_parts w rec)) := by
  refine has_mF (k := n + 0) T.d_LooseReader_take_parts sc_LooseReader_take_parts (fun fd F => ⟨[], .nil, F.bindsN fun _ _ _ _ _ _ us hl => match us, hl with | [_, _, _], _ => rfl⟩) (fun cv A outer s H E F0 H0 pr np hg hr => ?_)
  exact (ms_cons (ms_set (i := 3) (np 3 (by decide)) sc_LooseReader_take_parts.nd rfl (lz rfl) (me_methO (i := 0) (c := "LooseReader") (ok_LooseReader_take_code T) rfl T.mt_LooseReader_take_code (fun _ => .nil) rfl (pxa rfl rfl rfl rfl) hg (hr.mono (by omega)) rfl (vz rfl) (ma_val me_bl ma_nil) (alV al0)))
    (ms_one (ms_for (passes_of rfl) rfl (mi_range1 (by rfl) T.m_range (mv_cons (mv 3) mv_nil)) (mg_name (i := 4) (np 4 (by decide)) sc_LooseReader_take_parts.nd rfl (lz rfl))
    (ms_one (ms_expr (me_mt (i := 1) (md_append _) rfl PySem.F.slot_list_append PySem.F.type_list_append mt_append rfl (vz rfl) (mv_cons (me_methO (i := 0) (c := "LooseReader") (ih) rfl T.mt_LooseReader_take_item (fun _ => .nil) rfl (pxa rfl rfl rfl rfl) hg (hr.mono (by omega)) rfl (vz rfl) (ma_val (me_op (op_subD) (mv 2) me_int) ma_nil) (alV al0)) mv_nil)))))))
theorem ok_LooseReader_take_pairs (T : Txt K mg) {n : Nat} {rec : MF} (ih : HasF P w K mg base (L2.CX P w) n (He.fAd K ("LooseReader", some "take_item")) ["self", "room"] [] (spM K 2 rec)) (hn : 10 ≤ n) : HasF P w K mg base (L2.CX P w) (n + 1) (He.fAd K ("LooseReader", some "take_pairs")) ["self", "table", "room"] [] (spM K 3 (m_LooseReader_take_pairs w rec)) := by
  refine has_mF (k := n + 0) T.d_LooseReader_take_pairs sc_LooseReader_take_pairs (fun fd F => ⟨[], .nil, F.bindsN fun _ _ _ _ _ _ us hl => match us, hl with | [_, _, _], _ => rfl⟩) (fun cv A outer s H E F0 H0 pr np hg hr => ?_)
  exact (ms_cons (ms_set (i := 3) (np 3 (by decide)) sc_LooseReader_take_pairs.nd rfl (lz rfl) (me_methO (i := 0) (c := "LooseReader") (ok_LooseReader_take_code T) rfl T.mt_LooseReader_take_code (fun _ => .nil) rfl (pxa rfl rfl rfl rfl) hg (hr.mono (by omega)) rfl (vz rfl) (ma_val me_bl ma_nil) (alV al0)))
    (ms_one (ms_for (passes_of rfl) rfl (mi_range1 (by rfl) T.m_range (mv_cons (mv 3) mv_nil)) (mg_name (i := 4) (np 4 (by decide)) sc_LooseReader_take_pairs.nd rfl (lz rfl))
    (ms_cons (ms_set (i := 5) (np 5 (by decide)) sc_LooseReader_take_pairs.nd rfl (lz rfl) (me_methO (i := 0) (c := "LooseReader") (ok_LooseReader_take_kind T) rfl T.mt_LooseReader_take_kind (fun _ => .nil) rfl (pxa rfl rfl rfl rfl) hg (hr.mono (by omega)) rfl (vz rfl) (ma_val (me_cst (pe_glob (v := .ref (He.ga K "KEYS")) (by rfl) T.g_KEYS.1 rfl) (fun F => dataRef T.g_KEYS.2 F)) ma_nil) (alV al0)))
    (ms_cons (ms_set (i := 6) (np 6 (by decide)) sc_LooseReader_take_pairs.nd rfl (lz rfl) (me_op (op_subD) (me_fldO (i := 0) rfl T.f_spot rfl (vz rfl)) me_int))
    (ms_cons (ms_set (i := 7) (np 7 (by decide)) sc_LooseReader_take_pairs.nd rfl (lz rfl) (me_callTy (call_tupleD rfl) (by rfl) T.m_tuple (by decide +kernel) (mv_cons (me_methO (i := 0) (c := "LooseReader") (ok_LooseReader_take_scalar T) rfl T.mt_LooseReader_take_scalar (fun _ => .nil) rfl (pxa rfl rfl rfl rfl) hg (hr.mono (by omega)) rfl (vz rfl) (ma_sl (i := 5) rfl (vz rfl) ma_nil) (alS al0)) mv_nil)))
    (ms_cons (ms_if (mt_dinO (i := 1) rfl rfl hr.units (mv 7) rfl (vz rfl) (by rfl))
    (ms_one (ms_raise (k := 0) (er_DuplicateKey T) rfl rfl (takes_of rfl rfl rfl rfl) (hr.mono (by omega)) (by rfl) (mv 6)))
    ms_nil)
    (ms_one (ms_dput (i := 1) rfl rfl hr.units rfl (vz rfl) (mv 7) (me_methO (i := 0) (c := "LooseReader") (ih) rfl T.mt_LooseReader_take_item (fun _ => .nil) rfl (pxa rfl rfl rfl rfl) hg (hr.mono (by omega)) rfl (vz rfl) (ma_val (me_op (op_subD) (mv 2) me_int) ma_nil) (alV al0)))))))))))
theorem ok_LooseReader_take_list (T : Txt K mg) {n : Nat} {rec : MF} (ih : HasF P w K mg base (L2.CX P w) n (He.fAd K ("LooseReader", some "take_item")) ["self", "room"] [] (spM K 2 rec)) (hn : 10 ≤ n) : HasF P w K mg base (L2.CX P w) (n + 2) (He.fAd K ("LooseReader", some "take_list")) ["self", "kind", "room"] [] (spM K 3 (m_LooseReader_take_list w rec)) := by
  refine has_mF (k := n + 1) T.d_LooseReader_take_list sc_LooseReader_take_list (fun fd F => ⟨[], .nil, F.bindsN fun _ _ _ _ _ _ us hl => match us, hl with | [_, _, _], _ => rfl⟩) (fun cv A outer s H E F0 H0 pr np hg hr => ?_)
  exact (ms_cons (ms_setL (i := 3) (np 3 (by decide)) sc_LooseReader_take_list.nd rfl (lz rfl) (ml_lst mv_nil))
    (ms_cons (ms_if (mt_cmp (op_eqDD rfl hr.units) (mv 1) me_int (nomark _))
    (ms_one (ms_expr (me_methO (i := 0) (c := "LooseReader") (ok_LooseReader_take_parts T ih (by omega)) rfl T.mt_LooseReader_take_parts (fun _ => .nil) rfl (pxa rfl rfl rfl rfl) hg (hr.mono (by omega)) rfl (vz rfl) (ma_sl (i := 3) rfl (vz rfl) (ma_sl (i := 2) rfl (vz rfl) ma_nil)) (alS (alS al0)))))
    (ms_one (ms_while (passes_of rfl) (mt_cmp (op_neDD rfl hr.units) (me_methO (i := 0) (c := "LooseReader") (ok_LooseReader_take_kind T) rfl T.mt_LooseReader_take_kind (fun _ => .nil) rfl (pxa rfl rfl rfl rfl) hg (hr.mono (by omega)) rfl (vz rfl) (ma_val (me_tup (mv_cons me_int (mv_cons me_int mv_nil))) ma_nil) (alV al0)) me_int (nomark _))
    (ms_one (ms_expr (me_methO (i := 0) (c := "LooseReader") (ok_LooseReader_take_parts T ih (by omega)) rfl T.mt_LooseReader_take_parts (fun _ => .nil) rfl (pxa rfl rfl rfl rfl) hg (hr.mono (by omega)) rfl (vz rfl) (ma_sl (i := 3) rfl (vz rfl) (ma_sl (i := 2) rfl (vz rfl) ma_nil)) (alS (alS al0))))))))
    (ms_cons (ms_setL (i := 4) (np 4 (by decide)) sc_LooseReader_take_list.nd rfl (lz rfl) (ml_op op_catL (me_frz (ml_lst (mv_cons me_int mv_nil))) (me_call (ok_plain_code T) rfl (fun _ => .nil) rfl (pxa rfl rfl rfl rfl) hg (hr.mono (by omega)) (by rfl) (ma_val (me_lenS (i := 3) rfl rfl (vz rfl) (by rfl) T.m_len) ma_nil) (alV al0))))
    (ms_cons (ms_for (passes_of rfl) rfl (mi_data rfl (mv 3)) (mg_name (i := 5) (np 5 (by decide)) sc_LooseReader_take_list.nd rfl (lz rfl))
    (ms_one (ms_expr (me_mt (i := 4) (md_extend _) rfl PySem.F.slot_list_extend PySem.F.type_list_extend mt_extend rfl (vz rfl) (mv_cons (mv 5) mv_nil)))))
    (ms_one (ms_retS (i := 4) (np 4 (by decide)) rfl (vz rfl)))))))
theorem ok_LooseReader_take_map (T : Txt K mg) {n : Nat} {rec : MF} (ih : HasF P w K mg base (L2.CX P w) n (He.fAd K ("LooseReader", some "take_item")) ["self", "room"] [] (spM K 2 rec)) (hn : 10 ≤ n) : HasF P w K mg base (L2.CX P w) (n + 2) (He.fAd K ("LooseReader", some "take_map")) ["self", "kind", "room"] [] (spM K 3 (m_LooseReader_take_map w rec)) := by
  refine has_mF (k := n + 1) T.d_LooseReader_take_map sc_LooseReader_take_map (fun fd F => ⟨[], .nil, F.bindsN fun _ _ _ _ _ _ us hl => match us, hl with | [_, _, _], _ => rfl⟩) (fun cv A outer s H E F0 H0 pr np hg hr => ?_)
  exact (ms_cons (ms_setN (i := 3) (np 3 (by decide)) sc_LooseReader_take_map.nd rfl (lz rfl) mn_dict0)
    (ms_cons (ms_if (mt_cmp (op_eqDD rfl hr.units) (mv 1) me_int (nomark _))
    (ms_one (ms_expr (me_methO (i := 0) (c := "LooseReader") (ok_LooseReader_take_pairs T ih (by omega)) rfl T.mt_LooseReader_take_pairs (fun _ => .nil) rfl (pxa rfl rfl rfl rfl) hg (hr.mono (by omega)) rfl (vz rfl) (ma_sl (i := 3) rfl (vz rfl) (ma_sl (i := 2) rfl (vz rfl) ma_nil)) (alS (alS al0)))))
    (ms_one (ms_while (passes_of rfl) (mt_cmp (op_neDD rfl hr.units) (me_methO (i := 0) (c := "LooseReader") (ok_LooseReader_take_kind T) rfl T.mt_LooseReader_take_kind (fun _ => .nil) rfl (pxa rfl rfl rfl rfl) hg (hr.mono (by omega)) rfl (vz rfl) (ma_val (me_tup (mv_cons me_int (mv_cons me_int mv_nil))) ma_nil) (alV al0)) me_int (nomark _))
    (ms_one (ms_expr (me_methO (i := 0) (c := "LooseReader") (ok_LooseReader_take_pairs T ih (by omega)) rfl T.mt_LooseReader_take_pairs (fun _ => .nil) rfl (pxa rfl rfl rfl rfl) hg (hr.mono (by omega)) rfl (vz rfl) (ma_sl (i := 3) rfl (vz rfl) (ma_sl (i := 2) rfl (vz rfl) ma_nil)) (alS (alS al0))))))))
    (ms_cons (ms_setL (i := 4) (np 4 (by decide)) sc_LooseReader_take_map.nd rfl (lz rfl) (ml_op op_catL (me_frz (ml_lst (mv_cons me_int mv_nil))) (me_call (ok_plain_code T) rfl (fun _ => .nil) rfl (pxa rfl rfl rfl rfl) hg (hr.mono (by omega)) (by rfl) (ma_val (me_callB (call_lenDD rfl) (by rfl) T.m_len PySem.boot_len (mv_cons (mv 3) mv_nil)) ma_nil) (alV al0))))
    (ms_cons (ms_for (passes_of rfl) rfl (mi_data rfl (me_frz (ml_callB (call_sortTD rfl (Nat.lt_of_le_of_lt (Nat.add_le_add_left (by decide) _) (room65 hr))) (by rfl) T.m_sorted (by decide +kernel) (mv_cons (me_frz (ml_callTy (call_listDD rfl rfl) (by rfl) T.m_list (by decide +kernel) (mv_cons (mv 3) mv_nil))) mv_nil)))) (mg_name (i := 5) (np 5 (by decide)) sc_LooseReader_take_map.nd rfl (lz rfl))
    (ms_cons (ms_expr (me_mt (i := 4) (md_extend2 rfl) rfl PySem.F.slot_list_extend PySem.F.type_list_extend mt_extend2 rfl (vz rfl) (mv_cons (mv 5) mv_nil)))
    (ms_one (ms_expr (me_mt (i := 4) (md_extend2 rfl) rfl PySem.F.slot_list_extend PySem.F.type_list_extend mt_extend2 rfl (vz rfl) (mv_cons (me_dix rfl rfl hr.units (mv 3) (mv 5)) mv_nil))))))
    (ms_one (ms_retS (i := 4) (np 4 (by decide)) rfl (vz rfl)))))))
theorem ok_LooseReader_take_item (T : Txt K mg) : ∀ n, HasF P w K mg base (L2.CX P w) (3 * n + 10) (He.fAd K ("LooseReader", some "take_item")) ["self", "room"] [] (spM K 2 (m_LooseReader_take_item w n))
  | 0 => has_stuckF T.d_LooseReader_take_item sc_LooseReader_take_item (fun fd F => ⟨[], .nil, F.bindsN fun _ _ _ _ _ _ us hl => match us, hl with | [_, _], _ => rfl⟩)
  | n + 1 => by
    have ih := ok_LooseReader_take_item T n
    refine has_mF (k := 3 * n + 12) T.d_LooseReader_take_item sc_LooseReader_take_item (fun fd F => ⟨[], .nil, F.bindsN fun _ _ _ _ _ _ us hl => match us, hl with | [_, _], _ => rfl⟩) (fun cv A outer s H E F0 H0 pr np hg hr => ?_)
    exact (ms_cons (ms_set (i := 2) (np 2 (by decide)) sc_LooseReader_take_item.nd rfl (lz rfl) (me_cst (pe_glob (v := .ref (He.ga K "SCALARS")) (by rfl) T.g_SCALARS.1 rfl) (fun F => dataRef T.g_SCALARS.2 F)))
      (ms_cons (ms_if (mt_cmp (op_gtD) (mv 1) me_int (nomark _))
      (ms_one (ms_set (i := 2) (np 2 (by decide)) sc_LooseReader_take_item.nd rfl (lz rfl) (me_op (op_addD rfl) (me_cst (pe_glob (v := .ref (He.ga K "SCALARS")) (by rfl) T.g_SCALARS.1 rfl) (fun F => dataRef T.g_SCALARS.2 F)) (me_cst (pe_glob (v := .ref (He.ga K "NESTS")) (by rfl) T.g_NESTS.1 rfl) (fun F => dataRef T.g_NESTS.2 F)))))
      ms_nil)
      (ms_cons (ms_set (i := 3) (np 3 (by decide)) sc_LooseReader_take_item.nd rfl (lz rfl) (me_methO (i := 0) (c := "LooseReader") (ok_LooseReader_take_kind T) rfl T.mt_LooseReader_take_kind (fun _ => .nil) rfl (pxa rfl rfl rfl rfl) hg (hr.mono (by omega)) rfl (vz rfl) (ma_sl (i := 2) rfl (vz rfl) ma_nil) (alS al0)))
      (ms_cons (ms_if (mt_cmp (op_inD rfl) (mv 3) (me_cst (pe_glob (v := .ref (He.ga K "SCALARS")) (by rfl) T.g_SCALARS.1 rfl) (fun F => dataRef T.g_SCALARS.2 F)) (by rfl))
      (ms_one (ms_ret (me_methO (i := 0) (c := "LooseReader") (ok_LooseReader_take_scalar T) rfl T.mt_LooseReader_take_scalar (fun _ => .nil) rfl (pxa rfl rfl rfl rfl) hg (hr.mono (by omega)) rfl (vz rfl) (ma_sl (i := 3) rfl (vz rfl) ma_nil) (alS al0))))
      ms_nil)
      (ms_cons (ms_if (mt_cmp (op_eqDD rfl hr.units) (mv 3) me_int (nomark _))
      (ms_cons (ms_set (i := 4) (np 4 (by decide)) sc_LooseReader_take_item.nd rfl (lz rfl) (me_methO (i := 0) (c := "LooseReader") (ok_LooseReader_take_code T) rfl T.mt_LooseReader_take_code (fun _ => .nil) rfl (pxa rfl rfl rfl rfl) hg (hr.mono (by omega)) rfl (vz rfl) (ma_val me_bl ma_nil) (alV al0)))
      (ms_one (ms_ret (me_op (op_addD rfl) (me_op (op_addD rfl) (me_frz (ml_lst (mv_cons me_int mv_nil))) (me_call (ok_plain_code T) rfl (fun _ => .nil) rfl (pxa rfl rfl rfl rfl) hg (hr.mono (by omega)) (by rfl) (ma_sl (i := 4) rfl (vz rfl) ma_nil) (alS al0))) (me_methO (i := 0) (c := "LooseReader") (ih) rfl T.mt_LooseReader_take_item (fun _ => .nil) rfl (pxa rfl rfl rfl rfl) hg (hr.mono (by omega)) rfl (vz rfl) (ma_val (me_op (op_subD) (mv 1) me_int) ma_nil) (alV al0))))))
      ms_nil)
      (ms_cons (ms_if (PW.pt (mw_or (mt_cmp (op_eqDD rfl hr.units) (mv 3) me_int (nomark _)) (mw_or1 (mt_cmp (op_eqDD rfl hr.units) (mv 3) me_int (nomark _)))))
      (ms_one (ms_ret (me_methO (i := 0) (c := "LooseReader") (ok_LooseReader_take_list T ih (by omega)) rfl T.mt_LooseReader_take_list (fun _ => .nil) rfl (pxa rfl rfl rfl rfl) hg (hr.mono (by omega)) rfl (vz rfl) (ma_sl (i := 3) rfl (vz rfl) (ma_sl (i := 1) rfl (vz rfl) ma_nil)) (alS (alS al0)))))
      ms_nil)
      (ms_one (ms_ret (me_methO (i := 0) (c := "LooseReader") (ok_LooseReader_take_map T ih (by omega)) rfl T.mt_LooseReader_take_map (fun _ => .nil) rfl (pxa rfl rfl rfl rfl) hg (hr.mono (by omega)) rfl (vz rfl) (ma_sl (i := 3) rfl (vz rfl) (ma_sl (i := 1) rfl (vz rfl) ma_nil)) (alS (alS al0)))))))))))
theorem ok_shorten (T : Txt K mg) : Has P w K mg base (L2.CX P w) 95 "shorten" ["data"] [] (spM K 1 (m_shorten w)) := by
  refine has_m (k := 94) T.d_shorten sc_shorten (fun fd F => ⟨[], .nil, F.bindsN fun _ _ _ _ _ _ us hl => match us, hl with | [_], _ => rfl⟩) (fun cv A outer s H E F0 H0 pr np hg hr => ?_)
  exact (ms_cons (ms_setS (i := 1) (np 1 (by decide)) sc_shorten.nd rfl (lz rfl) (msl_make (c := "LooseReader") (ok_LooseReader___init__ T) rfl T.k_LooseReader T.c_LooseReader (fun _ => .nil) rfl (pxa rfl rfl rfl rfl) hg (hr.mono (by omega)) (by rfl) (ma_sl (i := 0) rfl (vz rfl) ma_nil) (alS al0)))
    (ms_cons (ms_set (i := 2) (np 2 (by decide)) sc_shorten.nd rfl (lz rfl) (me_methO (i := 1) (c := "LooseReader") (ok_LooseReader_take_item T 26) rfl T.mt_LooseReader_take_item (fun _ => .nil) rfl (pxa rfl rfl rfl rfl) hg (hr.mono (by omega)) rfl (vz rfl) (ma_val (me_cst (pe_glob (v := .int (24)) (by rfl) T.g_DEEPEST.choose_spec ⟨_, rfl⟩) (fun _ => .int _)) ma_nil) (alV al0)))
    (ms_cons (ms_if (mt_cmp (op_ltD' rfl hr.units) (me_fldO (i := 1) rfl T.f_spot rfl (vz rfl)) (me_callB (call_lenD' rfl) (by rfl) T.m_len PySem.boot_len (mv_cons (me_fldO (i := 1) rfl T.f_row rfl (vz rfl)) mv_nil)) (nomark _))
    (ms_one (ms_raise (k := 0) (er_WrongByte T) rfl rfl (takes_of rfl rfl rfl rfl) (hr.mono (by omega)) (by rfl) (me_fldO (i := 1) rfl T.f_spot rfl (vz rfl))))
    ms_nil)
    (ms_one (ms_ret (me_call (ok_document_of_row T) rfl (fun _ => .nil) rfl (pxa rfl rfl rfl rfl) hg (hr.mono (by omega)) (by rfl) (ma_sl (i := 2) rfl (vz rfl) ma_nil) (alS al0)))))))
theorem ok__law_digits (T : Txt K mg) : Has P w K mg base (L2.CX P w) 1 "_law_digits" ["_law_number_here"] [] (spM K 1 m__law_digits) := by
  refine has_m (k := 0) T.d__law_digits sc__law_digits (fun fd F => ⟨[], .nil, F.bindsN fun _ _ _ _ _ _ us hl => match us, hl with | [_], _ => rfl⟩) (fun cv A outer s H E F0 H0 pr np hg hr => ?_)
  exact (ms_cons (ms_set (i := 1) (np 1 (by decide)) sc__law_digits.nd rfl (lz rfl) (me_frz (ml_lst mv_nil)))
    (ms_cons (ms_while (passes_of rfl) (mt_cmp (op_gtD) (mv 0) me_int (nomark _))
    (ms_cons (ms_set (i := 1) (np 1 (by decide)) sc__law_digits.nd rfl (lz rfl) (me_op (op_addD rfl) (me_frz (ml_lst (mv_cons (me_op (op_modD) (me_callTy (call_intD) (by rfl) T.m_int (by decide +kernel) (mv_cons (mv 0) mv_nil)) me_int) mv_nil))) (mv 1)))
    (ms_one (ms_set (i := 0) (np 0 (by decide)) sc__law_digits.nd rfl (lz rfl) (me_op (op_fdivD) (mv 0) me_int)))))
    (ms_one (ms_ret (mv 1)))))
theorem ok__law_loose_code (T : Txt K mg) : Has P w K mg base (L2.CX P w) 3 "_law_loose_code" ["_law_bag_here", "_law_number_here"] [] (spM K 2 m__law_loose_code) := by
  refine has_m (k := 2) T.d__law_loose_code sc__law_loose_code (fun fd F => ⟨[], .nil, F.bindsN fun _ _ _ _ _ _ us hl => match us, hl with | [_, _], _ => rfl⟩) (fun cv A outer s H E F0 H0 pr np hg hr => ?_)
  exact (ms_cons (ms_set (i := 2) (np 2 (by decide)) sc__law_loose_code.nd rfl (lz rfl) (me_call (ok__law_digits T) rfl (fun _ => .nil) rfl (pxa rfl rfl rfl rfl) hg (hr.mono (by omega)) (by rfl) (ma_sl (i := 1) rfl (vz rfl) ma_nil) (alS al0)))
    (ms_cons (ms_set (i := 3) (np 3 (by decide)) sc__law_loose_code.nd rfl (lz rfl) (me_op (op_subD) me_int (me_lenS (i := 2) rfl rfl (vz rfl) (by rfl) T.m_len)))
    (ms_cons (ms_set (i := 4) (np 4 (by decide)) sc__law_loose_code.nd rfl (lz rfl) (me_ix rfl (me_frz (ml_lst (mv_cons me_int (mv_cons me_int (mv_cons (mv 3) (mv_cons (me_call (ok__law_take T) rfl (fun _ => .nil) rfl (pxa rfl rfl rfl rfl) hg (hr.mono (by omega)) (by rfl) (ma_sl (i := 0) rfl (vz rfl) (ma_val (me_op (op_addD rfl) (mv 3) me_int) ma_nil)) (alS (alV al0))) mv_nil)))))) (me_call (ok__law_take T) rfl (fun _ => .nil) rfl (pxa rfl rfl rfl rfl) hg (hr.mono (by omega)) (by rfl) (ma_sl (i := 0) rfl (vz rfl) (ma_val me_int ma_nil)) (alS (alV al0)))))
    (ms_cons (ms_set (i := 5) (np 5 (by decide)) sc__law_loose_code.nd rfl (lz rfl) (me_op (op_addD rfl) (me_op (op_mulDL) (me_frz (ml_lst (mv_cons me_int mv_nil))) (me_callB (call_minD rfl) (by rfl) T.m_min (by decide +kernel) (mv_cons (me_callTy (call_intD) (by rfl) T.m_int (by decide +kernel) (mv_cons (mv 4) mv_nil)) (mv_cons (me_op (op_subD) me_int (me_lenS (i := 2) rfl rfl (vz rfl) (by rfl) T.m_len)) mv_nil)))) (mv 2)))
    (ms_one (ms_ret (me_if (mt_cmp (op_neDD rfl hr.units) (mv 5) (me_frz (ml_lst mv_nil)) (nomark _)) (me_op (op_addD rfl) (me_frz (ml_lst (mv_cons (me_op (op_addD rfl) me_int (me_lenS (i := 5) rfl rfl (vz rfl) (by rfl) T.m_len)) mv_nil))) (mv 5)) (me_frz (ml_lst (mv_cons me_int mv_nil))))))))))
theorem ok__law_right (T : Txt K mg) : Has P w K mg base (L2.CX P w) 98 "_law_right" ["_law_bag_here", "_law_number_here"] [] (spM K 2 (m__law_right w)) := by
  refine has_m (k := 97) T.d__law_right sc__law_right (fun fd F => ⟨[], .nil, F.bindsN fun _ _ _ _ _ _ us hl => match us, hl with | [_, _], _ => rfl⟩) (fun cv A outer s H E F0 H0 pr np hg hr => ?_)
  exact (ms_cons (ms_par (i := 2) (j := 3) (np 2 (by decide)) (np 3 (by decide)) rfl sc__law_right.nd rfl rfl (by decide) rfl rfl (mv_cons (me_call (ok__law_loose_code T) rfl (fun _ => .nil) rfl (pxa rfl rfl rfl rfl) hg (hr.mono (by omega)) (by rfl) (ma_sl (i := 0) rfl (vz rfl) (ma_sl (i := 1) rfl (vz rfl) ma_nil)) (alS (alS al0))) (mv_cons (me_call (ok__law_code T) rfl (fun _ => .nil) rfl (pxa rfl rfl rfl rfl) hg (hr.mono (by omega)) (by rfl) (ma_sl (i := 1) rfl (vz rfl) ma_nil) (alS al0)) mv_nil)))
    (ms_cons (ms_if (PW.pt (mw_or (mt_cmp (op_neDD rfl hr.units) (me_fld rfl T.f_data (me_call (ok_shorten T) rfl (fun _ => .nil) rfl (pxa rfl rfl rfl rfl) hg (hr.mono (by omega)) (by rfl) (ma_val (me_op (op_addD rfl) (me_frz (ml_lst (mv_cons me_int mv_nil))) (mv 2)) ma_nil) (alV al0))) (me_callTy (call_tupleD rfl) (by rfl) T.m_tuple (by decide +kernel) (mv_cons (me_op (op_addD rfl) (me_frz (ml_lst (mv_cons me_int mv_nil))) (mv 3)) mv_nil)) (nomark _)) (mw_or1 (mt_cmp (op_neDD rfl hr.units) (me_fld rfl T.f_data (me_call (ok_shorten T) rfl (fun _ => .nil) rfl (pxa rfl rfl rfl rfl) hg (hr.mono (by omega)) (by rfl) (ma_val (me_op (op_addD rfl) (me_op (op_addD rfl) (me_frz (ml_lst (mv_cons me_int mv_nil))) (mv 2)) (me_frz (ml_lst (mv_cons me_int mv_nil)))) ma_nil) (alV al0))) (me_callTy (call_tupleD rfl) (by rfl) T.m_tuple (by decide +kernel) (mv_cons (me_op (op_addD rfl) (me_op (op_addD rfl) (me_frz (ml_lst (mv_cons me_int mv_nil))) (mv 3)) (me_frz (ml_lst (mv_cons me_int mv_nil)))) mv_nil)) (nomark _)))))
    (ms_one (ms_ret me_bl))
    ms_nil)
    (ms_cons (ms_setLc (i := 5) (np 5 (by decide)) (own := [("_law_byte", 4)]) (by intro i hi; exact np i (by revert i; decide)) (by decide) (tg_name 4) rfl sc__law_right.nd rfl rfl (sw_true rfl rfl rfl (by decide +kernel)) (mi_data rfl (mv 2)) (blkOk_by (own := [("_law_byte", 4)]) (N := ["_law_bag_here", "_law_number_here", "_law_code_here", "_law_due", "_law_byte", "_law_flipped", "_law_many", "_law_content", "_law_keys"]) (sc := defScope s__law_right) (by decide +kernel)) (fun _ _ _ _ _ => (mg_name (i := 4) (np 4 (by decide)) sc__law_right.nd rfl (lz rfl))) (fun _ _ _ _ _ => mts_nil) (fun _ _ _ _ _ => (me_op (op_subD) me_int (mv 4))))
    (ms_cons (ms_if (mt_cmp (op_neDD rfl hr.units) (me_fld rfl T.f_data (me_call (ok_shorten T) rfl (fun _ => .nil) rfl (pxa rfl rfl rfl rfl) hg (hr.mono (by omega)) (by rfl) (ma_val (me_callTy (call_tupleD rfl) (by rfl) T.m_tuple (by decide +kernel) (mv_cons (me_op (op_addD rfl) (me_frz (ml_lst (mv_cons me_int mv_nil))) (mv 5)) mv_nil)) ma_nil) (alV al0))) (me_callTy (call_tupleD rfl) (by rfl) T.m_tuple (by decide +kernel) (mv_cons (me_op (op_addD rfl) (me_frz (ml_lst (mv_cons me_int mv_nil))) (me_frz (ml_lc (own := [("_law_byte", 4)]) (by intro i hi; exact np i (by revert i; decide)) (by decide) (tg_name 4) rfl sc__law_right.nd (mi_data rfl (mv 3)) (blkOk_by (own := [("_law_byte", 4)]) (N := ["_law_bag_here", "_law_number_here", "_law_code_here", "_law_due", "_law_byte", "_law_flipped", "_law_many", "_law_content", "_law_keys"]) (sc := defScope s__law_right) (by decide +kernel)) (fun _ _ _ _ _ => (mg_name (i := 4) (np 4 (by decide)) sc__law_right.nd rfl (lz rfl))) (fun _ _ _ _ _ => mts_nil) (fun _ _ _ _ _ => (me_op (op_subD) me_int (mv 4)))))) mv_nil)) (nomark _))
    (ms_one (ms_ret me_bl))
    ms_nil)
    (ms_cons (ms_set (i := 6) (np 6 (by decide)) sc__law_right.nd rfl (lz rfl) (me_if (mt_cmp (op_eqDD rfl hr.units) (me_call (ok__law_take T) rfl (fun _ => .nil) rfl (pxa rfl rfl rfl rfl) hg (hr.mono (by omega)) (by rfl) (ma_sl (i := 0) rfl (vz rfl) (ma_val me_int ma_nil)) (alS (alV al0))) me_int (nomark _)) (me_call (ok__law_take T) rfl (fun _ => .nil) rfl (pxa rfl rfl rfl rfl) hg (hr.mono (by omega)) (by rfl) (ma_sl (i := 0) rfl (vz rfl) (ma_val me_int ma_nil)) (alS (alV al0))) (me_call (ok__law_take T) rfl (fun _ => .nil) rfl (pxa rfl rfl rfl rfl) hg (hr.mono (by omega)) (by rfl) (ma_sl (i := 0) rfl (vz rfl) (ma_val me_int ma_nil)) (alS (alV al0)))))
    (ms_cons (ms_par (i := 2) (j := 3) (np 2 (by decide)) (np 3 (by decide)) rfl sc__law_right.nd rfl rfl (by decide) rfl rfl (mv_cons (me_call (ok__law_loose_code T) rfl (fun _ => .nil) rfl (pxa rfl rfl rfl rfl) hg (hr.mono (by omega)) (by rfl) (ma_sl (i := 0) rfl (vz rfl) (ma_sl (i := 6) rfl (vz rfl) ma_nil)) (alS (alS al0))) (mv_cons (me_call (ok__law_code T) rfl (fun _ => .nil) rfl (pxa rfl rfl rfl rfl) hg (hr.mono (by omega)) (by rfl) (ma_sl (i := 6) rfl (vz rfl) ma_nil) (alS al0)) mv_nil)))
    (ms_cons (ms_set (i := 7) (np 7 (by decide)) sc__law_right.nd rfl (lz rfl) (me_op (op_mulDL) (me_frz (ml_lst (mv_cons (me_call (ok__law_take T) rfl (fun _ => .nil) rfl (pxa rfl rfl rfl rfl) hg (hr.mono (by omega)) (by rfl) (ma_sl (i := 0) rfl (vz rfl) (ma_val me_int ma_nil)) (alS (alV al0))) mv_nil))) (mv 6)))
    (ms_cons (ms_if (mt_cmp (op_neDD rfl hr.units) (me_fld rfl T.f_data (me_call (ok_shorten T) rfl (fun _ => .nil) rfl (pxa rfl rfl rfl rfl) hg (hr.mono (by omega)) (by rfl) (ma_val (me_op (op_addD rfl) (me_op (op_addD rfl) (me_frz (ml_lst (mv_cons me_int mv_nil))) (mv 2)) (mv 7)) ma_nil) (alV al0))) (me_callTy (call_tupleD rfl) (by rfl) T.m_tuple (by decide +kernel) (mv_cons (me_op (op_addD rfl) (me_op (op_addD rfl) (me_frz (ml_lst (mv_cons me_int mv_nil))) (mv 3)) (mv 7)) mv_nil)) (nomark _))
    (ms_one (ms_ret me_bl))
    ms_nil)
    (ms_cons (ms_set (i := 7) (np 7 (by decide)) sc__law_right.nd rfl (lz rfl) (me_op (op_mulDL) (me_frz (ml_lst (mv_cons (me_op (op_addD rfl) me_int (me_call (ok__law_take T) rfl (fun _ => .nil) rfl (pxa rfl rfl rfl rfl) hg (hr.mono (by omega)) (by rfl) (ma_sl (i := 0) rfl (vz rfl) (ma_val me_int ma_nil)) (alS (alV al0)))) mv_nil))) (mv 6)))
    (ms_cons (ms_if (mt_cmp (op_neDD rfl hr.units) (me_fld rfl T.f_data (me_call (ok_shorten T) rfl (fun _ => .nil) rfl (pxa rfl rfl rfl rfl) hg (hr.mono (by omega)) (by rfl) (ma_val (me_op (op_addD rfl) (me_op (op_addD rfl) (me_frz (ml_lst (mv_cons me_int mv_nil))) (mv 2)) (mv 7)) ma_nil) (alV al0))) (me_callTy (call_tupleD rfl) (by rfl) T.m_tuple (by decide +kernel) (mv_cons (me_op (op_addD rfl) (me_op (op_addD rfl) (me_frz (ml_lst (mv_cons me_int mv_nil))) (mv 3)) (mv 7)) mv_nil)) (nomark _))
    (ms_one (ms_ret me_bl))
    ms_nil)
    (ms_cons (ms_set (i := 7) (np 7 (by decide)) sc__law_right.nd rfl (lz rfl) (me_op (op_mulDL) (me_frz (ml_lst (mv_cons (me_op (op_addD rfl) me_int (me_call (ok__law_take T) rfl (fun _ => .nil) rfl (pxa rfl rfl rfl rfl) hg (hr.mono (by omega)) (by rfl) (ma_sl (i := 0) rfl (vz rfl) (ma_val me_int ma_nil)) (alS (alV al0)))) mv_nil))) (mv 6)))
    (ms_cons (ms_if (mt_cmp (op_neDD rfl hr.units) (me_fld rfl T.f_data (me_call (ok_shorten T) rfl (fun _ => .nil) rfl (pxa rfl rfl rfl rfl) hg (hr.mono (by omega)) (by rfl) (ma_val (me_op (op_addD rfl) (me_op (op_addD rfl) (me_frz (ml_lst (mv_cons me_int mv_nil))) (mv 2)) (mv 7)) ma_nil) (alV al0))) (me_callTy (call_tupleD rfl) (by rfl) T.m_tuple (by decide +kernel) (mv_cons (me_op (op_addD rfl) (me_op (op_addD rfl) (me_frz (ml_lst (mv_cons me_int mv_nil))) (mv 3)) (mv 7)) mv_nil)) (nomark _))
    (ms_one (ms_ret me_bl))
    ms_nil)
    (ms_cons (ms_set (i := 8) (np 8 (by decide)) sc__law_right.nd rfl (lz rfl) (me_op (op_addD rfl) (me_op (op_addD rfl) (me_frz (ml_lst (mv_cons me_int mv_nil))) (mv 2)) (me_op (op_mulDL) (me_frz (ml_lst (mv_cons me_int mv_nil))) (mv 6))))
    (ms_one (ms_ret (me_cmp (op_eqDD rfl hr.units) (me_fld rfl T.f_data (me_call (ok_shorten T) rfl (fun _ => .nil) rfl (pxa rfl rfl rfl rfl) hg (hr.mono (by omega)) (by rfl) (ma_val (me_op (op_addD rfl) (me_op (op_addD rfl) (me_op (op_addD rfl) (me_frz (ml_lst (mv_cons me_int (mv_cons me_int (mv_cons me_int mv_nil))))) (mv 8)) (me_slice rfl (mv 7) mo_none (mo_some me_int))) (me_op (op_mulDL) (me_frz (ml_lst (mv_cons me_int mv_nil))) (me_callTy (call_intD) (by rfl) T.m_int (by decide +kernel) (mv_cons (me_cmp (op_eqDD rfl hr.units) (mv 6) me_int (nomark _)) mv_nil)))) ma_nil) (alV al0))) (me_callTy (call_tupleD rfl) (by rfl) T.m_tuple (by decide +kernel) (mv_cons (me_op (op_addD rfl) (me_op (op_addD rfl) (me_op (op_addD rfl) (me_op (op_addD rfl) (me_frz (ml_lst (mv_cons me_int (mv_cons me_int (mv_cons me_int mv_nil))))) (mv 3)) (me_op (op_mulDL) (me_frz (ml_lst (mv_cons me_int mv_nil))) (mv 6))) (me_slice rfl (mv 7) mo_none (mo_some me_int))) (me_op (op_mulDL) (me_frz (ml_lst (mv_cons me_int mv_nil))) (me_callTy (call_intD) (by rfl) T.m_int (by decide +kernel) (mv_cons (me_cmp (op_eqDD rfl hr.units) (mv 6) me_int (nomark _)) mv_nil)))) mv_nil)) (nomark _)))))))))))))))))
theorem ok_law (T : Txt K mg) : Has P w K mg base (L2.CX P w) 99 "law" ["_law_script"] [] (spM K 1 (m_law w)) := by
  refine has_m (k := 98) T.d_law sc_law (fun fd F => ⟨[], .nil, F.bindsN fun _ _ _ _ _ _ us hl => match us, hl with | [_], _ => rfl⟩) (fun cv A outer s H E F0 H0 pr np hg hr => ?_)
  exact (ms_cons (ms_for (passes_of rfl) rfl (mi_range1 (by rfl) T.m_range (mv_cons (me_callB (call_maxD rfl) (by rfl) T.m_max (by decide +kernel) (mv_cons me_int (mv_cons (me_callB (call_minD rfl) (by rfl) T.m_min (by decide +kernel) (mv_cons me_int (mv_cons (me_lenS (i := 0) rfl rfl (vz rfl) (by rfl) T.m_len) mv_nil))) mv_nil))) mv_nil)) (mg_name (i := 1) (np 1 (by decide)) sc_law.nd rfl (lz rfl))
    (ms_cons (ms_setL (i := 2) (np 2 (by decide)) sc_law.nd rfl (lz rfl) (ml_call (ok__law_bag T) rfl (fun _ => .nil) rfl (pxa rfl rfl rfl rfl) hg (hr.mono (by omega)) (by rfl) (ma_sl (i := 0) rfl (vz rfl) (ma_sl (i := 1) rfl (vz rfl) ma_nil)) (alS (alS al0))))
    (ms_one (ms_if (PW.pt (mw_or (mt_not (mt_truth rfl (me_call (ok__law_right T) rfl (fun _ => .nil) rfl (pxa rfl rfl rfl rfl) hg (hr.mono (by omega)) (by rfl) (ma_sl (i := 2) rfl (vz rfl) (ma_val (me_call (ok__law_number T) rfl (fun _ => .nil) rfl (pxa rfl rfl rfl rfl) hg (hr.mono (by omega)) (by rfl) (ma_sl (i := 2) rfl (vz rfl) ma_nil) (alS al0)) ma_nil)) (alS (alV al0))))) (mw_or1 (mt_not (mt_truth rfl (me_call (ok__law_right T) rfl (fun _ => .nil) rfl (pxa rfl rfl rfl rfl) hg (hr.mono (by omega)) (by rfl) (ma_sl (i := 2) rfl (vz rfl) (ma_val (me_call (ok__law_take T) rfl (fun _ => .nil) rfl (pxa rfl rfl rfl rfl) hg (hr.mono (by omega)) (by rfl) (ma_sl (i := 2) rfl (vz rfl) (ma_val me_int ma_nil)) (alS (alV al0))) ma_nil)) (alS (alV al0))))))))
    (ms_one (ms_ret me_bl))
    ms_nil))))
    (ms_one (ms_ret me_bl)))
end
abbrev hhk : PySem.W.Hook := hookM hpick hfa hfn
def hob (s : PySem.W.SharedT) : He.AlD := lookM hpick hfa hfn (HandSHeadRun.getT s)
theorem hob_eq (s : PySem.W.SharedT) : hob s = hhk.obs s.abs := lookM_eq (HandSHeadRun.getT_eq s)
theorem tabk_int {K : PySem.W.Frag} : IsiF K (.type "int") tab_int := isi_bt rfl (by
  unfold tab_int
  intro e m
  simp only [List.mem_cons, List.not_mem_nil, or_false] at m
  rcases m with rfl | rfl | rfl | rfl | rfl | rfl | rfl <;> rfl)
theorem tabk_bool {K : PySem.W.Frag} : IsiF K (.type "bool") tab_bool := isi_bt rfl (by
  unfold tab_bool
  intro e m
  simp only [List.mem_cons, List.not_mem_nil, or_false] at m
  rcases m with rfl | rfl | rfl | rfl | rfl | rfl | rfl <;> rfl)
theorem tabk_str {K : PySem.W.Frag} : IsiF K (.type "str") tab_str := isi_bt rfl (by
  unfold tab_str
  intro e m
  simp only [List.mem_cons, List.not_mem_nil, or_false] at m
  rcases m with rfl | rfl | rfl | rfl | rfl | rfl | rfl <;> rfl)
theorem tabk_tuple {K : PySem.W.Frag} : IsiF K (.type "tuple") tab_tuple := isi_bt rfl (by
  unfold tab_tuple
  intro e m
  simp only [List.mem_cons, List.not_mem_nil, or_false] at m
  rcases m with rfl | rfl | rfl | rfl | rfl | rfl | rfl <;> rfl)
theorem tabk_list {K : PySem.W.Frag} : IsiF K (.type "list") tab_list := isi_bt rfl (by
  unfold tab_list
  intro e m
  simp only [List.mem_cons, List.not_mem_nil, or_false] at m
  rcases m with rfl | rfl | rfl | rfl | rfl | rfl | rfl <;> rfl)
section
open PySem.W HandSHeadRun
theorem hrunF (w : World) : RunEq hR hq hhk hob 20000 hloose (hw w false) := runEqZ_of (hlF w) (hsF w) (fun os => lookM_app (lookM_app (lookM_app (hc0F w os) (hc1F w os)) (hc2F w os)) (hc3F w os))
theorem hrunT (w : World) : RunEq hR hq hhk hob 20000 hloose (hw w true) := runEqZ_of (hlT w) (hsT w) (fun os => lookM_app (lookM_app (lookM_app (hc0T w os) (hc1T w os)) (hc2T w os)) (hc3T w os))
theorem hrun (w : World) : RunEq hR hq hhk hob 20000 hloose w := PySem.W.byRow2 "special-get-raises" (P := fun w => RunEq hR hq hhk hob 20000 hloose w) hrunF hrunT w
end
theorem txt_of {K : PySem.W.Frag} {h : Heap} {mg : Str → Option Value} (X : K.In h) (G : h.Ns mainGlobals mg) (c : SaysM hfa hfn K) : Txt K mg where
  d__law_bag := ⟨gaB_ok X G (c.fact 0 (f := hf_0) rfl), c.def_ 0 (d := hd_0) rfl⟩
  d__law_take := ⟨gaB_ok X G (c.fact 1 (f := hf_1) rfl), c.def_ 1 (d := hd_1) rfl⟩
  d__law_code := ⟨gaB_ok X G (c.fact 2 (f := hf_2) rfl), c.def_ 2 (d := hd_2) rfl⟩
  d__law_number := ⟨gaB_ok X G (c.fact 3 (f := hf_3) rfl), c.def_ 3 (d := hd_3) rfl⟩
  d_is_integer := ⟨gaB_ok X G (c.fact 4 (f := hf_4) rfl), c.def_ 4 (d := hd_4) rfl⟩
  d_is_byte := ⟨gaB_ok X G (c.fact 5 (f := hf_5) rfl), c.def_ 5 (d := hd_5) rfl⟩
  d_base_bytes := ⟨gaB_ok X G (c.fact 6 (f := hf_6) rfl), c.def_ 6 (d := hd_6) rfl⟩
  d_plain_code := ⟨gaB_ok X G (c.fact 7 (f := hf_7) rfl), c.def_ 7 (d := hd_7) rfl⟩
  d_is_char_code := ⟨gaB_ok X G (c.fact 8 (f := hf_8) rfl), c.def_ 8 (d := hd_8) rfl⟩
  d_integer_row := ⟨gaB_ok X G (c.fact 9 (f := hf_9) rfl), c.def_ 9 (d := hd_9) rfl⟩
  d_Document___init__ := c.def_ 10 (d := hd_10) rfl
  k_Document := mkB_ok (c.fact 10 (f := hf_10) rfl)
  d_document_of_row := ⟨gaB_ok X G (c.fact 11 (f := hf_11) rfl), c.def_ 11 (d := hd_11) rfl⟩
  d_LooseReader___init__ := c.def_ 12 (d := hd_12) rfl
  k_LooseReader := mkB_ok (c.fact 12 (f := hf_12) rfl)
  d_LooseReader_look := c.def_ 13 (d := hd_13) rfl
  mt_LooseReader_look := methB_ok (c.fact 13 (f := hf_13) rfl)
  d_LooseReader_take := c.def_ 14 (d := hd_14) rfl
  mt_LooseReader_take := methB_ok (c.fact 14 (f := hf_14) rfl)
  d_LooseReader_take_code := c.def_ 15 (d := hd_15) rfl
  mt_LooseReader_take_code := methB_ok (c.fact 15 (f := hf_15) rfl)
  d_LooseReader_take_gaps := c.def_ 16 (d := hd_16) rfl
  mt_LooseReader_take_gaps := methB_ok (c.fact 16 (f := hf_16) rfl)
  d_LooseReader_take_kind := c.def_ 17 (d := hd_17) rfl
  mt_LooseReader_take_kind := methB_ok (c.fact 17 (f := hf_17) rfl)
  d_LooseReader_take_content := c.def_ 18 (d := hd_18) rfl
  mt_LooseReader_take_content := methB_ok (c.fact 18 (f := hf_18) rfl)
  d_LooseReader_take_scalar := c.def_ 19 (d := hd_19) rfl
  mt_LooseReader_take_scalar := methB_ok (c.fact 19 (f := hf_19) rfl)
  d_LooseReader_take_parts := c.def_ 20 (d := hd_20) rfl
  mt_LooseReader_take_parts := methB_ok (c.fact 20 (f := hf_20) rfl)
  d_LooseReader_take_pairs := c.def_ 21 (d := hd_21) rfl
  mt_LooseReader_take_pairs := methB_ok (c.fact 21 (f := hf_21) rfl)
  d_LooseReader_take_list := c.def_ 22 (d := hd_22) rfl
  mt_LooseReader_take_list := methB_ok (c.fact 22 (f := hf_22) rfl)
  d_LooseReader_take_map := c.def_ 23 (d := hd_23) rfl
  mt_LooseReader_take_map := methB_ok (c.fact 23 (f := hf_23) rfl)
  d_LooseReader_take_item := c.def_ 24 (d := hd_24) rfl
  mt_LooseReader_take_item := methB_ok (c.fact 24 (f := hf_24) rfl)
  d_shorten := ⟨gaB_ok X G (c.fact 25 (f := hf_25) rfl), c.def_ 25 (d := hd_25) rfl⟩
  d__law_digits := ⟨gaB_ok X G (c.fact 26 (f := hf_26) rfl), c.def_ 26 (d := hd_26) rfl⟩
  d__law_loose_code := ⟨gaB_ok X G (c.fact 27 (f := hf_27) rfl), c.def_ 27 (d := hd_27) rfl⟩
  d__law_right := ⟨gaB_ok X G (c.fact 28 (f := hf_28) rfl), c.def_ 28 (d := hd_28) rfl⟩
  d_law := ⟨gaB_ok X G (c.fact 29 (f := hf_29) rfl), c.def_ 29 (d := hd_29) rfl⟩
  c_Document := gaB_ok X G (c.fact 30 (f := hf_30) rfl)
  c_LooseReader := gaB_ok X G (c.fact 31 (f := hf_31) rfl)
  f_data := fldB_ok (c.fact 32 (f := hf_32) rfl)
  f_kind := fldB_ok (c.fact 33 (f := hf_33) rfl)
  f_row := fldB_ok (c.fact 34 (f := hf_34) rfl)
  f_spot := fldB_ok (c.fact 35 (f := hf_35) rfl)
  m_bool := He.free_ok X G (c.fact 36 (f := hf_36) rfl)
  m_int := He.free_ok X G (c.fact 37 (f := hf_37) rfl)
  m_isinstance := He.free_ok X G (c.fact 38 (f := hf_38) rfl)
  m_len := He.free_ok X G (c.fact 39 (f := hf_39) rfl)
  m_list := He.free_ok X G (c.fact 40 (f := hf_40) rfl)
  m_max := He.free_ok X G (c.fact 41 (f := hf_41) rfl)
  m_min := He.free_ok X G (c.fact 42 (f := hf_42) rfl)
  m_range := He.free_ok X G (c.fact 43 (f := hf_43) rfl)
  m_sorted := He.free_ok X G (c.fact 44 (f := hf_44) rfl)
  m_tuple := He.free_ok X G (c.fact 45 (f := hf_45) rfl)
  e_base := baseAt_ok X G (c.fact 46 (f := hf_46) rfl)
  e_WrongByte := errAt_ok X G (c.fact 47 (f := hf_47) rfl) (c.def_ 30 (d := hd_30) rfl)
  e_Unfinished := errAt_ok X G (c.fact 48 (f := hf_48) rfl) (c.def_ 31 (d := hd_31) rfl)
  e_DuplicateKey := errAt_ok X G (c.fact 49 (f := hf_49) rfl) (c.def_ 32 (d := hd_32) rfl)
  i_int := tabk_int
  i_bool := tabk_bool
  i_str := tabk_str
  i_tuple := tabk_tuple
  i_list := tabk_list
  ap := apartB_ok (c.fact 50 (f := hf_50) rfl)
  g_MOST := He.int_ok X G (c.fact 51 (f := hf_51) rfl)
  g_LIMIT := He.int_ok X G (c.fact 52 (f := hf_52) rfl)
  g_DEEPEST := He.int_ok X G (c.fact 53 (f := hf_53) rfl)
  g_CHARS := strAt_ok X G (c.fact 54 (f := hf_54) rfl)
  g_KINDS := gaB_and X G (c.fact 55 (f := hf_55) rfl)
  g_GAP := He.int_ok X G (c.fact 56 (f := hf_56) rfl)
  g_SCALARS := gaB_and X G (c.fact 57 (f := hf_57) rfl)
  g_NESTS := gaB_and X G (c.fact 58 (f := hf_58) rfl)
  g_KEYS := gaB_and X G (c.fact 59 (f := hf_59) rfl)
end Sb
open PySem PySem.W PySem.Calls PyProof.Rows
set_option maxRecDepth 100000 in
set_option maxHeartbeats 8000000 in
theorem PySem.Challenge.cw_shortestbytes_k57_needless_bytes_in_code_holds : PySem.Challenge.rw_shortestbytes_k57_needless_bytes_in_code.Holds := by
  refine Sb.early Sb.hob_eq Sb.hrun ?_
  · refine Sb.walk_ofG (l := PySem.Challenge.rw_shortestbytes_k57_needless_bytes_in_code) (n := 63) (k := 99) (x := "_law_script") (nm := "law") (CX := fun w => L2.CX (OpenLaw.row PySem.Challenge.rw_shortestbytes_k57_needless_bytes_in_code).prog w) rfl (by decide) (by kernel_rfl) (by kernel_rfl) ⟨rfl, by decide, by decide⟩ ?F (fun _ _ _ _ _ z => Sb.no_cx z)
    intro w mg h Y G
    obtain ⟨K, KX, c⟩ := Y
    exact ⟨K, Sb.spM K 1 (Sb.m_law w), KX, fun H a ns hl bits _ hS => Sb.wantM hS (Sb.law57 (w := w)), fun base _ _ => Sb.ok_law (Sb.txt_of KX G c)⟩
#print axioms PySem.Challenge.cw_shortestbytes_k57_needless_bytes_in_code_holds
