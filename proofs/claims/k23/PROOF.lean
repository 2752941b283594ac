import PyProof.Rows.All
import Wide.All
import OpenK.AllK
import Wide.FinOn
import HandS.HeadHook4
import KE.KTryMore
import KE.KExcInit
import HandS.Head2
import PyProof.ReprRoads
import HandS.ForMost
import HandS.Exc
import HandS.WordsExc
import HandS.CallSlots
import HandS.Lambda
import HandS.EndTab
import HandS.TupAny
import HandS.Deep
import HandS.Wide
import HandS.RaiseMore
import HandS.IsInst
import PyProof.CallFns
import HandS.WideBits
import HandS.Conv
import HandS.TupLen
import HandS.Small
import HandS.Defaults
import HandS.NoneIn
import HandS.Walk
import KE.GoesEnum
import KE.GoesMore
import HandS.MakeKwOnly
import HandS.Replace
import HandS.SetFor
import PyProof.Rows.CountFlat
import HandS.Ends
import HandS.HeadEnd
import HandS.HeadHook1
import HandS.HeadHook2
import HandS.Style
import HandS.Head0
import HandS.Head1
import HandS.Strs
import HandS.SortInts
import PyProof.ListStr
import HandS.TupMul
import HandS.Flt
import HandS.ExcValue
import HandS.ExcIs
import KE.KSortTupG
import HandS.SortRule
import HandS.CallLocal
import HandS.Dict
import KE.KEqNest
import HandS.Zip0
import KE.KDictZip
import PyProof.ListNew
import KE.KDictCopyH
import KE.KDictList
import KE.KDictSum
import KE.KDictDisplayH
import HandS.DictComp
import HandS.ExcOwn
import PySem.Challenge.RW_colourpicks_k23_errors_made
set_option Elab.async false
set_option linter.all false
set_option maxRecDepth 100000
set_option maxHeartbeats 4000000
namespace CP
open PySem PySem.Spec PyProof.Rows L2
def bltTys : List String := ["NoneType", "bool", "int", "str", "list", "tuple", "dict"]
def tabsNd (tf : List (He.Defn × Str)) (K : PySem.W.Frag) : Bool := decide (tf.map fun p => (He.cT K p.1).2).Nodup
/-- the built-in bases of the program's errors -/
inductive EB where
  | ve
  | le
  | ae
def EB.nm : EB → String
  | .ve => "ValueError"
  | .le => "LookupError"
  | .ae => "ArithmeticError"
def EB.new : EB → String
  | .ve => "ValueError.__new__"
  | .le => "LookupError.__new__"
  | .ae => "ArithmeticError.__new__"
def EB.init : EB → String
  | .ve => "ValueError.__init__"
  | .le => "LookupError.__init__"
  | .ae => "ArithmeticError.__init__"
def EB.bm (b : EB) : List Value := [.type b.nm, .type "Exception", .type "BaseException", .type "object"]
/-- what an error's class must say, so that it may be made, raised, asked -/
def excB (K : PySem.W.Frag) (b : EB) (c fld : Str) : Bool :=
  PySem.W.excInitIn K (He.ga K c) b.bm b.new && (PySem.W.hasDictIn K (He.ga K c) && (He.eqO (PySem.W.findIn K (.ref (He.ga K c)) "__setattr__") (some (some (.builtin "object.__setattr__"))) &&
  (He.eqO (PySem.W.findIn K (.ref (He.ga K c)) "__getattribute__") (some (some (.builtin "BaseException.__getattribute__"))) && (He.eqO (PySem.W.findIn K (.ref (He.ga K c)) "__getattr__") (some none) && (He.eqO (PySem.W.findIn K (.ref (He.ga K c)) fld) (some none) &&
  (He.eqO (PySem.W.findIn K (.ref (He.ga K c)) "__init__") (some (some (.ref (He.ma K (He.ga K c) "__init__")))) && (decide (PySem.W.typeIn K (.ref (He.ma K (He.ga K c) "__init__")) = some (.type "function")) && (PySem.W.keepIn K (.ref (He.ga K c)) &&
  (decide (PySem.W.subIn K (.ref (He.ga K c)) (.type "BaseException") = some true) && decide (PySem.W.typeIn K (.ref (He.ga K c)) = some (.type "type")))))))))))
/-- an error that is raised: base, class, field, its own classes, its built-in ones -/
abbrev ErrR := EB × Str × Str × List Str × List String
def clsB (K : PySem.W.Frag) (c : Str) : Bool := He.eqO (PySem.W.findIn K (.ref (He.ga K c)) "__class__") (some (some (.builtin "object.__class__"))) && (He.eqO (PySem.W.specialIn K (.builtin "object.__class__") "__get__") (some (some (.builtin "getset_descriptor.__get__"))) &&
  (decide (PySem.W.takesIn K (.builtin "object.__class__") = some true) && decide (PySem.W.mroIn K (He.ga K c) (.type "object") = some true)))
def errB (K : PySem.W.Frag) (bs gs : List Str) (tys : List String) (p : ErrR) : Bool :=
  excB K p.1 p.2.1 p.2.2.1 && (clsB K p.2.1 && (gs.all (fun g => decide (PySem.W.kitOne K (.ref (He.ga K p.2.1)) (.ref (He.ga K g)) = some (p.2.2.2.1.contains g))) && (tys.all (fun n => decide (PySem.W.kitOne K (.ref (He.ga K p.2.1)) (.type n) = some (p.2.2.2.2.contains n))) &&
  decide (PySem.W.exmAny K (.ref (He.ga K p.2.1)) (bs.map fun x => .ref (He.ga K x)) = some true))))
/-- an error's class without an own __init__: what it must say, so that it may be made, raised -/
def exc0B (K : PySem.W.Frag) (b : EB) (c : Str) : Bool := PySem.W.excIn K (He.ga K c) b.bm b.new && (PySem.W.keepIn K (.ref (He.ga K c)) && (decide (PySem.W.subIn K (.ref (He.ga K c)) (.type "BaseException") = some true) && decide (PySem.W.typeIn K (.ref (He.ga K c)) = some (.type "type"))))
def errN (K : PySem.W.Frag) (bs gs : List Str) (tys : List String) (p : ErrR) : Bool :=
  exc0B K p.1 p.2.1 && (PySem.W.hasDictIn K (He.ga K p.2.1) && (He.eqO (PySem.W.findIn K (.ref (He.ga K p.2.1)) "__getattribute__") (some (some (.builtin "BaseException.__getattribute__"))) && (He.eqO (PySem.W.findIn K (.ref (He.ga K p.2.1)) "__getattr__") (some none) &&
  (clsB K p.2.1 && (gs.all (fun g => decide (PySem.W.kitOne K (.ref (He.ga K p.2.1)) (.ref (He.ga K g)) = some (p.2.2.2.1.contains g))) && (tys.all (fun n => decide (PySem.W.kitOne K (.ref (He.ga K p.2.1)) (.type n) = some (p.2.2.2.2.contains n))) &&
  decide (PySem.W.exmAny K (.ref (He.ga K p.2.1)) (bs.map fun x => .ref (He.ga K x)) = some true)))))))
def strsB : List Value → List Str → Bool
  | [], [] => true
  | .str y _ :: r, z :: t => decide (y = z) && strsB r t
  | _, _ => false
def tupB (K : PySem.W.Frag) (x : Str) (ss : List Str) : Bool := match K.lookup (He.ga K x) with
  | some ⟨c, d, .seq its _, _⟩ => decide (c = .type "tuple") && (decide (d = none) && (decide (its.size ≤ 100) && strsB its.toList ss))
  | _ => false
end CP
namespace CP
open PySem PySem.Spec PyProof.Rows L2
/-- the def of a classmethod: its record, then what it holds -/
def cmP (K : PySem.W.Frag) (q : Str × Str) : Addr := match PySem.W.findIn K (.ref (He.ga K q.1)) q.2 with
  | some (some (.ref p)) => p
  | _ => 0
def cmG (K : PySem.W.Frag) (q : Str × Str) : Addr := match PySem.W.recIn K (cmP K q) "classmethod" with
  | some (.ref g :: _) => g
  | _ => 0
def cmW (K : PySem.W.Frag) (q : Str × Str) : He.FnW := match K.lookup (cmG K q) with
  | some ⟨_, _, .func fd, _⟩ => some (fd.name, fd.qualname, fd.params, fd.body, fd.scope, fd.globals, fd.closure, fd.builtins)
  | _ => none
def cmFind (K : PySem.W.Frag) (q : Str × Str) : Bool := match PySem.W.findCls K (.ref (He.ga K q.1)) (.type "type") q.2 with
  | some (.get (.builtin n) (.ref p) .none (.ref C)) => decide (n = "classmethod.__get__") && (decide (p = cmP K q) && decide (C = He.ga K q.1))
  | _ => false
/-- what must hold of a classmethod q whose code is named by qual -/
def cmB (K : PySem.W.Frag) (q : Str × Str) (qual : Str) : Bool :=
  PySem.W.readsIn K (He.ga K q.1) (.type "type") && (He.eqO (PySem.W.specialIn K (.ref (He.ga K q.1)) "__getattribute__") (some (some (.builtin "type.__getattribute__"))) && (cmFind K q && ((match PySem.W.recIn K (cmP K q) "classmethod" with
    | some (.ref g :: _) => decide (g = cmG K q)
    | _ => false) && (PySem.W.fnIn K (cmG K q) && (PySem.W.keepIn K (.ref (cmG K q)) && (match K.lookup (cmG K q) with
    | some ⟨_, _, .func fd, _⟩ => PySem.W.codeIn K fd.code qual && (He.dflB K fd.defaults [] && He.kwdB K fd.kwdefaults [])
    | _ => false))))))
abbrev Cm : Type := (Str × Str) × He.DefD
abbrev AlZ : Type := He.AlX × List He.FnW
/-- the heap's objects by a tree made once -/
noncomputable def getH (h : Heap) : Addr → Option Obj := match HandSHeadRun.putAll h.objs.toList .nil 0 with
  | some (t, n) => HandSHeadRun.getT ⟨t, n, h.life, #[], PySem.W.boot_drawn, 0, default⟩
  | none => h.get?
theorem getH_eq (h : Heap) : getH h = h.get? := by
  unfold getH
  cases e : HandSHeadRun.putAll h.objs.toList .nil 0 with
  | none => rfl
  | some r =>
    obtain ⟨t, n⟩ := r
    funext a
    have z := HandSHeadRun.getT_eq ⟨t, n, h.life, #[], PySem.W.boot_drawn, 0, default⟩ a
    have eh : PySem.W.absHeap t n h.life = h := HandSHeadRun.putAll_heap e
    refine z.trans ?_
    show (PySem.W.absHeap t n h.life).get? a = _
    rw [eh]
theorem saysX_as {fa : List He.Fa} {fn : List He.DefD} {tf : List He.Defn} {ex : PySem.W.Frag → Bool} {w : World} {h : Heap} {as : List Addr} (e1 : He.obsT fa fn [] (He.frT h.get? as) = He.valT fn [] w)
    (e2 : (ex (He.frT h.get? as) && He.tabsB h.get? tf (He.frT h.get? as)) = true) : He.SaysX fa fn [] tf ex w h (He.frT h.get? as) := by
  obtain ⟨m1, m2⟩ := Bool.and_eq_true_iff.mp e2
  have one : ∀ p ∈ tf, PySem.W.codeHdIn (He.frT h.get? as) (He.cT (He.frT h.get? as) p).1 (He.cT (He.frT h.get? as) p).2 = true ∧ ∃ o, h.get? (He.cT (He.frT h.get? as) p).2 = some o ∧ He.emptyTab o = true := by
    intro p hp
    obtain ⟨q1, q2⟩ := Bool.and_eq_true_iff.mp (List.all_eq_true.mp m2 p hp)
    refine ⟨q1, ?_⟩
    split at q2
    · rename_i o eo
      exact ⟨o, eo, q2⟩
    · cases q2
  refine ⟨e1, m1, fun p hp => (one p hp).1, fun p hp => ?_, fun p hp => ?_⟩
  · obtain ⟨_, o, eo, z⟩ := one p hp
    exact He.frT_none eo z
  · obtain ⟨_, o, eo, z⟩ := one p hp
    exact eo.trans (congrArg some (He.emptyTab_eq z))
/-- what is looked at: all objects, as far as n goes (what the names reach costs more to find than to take all) -/
def asZ (n : Nat) (_ : Addr → Option Obj) : List Addr := List.range n
noncomputable def obsZ (n : Nat) (fa : List He.Fa) (fn : List He.DefD) (cms : List Cm) (tf : List He.Defn) (ex : PySem.W.Frag → Bool) (g : Addr → Option Obj) : AlZ :=
  (fun K : PySem.W.Frag => ((He.obsT fa fn [] K, ex K && He.tabsB g tf K), cms.map fun q => cmW K q.1)) (He.frT g (asZ n g))
noncomputable def hookZ (n : Nat) (fa : List He.Fa) (fn : List He.DefD) (cms : List Cm) (tf : List He.Defn) (ex : PySem.W.Frag → Bool) : PySem.W.Hook where
  α := AlZ
  obs := fun s => obsZ n fa fn cms tf ex (getH s.heap)
  val := fun w => (He.valX fn [] w, cms.map fun q => q.2.val)
  says := fun w h => ∃ K : PySem.W.Frag, K.In h ∧ He.SaysX fa fn [] tf ex w h K ∧ cms.map (fun q => cmW K q.1) = cms.map fun q => q.2.val
  of := fun w s e => by
    have e' : obsZ n fa fn cms tf ex s.heap.get? = (He.valX fn [] w, cms.map fun q => q.2.val) := by
      rw [← getH_eq]
      exact e
    have e1 := congrArg (fun z : AlZ => z.1.1) e'
    have e2 := congrArg (fun z : AlZ => z.1.2) e'
    exact ⟨He.frT s.heap.get? (asZ n s.heap.get?), He.frT_in, saysX_as e1 e2, congrArg (fun z : AlZ => z.2) e'⟩
  keeps := fun _ _ _ ⟨K, hK, c, z⟩ k => ⟨K, PySem.W.Frag.In.keeps hK k, ⟨c.t, c.more, c.hd, c.out, fun p hp => k _ _ (c.empty p hp)⟩, z⟩
theorem obsZ_eq {n : Nat} {fa : List He.Fa} {fn : List He.DefD} {cms : List Cm} {tf : List He.Defn} {ex : PySem.W.Frag → Bool} {g : Addr → Option Obj} {s : Shared} (h : ∀ a, g a = s.heap.get? a) : obsZ n fa fn cms tf ex g = (hookZ n fa fn cms tf ex).obs s := by
  have e : g = s.heap.get? := funext h
  show _ = obsZ n fa fn cms tf ex (getH s.heap)
  rw [e, getH_eq]
abbrev KZ (n : Nat) (s : PySem.W.SharedT) : PySem.W.Frag := He.frT (HandSHeadRun.getT s) (asZ n (HandSHeadRun.getT s))
/-- the head's run, looked at in three runs -/
theorem run_3 {r : PySem.W.OpenRow} {q : Program} {n M : Nat} {loose : List Str} {w : World} {fa : List He.Fa} {fn : List He.DefD} {cms : List Cm} {tf : List He.Defn} {ex : PySem.W.Frag → Bool}
    (A : ∀ os : OsState, (HandSHeadRun.endF (HandSHeadRun.stepQ (HandSHeadRun.denQ HandSHeadRun.tabQ) r.prog w) M r.prog w os).map (fun s => (HandSHeadRun.looksF r.prog (PySem.W.boot_heap w.params) s.abs, HandSHeadRun.seenQ q loose (importedModules r.prog.main.body) (fun s => PySem.W.xlAt q [] s && PySem.W.recOk r.toRowW.records s) s.abs)) = some (true, PySem.W.openGood q loose))
    (B : ∀ os : OsState, (HandSHeadRun.endF (HandSHeadRun.stepQ (HandSHeadRun.denQ HandSHeadRun.tabQ) r.prog w) M r.prog w os).map (fun s => (fun K : PySem.W.Frag => ((fa.all fun f => f.ok K) && fn.all fun d => d.ok K, fn.map fun d => He.fnW K d.at_)) (KZ n s)) = some (true, fn.map He.DefD.val))
    (C : ∀ os : OsState, (HandSHeadRun.endF (HandSHeadRun.stepQ (HandSHeadRun.denQ HandSHeadRun.tabQ) r.prog w) M r.prog w os).map (fun s => (fun K : PySem.W.Frag => (ex K && He.tabsB (HandSHeadRun.getT s) tf K, cms.map fun q => cmW K q.1)) (KZ n s)) = some (true, cms.map fun q => q.2.val)) :
    HandSHeadRun.RunEq r q (hookZ n fa fn cms tf ex) (fun s => obsZ n fa fn cms tf ex (HandSHeadRun.getT s)) M loose w := by
  intro os
  have a := A os
  have b := B os
  have c := C os
  generalize HandSHeadRun.endF (HandSHeadRun.stepQ (HandSHeadRun.denQ HandSHeadRun.tabQ) r.prog w) M r.prog w os = E at *
  cases E with
  | none => cases a
  | some s =>
    injection a with a
    injection b with b
    injection c with c
    injection a with a1 a2
    injection b with b1 b2
    injection c with c1 c2
    show some (_, _, _) = some (_, _, _)
    rw [a1, a2]
    show some (true, PySem.W.openGood q loose, (((((fa.all fun f => f.ok (KZ n s)) && fn.all fun d => d.ok (KZ n s), fn.map fun d => He.fnW (KZ n s) d.at_), []), ex (KZ n s) && He.tabsB (HandSHeadRun.getT s) tf (KZ n s)), cms.map fun q => cmW (KZ n s) q.1)) = some (true, PySem.W.openGood q loose, ((((true, fn.map He.DefD.val), []), true), cms.map fun q => q.2.val))
    rw [b1, b2, c1, c2]
/-- .. in four runs -/
theorem run_4 {r : PySem.W.OpenRow} {q : Program} {n M : Nat} {loose : List Str} {w : World} {fa : List He.Fa} {fn : List He.DefD} {cms : List Cm} {tf : List He.Defn} {ex : PySem.W.Frag → Bool}
    (A : ∀ os : OsState, (HandSHeadRun.endF (HandSHeadRun.stepQ (HandSHeadRun.denQ HandSHeadRun.tabQ) r.prog w) M r.prog w os).map (fun s => (HandSHeadRun.looksF r.prog (PySem.W.boot_heap w.params) s.abs, HandSHeadRun.seenQ q loose (importedModules r.prog.main.body) (fun s => PySem.W.xlAt q [] s && PySem.W.recOk r.toRowW.records s) s.abs)) = some (true, PySem.W.openGood q loose))
    (B : ∀ os : OsState, (HandSHeadRun.endF (HandSHeadRun.stepQ (HandSHeadRun.denQ HandSHeadRun.tabQ) r.prog w) M r.prog w os).map (fun s => (fun K : PySem.W.Frag => fa.all fun f => f.ok K) (KZ n s)) = some true)
    (B2 : ∀ os : OsState, (HandSHeadRun.endF (HandSHeadRun.stepQ (HandSHeadRun.denQ HandSHeadRun.tabQ) r.prog w) M r.prog w os).map (fun s => (fun K : PySem.W.Frag => (fn.all fun d => d.ok K, fn.map fun d => He.fnW K d.at_)) (KZ n s)) = some (true, fn.map He.DefD.val))
    (C : ∀ os : OsState, (HandSHeadRun.endF (HandSHeadRun.stepQ (HandSHeadRun.denQ HandSHeadRun.tabQ) r.prog w) M r.prog w os).map (fun s => (fun K : PySem.W.Frag => (ex K && He.tabsB (HandSHeadRun.getT s) tf K, cms.map fun q => cmW K q.1)) (KZ n s)) = some (true, cms.map fun q => q.2.val)) :
    HandSHeadRun.RunEq r q (hookZ n fa fn cms tf ex) (fun s => obsZ n fa fn cms tf ex (HandSHeadRun.getT s)) M loose w := by
  refine run_3 A (fun os => ?_) C
  have b := B os
  have c := B2 os
  generalize HandSHeadRun.endF (HandSHeadRun.stepQ (HandSHeadRun.denQ HandSHeadRun.tabQ) r.prog w) M r.prog w os = E at *
  cases E with
  | none => cases b
  | some s =>
    injection b with b
    injection c with c
    injection c with c1 c2
    show some (((fa.all fun f => f.ok (KZ n s)) && fn.all fun d => d.ok (KZ n s), fn.map fun d => He.fnW (KZ n s) d.at_)) = some (true, fn.map He.DefD.val)
    rw [show (fa.all fun f => f.ok (KZ n s)) = true from b, show (fn.all fun d => d.ok (KZ n s)) = true from c1, show (fn.map fun d => He.fnW (KZ n s) d.at_) = fn.map He.DefD.val from c2]
    rfl
/-- the look at two rows of defs -/
theorem fn_join {r : PySem.W.OpenRow} {n M : Nat} {w : World} {l1 l2 : List He.DefD}
    (B1 : ∀ os : OsState, (HandSHeadRun.endF (HandSHeadRun.stepQ (HandSHeadRun.denQ HandSHeadRun.tabQ) r.prog w) M r.prog w os).map (fun s => (fun K : PySem.W.Frag => (l1.all fun d => d.ok K, l1.map fun d => He.fnW K d.at_)) (KZ n s)) = some (true, l1.map He.DefD.val))
    (B2 : ∀ os : OsState, (HandSHeadRun.endF (HandSHeadRun.stepQ (HandSHeadRun.denQ HandSHeadRun.tabQ) r.prog w) M r.prog w os).map (fun s => (fun K : PySem.W.Frag => (l2.all fun d => d.ok K, l2.map fun d => He.fnW K d.at_)) (KZ n s)) = some (true, l2.map He.DefD.val)) (os : OsState) :
    (HandSHeadRun.endF (HandSHeadRun.stepQ (HandSHeadRun.denQ HandSHeadRun.tabQ) r.prog w) M r.prog w os).map (fun s => (fun K : PySem.W.Frag => ((l1 ++ l2).all fun d => d.ok K, (l1 ++ l2).map fun d => He.fnW K d.at_)) (KZ n s)) = some (true, (l1 ++ l2).map He.DefD.val) := by
  have b := B1 os
  have c := B2 os
  generalize HandSHeadRun.endF (HandSHeadRun.stepQ (HandSHeadRun.denQ HandSHeadRun.tabQ) r.prog w) M r.prog w os = E at *
  cases E with
  | none => cases b
  | some s =>
    injection b with b
    injection b with b1 b2
    injection c with c
    injection c with c1 c2
    show some (((l1 ++ l2).all fun d => d.ok (KZ n s)), (l1 ++ l2).map fun d => He.fnW (KZ n s) d.at_) = some (true, (l1 ++ l2).map He.DefD.val)
    rw [List.all_append, List.map_append, List.map_append, show (l1.all fun d => d.ok (KZ n s)) = true from b1, show (l2.all fun d => d.ok (KZ n s)) = true from c1, show (l1.map fun d => He.fnW (KZ n s) d.at_) = l1.map He.DefD.val from b2, show (l2.map fun d => He.fnW (KZ n s) d.at_) = l2.map He.DefD.val from c2]
    rfl
theorem dflB_nil {K : PySem.W.Frag} {v : Value} (h : He.dflB K v [] = true) : DflV K v [] := He.dflB_ok h
theorem kwdB_nil {K : PySem.W.Frag} {v : Value} (h : He.kwdB K v [] = true) : KwdV K v [] := He.kwdB_ok h
/-- the def that a classmethod holds -/
theorem cm_funD {K : PySem.W.Frag} {q : Str × Str} {d : He.DefD} (e : cmW K q = d.val) (c : cmB K q d.qual = true) : ∃ fd, FunD K d.name d.qual d.params d.body d.scope [] [] (cmG K q) fd := by
  unfold cmB at c
  obtain ⟨_, c⟩ := Bool.and_eq_true_iff.mp c
  obtain ⟨_, c⟩ := Bool.and_eq_true_iff.mp c
  obtain ⟨_, c⟩ := Bool.and_eq_true_iff.mp c
  obtain ⟨_, c⟩ := Bool.and_eq_true_iff.mp c
  obtain ⟨_, c⟩ := Bool.and_eq_true_iff.mp c
  obtain ⟨kp, c2⟩ := Bool.and_eq_true_iff.mp c
  unfold cmW at e
  cases hq : K.lookup (cmG K q) with
  | none =>
    rw [hq] at c2
    cases c2
  | some o =>
    obtain ⟨oc, od, dt, osl⟩ := o
    rw [hq] at c2 e
    cases dt with
    | func fd =>
      obtain ⟨n1, n2, n3, n4, n5, n6, n7, n8, n9, n10, n11, n12, n13, n14, n15⟩ := fd
      have e2 : (some (n1, n2, n3, n4, n5, n6, n7, n15) : He.FnW) = some (d.name, d.qual, d.params, .stmts d.body, d.scope, mainGlobals, [], builtinsNs) := e
      simp only [Option.some.injEq, Prod.mk.injEq] at e2
      obtain ⟨h1, h2, h3, h4, h5, h6, h7, h8⟩ := e2
      subst h1 h2 h3 h4 h5 h6 h7 h8
      have c3 : (PySem.W.codeIn K n13 d.qual && (He.dflB K n8 [] && He.kwdB K n9 [])) = true := c2
      obtain ⟨k1, k2⟩ := Bool.and_eq_true_iff.mp c3
      obtain ⟨k3, k4⟩ := Bool.and_eq_true_iff.mp k2
      exact ⟨_, ⟨oc, od, n8, n9, n10, n11, n12, n13, n14, osl, rfl, hq, k1, dflB_nil k3, kwdB_nil k4⟩, kp⟩
    | _ => cases c2
end CP
namespace CP
open PySem PySem.Spec PyProof.Rows L2
/-! ### the text -/
def top (i : Nat) : Stmt := PySem.Challenge.pw_colourpicks_k23_errors_made.main.body.getD i (.Pass ⟨0, 0, 0, 0⟩)
def inCls (s : Stmt) (j : Nat) : Stmt := match s with
  | .ClassDef _ _ _ body _ _ _ _ _ _ _ => body.getD j (.Pass ⟨0, 0, 0, 0⟩)
  | s => s
abbrev st_law_draw : Stmt := top 27
abbrev st_law_one : Stmt := top 28
abbrev st_InvalidPoints_init : Stmt := inCls (top 2) 0
abbrev st_InvalidColours_init : Stmt := inCls (top 3) 0
abbrev st_InvalidText_init : Stmt := inCls (top 4) 0
abbrev st_InvalidLot_init : Stmt := inCls (top 5) 0
abbrev st_InvalidPick_init : Stmt := inCls (top 6) 0
abbrev st_InvalidIndex_init : Stmt := inCls (top 7) 0
abbrev st_InvalidDirection_init : Stmt := inCls (top 8) 0
abbrev st_InvalidTold_init : Stmt := inCls (top 9) 0
abbrev st_InvalidSeen_init : Stmt := inCls (top 10) 0
abbrev st_InvalidDeeds_init : Stmt := inCls (top 11) 0
abbrev st_InvalidPromise_init : Stmt := inCls (top 12) 0
abbrev st_InvalidLine_init : Stmt := inCls (top 13) 0
abbrev st_NotAGround_init : Stmt := inCls (top 14) 0
abbrev st_UnknownColour_init : Stmt := inCls (top 16) 0
abbrev st_NotAround_init : Stmt := inCls (top 17) 0
abbrev st_Refused_init : Stmt := inCls (top 19) 0
abbrev st_Broken_init : Stmt := inCls (top 22) 0
abbrev st_TooMany_init : Stmt := inCls (top 24) 0
abbrev st_law_made_ones : Stmt := top 29
abbrev st_law_kind_of : Stmt := top 30
abbrev st_law_bases : Stmt := top 32
abbrev st_law_attribute : Stmt := top 31
abbrev st_law_right : Stmt := top 33
abbrev st_law_bag : Stmt := top 26
abbrev st_law : Stmt := top 34
def dd_law_draw : He.DefD := ⟨("_law_draw", none), "_law_draw", "_law_draw", defArgs st_law_draw, defBody st_law_draw, defScope st_law_draw, [], []⟩
def dd_law_one : He.DefD := ⟨("_law_one", none), "_law_one", "_law_one", defArgs st_law_one, defBody st_law_one, defScope st_law_one, [], []⟩
def dd_InvalidPoints_init : He.DefD := ⟨("InvalidPoints", some "__init__"), "__init__", "InvalidPoints.__init__", defArgs st_InvalidPoints_init, defBody st_InvalidPoints_init, defScope st_InvalidPoints_init, [], []⟩
def dd_InvalidColours_init : He.DefD := ⟨("InvalidColours", some "__init__"), "__init__", "InvalidColours.__init__", defArgs st_InvalidColours_init, defBody st_InvalidColours_init, defScope st_InvalidColours_init, [], []⟩
def dd_InvalidText_init : He.DefD := ⟨("InvalidText", some "__init__"), "__init__", "InvalidText.__init__", defArgs st_InvalidText_init, defBody st_InvalidText_init, defScope st_InvalidText_init, [], []⟩
def dd_InvalidLot_init : He.DefD := ⟨("InvalidLot", some "__init__"), "__init__", "InvalidLot.__init__", defArgs st_InvalidLot_init, defBody st_InvalidLot_init, defScope st_InvalidLot_init, [], []⟩
def dd_InvalidPick_init : He.DefD := ⟨("InvalidPick", some "__init__"), "__init__", "InvalidPick.__init__", defArgs st_InvalidPick_init, defBody st_InvalidPick_init, defScope st_InvalidPick_init, [], []⟩
def dd_InvalidIndex_init : He.DefD := ⟨("InvalidIndex", some "__init__"), "__init__", "InvalidIndex.__init__", defArgs st_InvalidIndex_init, defBody st_InvalidIndex_init, defScope st_InvalidIndex_init, [], []⟩
def dd_InvalidDirection_init : He.DefD := ⟨("InvalidDirection", some "__init__"), "__init__", "InvalidDirection.__init__", defArgs st_InvalidDirection_init, defBody st_InvalidDirection_init, defScope st_InvalidDirection_init, [], []⟩
def dd_InvalidTold_init : He.DefD := ⟨("InvalidTold", some "__init__"), "__init__", "InvalidTold.__init__", defArgs st_InvalidTold_init, defBody st_InvalidTold_init, defScope st_InvalidTold_init, [], []⟩
def dd_InvalidSeen_init : He.DefD := ⟨("InvalidSeen", some "__init__"), "__init__", "InvalidSeen.__init__", defArgs st_InvalidSeen_init, defBody st_InvalidSeen_init, defScope st_InvalidSeen_init, [], []⟩
def dd_InvalidDeeds_init : He.DefD := ⟨("InvalidDeeds", some "__init__"), "__init__", "InvalidDeeds.__init__", defArgs st_InvalidDeeds_init, defBody st_InvalidDeeds_init, defScope st_InvalidDeeds_init, [], []⟩
def dd_InvalidPromise_init : He.DefD := ⟨("InvalidPromise", some "__init__"), "__init__", "InvalidPromise.__init__", defArgs st_InvalidPromise_init, defBody st_InvalidPromise_init, defScope st_InvalidPromise_init, [], []⟩
def dd_InvalidLine_init : He.DefD := ⟨("InvalidLine", some "__init__"), "__init__", "InvalidLine.__init__", defArgs st_InvalidLine_init, defBody st_InvalidLine_init, defScope st_InvalidLine_init, [], []⟩
def dd_NotAGround_init : He.DefD := ⟨("NotAGround", some "__init__"), "__init__", "NotAGround.__init__", defArgs st_NotAGround_init, defBody st_NotAGround_init, defScope st_NotAGround_init, [], []⟩
def dd_UnknownColour_init : He.DefD := ⟨("UnknownColour", some "__init__"), "__init__", "UnknownColour.__init__", defArgs st_UnknownColour_init, defBody st_UnknownColour_init, defScope st_UnknownColour_init, [], []⟩
def dd_NotAround_init : He.DefD := ⟨("NotAround", some "__init__"), "__init__", "NotAround.__init__", defArgs st_NotAround_init, defBody st_NotAround_init, defScope st_NotAround_init, [], []⟩
def dd_Refused_init : He.DefD := ⟨("Refused", some "__init__"), "__init__", "Refused.__init__", defArgs st_Refused_init, defBody st_Refused_init, defScope st_Refused_init, [], []⟩
def dd_Broken_init : He.DefD := ⟨("Broken", some "__init__"), "__init__", "Broken.__init__", defArgs st_Broken_init, defBody st_Broken_init, defScope st_Broken_init, [], []⟩
def dd_TooMany_init : He.DefD := ⟨("TooMany", some "__init__"), "__init__", "TooMany.__init__", defArgs st_TooMany_init, defBody st_TooMany_init, defScope st_TooMany_init, [], []⟩
def dd_law_made_ones : He.DefD := ⟨("_law_made_ones", none), "_law_made_ones", "_law_made_ones", defArgs st_law_made_ones, defBody st_law_made_ones, defScope st_law_made_ones, [], []⟩
def dd_law_kind_of : He.DefD := ⟨("_law_kind_of", none), "_law_kind_of", "_law_kind_of", defArgs st_law_kind_of, defBody st_law_kind_of, defScope st_law_kind_of, [], []⟩
def dd_law_bases : He.DefD := ⟨("_law_bases", none), "_law_bases", "_law_bases", defArgs st_law_bases, defBody st_law_bases, defScope st_law_bases, [], []⟩
def dd_law_attribute : He.DefD := ⟨("_law_attribute", none), "_law_attribute", "_law_attribute", defArgs st_law_attribute, defBody st_law_attribute, defScope st_law_attribute, [], []⟩
def dd_law_right : He.DefD := ⟨("_law_right", none), "_law_right", "_law_right", defArgs st_law_right, defBody st_law_right, defScope st_law_right, [], []⟩
def dd_law_bag : He.DefD := ⟨("_law_bag", none), "_law_bag", "_law_bag", defArgs st_law_bag, defBody st_law_bag, defScope st_law_bag, [], []⟩
def dd_law : He.DefD := ⟨("law", none), "law", "law", defArgs st_law, defBody st_law, defScope st_law, [], []⟩
def fn : List He.DefD := [dd_law_draw, dd_law_one, dd_InvalidPoints_init, dd_InvalidColours_init, dd_InvalidText_init, dd_InvalidLot_init, dd_InvalidPick_init, dd_InvalidIndex_init, dd_InvalidDirection_init, dd_InvalidTold_init, dd_InvalidSeen_init, dd_InvalidDeeds_init, dd_InvalidPromise_init, dd_InvalidLine_init, dd_NotAGround_init, dd_UnknownColour_init, dd_NotAround_init, dd_Refused_init, dd_Broken_init, dd_TooMany_init, dd_law_made_ones, dd_law_kind_of, dd_law_bases, dd_law_attribute, dd_law_right, dd_law_bag, dd_law]
def fa : List He.Fa := [.free "range", .free "len", .free "min", .free "max", .free "int", .glo "InvalidPoints", .free "isinstance", .glo "InvalidColours", .glo "InvalidText", .glo "InvalidLot", .glo "InvalidPick", .glo "InvalidIndex", .glo "InvalidDirection", .glo "InvalidTold", .glo "InvalidSeen", .glo "InvalidDeeds", .glo "InvalidPromise", .glo "InvalidLine", .glo "NotAGround", .glo "UnknownColour", .glo "NotAround", .glo "Refused", .glo "Broken", .glo "TooMany", .glo "ShapeError", .glo "QuestionError", .glo "SizeError", .free "ValueError", .free "LookupError", .free "ArithmeticError", .free "repr", .free "enumerate", .glo "NoCompletion", .glo "Busy", .glo "NothingToUndo", .free "abs", .free "all", .glo "_law_draw", .glo "_law_one", .glo "_law_made_ones", .glo "_law_kind_of", .glo "_law_bases", .glo "_law_attribute", .glo "_law_right", .glo "_law_bag", .glo "law"]
def exI (_ : PySem.W.Frag) : Bool := true
def exR : List ErrR := [(.ve, "InvalidPoints", "index", ["InvalidPoints", "ShapeError"], ["ValueError"]),
  (.ve, "InvalidColours", "value", ["InvalidColours", "ShapeError"], ["ValueError"]),
  (.ve, "InvalidText", "value", ["InvalidText", "ShapeError"], ["ValueError"]),
  (.ve, "InvalidLot", "index", ["InvalidLot", "ShapeError"], ["ValueError"]),
  (.ve, "InvalidPick", "value", ["InvalidPick", "ShapeError"], ["ValueError"]),
  (.ve, "InvalidIndex", "value", ["InvalidIndex", "ShapeError"], ["ValueError"]),
  (.ve, "InvalidDirection", "value", ["InvalidDirection", "ShapeError"], ["ValueError"]),
  (.ve, "InvalidTold", "value", ["InvalidTold", "ShapeError"], ["ValueError"]),
  (.ve, "InvalidSeen", "index", ["InvalidSeen", "ShapeError"], ["ValueError"]),
  (.ve, "InvalidDeeds", "index", ["InvalidDeeds", "ShapeError"], ["ValueError"]),
  (.ve, "InvalidPromise", "value", ["InvalidPromise", "ShapeError"], ["ValueError"]),
  (.ve, "InvalidLine", "value", ["InvalidLine", "ShapeError"], ["ValueError"]),
  (.ve, "NotAGround", "value", ["NotAGround", "ShapeError"], ["ValueError"]),
  (.le, "UnknownColour", "value", ["UnknownColour", "QuestionError"], ["LookupError"]),
  (.le, "NotAround", "value", ["NotAround", "QuestionError"], ["LookupError"]),
  (.le, "Refused", "value", ["Refused", "QuestionError"], ["LookupError"]),
  (.le, "Broken", "index", ["Broken", "QuestionError"], ["LookupError"]),
  (.ae, "TooMany", "limit", ["TooMany", "SizeError"], ["ArithmeticError"])]
def exN : List ErrR := [(.le, "NoCompletion", "", ["NoCompletion", "QuestionError"], ["LookupError"]),
  (.le, "Busy", "", ["Busy", "QuestionError"], ["LookupError"]),
  (.le, "NothingToUndo", "", ["NothingToUndo", "QuestionError"], ["LookupError"])]
def exBs : List Str := ["ShapeError", "QuestionError", "SizeError"]
def exGs : List Str := ["InvalidPoints", "InvalidColours", "InvalidText", "InvalidLot", "InvalidPick", "InvalidIndex", "InvalidDirection", "InvalidTold", "InvalidSeen", "InvalidDeeds", "InvalidPromise", "InvalidLine", "NotAGround", "UnknownColour", "NotAround", "Refused", "Broken", "TooMany", "ShapeError", "QuestionError", "SizeError", "NoCompletion", "Busy", "NothingToUndo"]
def exTys : List String := ["ValueError", "LookupError", "ArithmeticError"]
abbrev exL : List Str := (exR ++ exN).map fun p => p.2.1
abbrev exA : List (Str × Str) := exR.map fun p => (p.2.1, p.2.2.1)
def exE (K : PySem.W.Frag) : Bool := exR.all (errB K exBs exGs exTys) && exN.all (errN K exBs exGs exTys)
def ex (K : PySem.W.Frag) : Bool := exI K && exE K
def tfs : List (He.Defn × Str) := []
/-! ### the head -/
def loose0 : List Str := ["__name__", "ShapeError", "InvalidPoints", "InvalidColours", "InvalidText", "InvalidLot", "InvalidPick", "InvalidIndex", "InvalidDirection", "InvalidTold", "InvalidSeen", "InvalidDeeds", "InvalidPromise", "InvalidLine", "NotAGround", "QuestionError", "UnknownColour", "NotAround", "NoCompletion", "Refused"]
def loose1 : List Str := ["Busy", "NothingToUndo", "Broken", "SizeError", "TooMany", "_law_bag", "_law_draw", "_law_one", "_law_made_ones", "_law_kind_of", "_law_attribute", "_law_bases", "_law_right"]
def loose : List Str := loose0 ++ loose1
abbrev Rw : PySem.W.OpenRow := PySem.W.OpenLaw.row PySem.Challenge.rw_colourpicks_k23_errors_made
abbrev exT : PySem.W.Frag → Bool := fun K => ex K && tabsNd tfs K
def cms : List Cm := []
noncomputable abbrev hk : PySem.W.Hook := hookZ 1000 fa fn cms (tfs.map (·.1)) exT
noncomputable def ob (s : PySem.W.SharedT) : AlZ := obsZ 1000 fa fn cms (tfs.map (·.1)) exT (HandSHeadRun.getT s)
theorem ob_eq (s : PySem.W.SharedT) : ob s = hk.obs s.abs := obsZ_eq (HandSHeadRun.getT_eq s)
set_option maxHeartbeats 0 in
theorem runA (w : World) (os : OsState) : (HandSHeadRun.endF (HandSHeadRun.stepQ (HandSHeadRun.denQ HandSHeadRun.tabQ) Rw.prog w) 20000 Rw.prog w os).map (fun s => (HandSHeadRun.looksF Rw.prog (PySem.W.boot_heap w.params) s.abs, HandSHeadRun.seenQ (PySem.W.view Rw.prog [34]) loose (importedModules Rw.prog.main.body) (fun s => PySem.W.xlAt (PySem.W.view Rw.prog [34]) [] s && PySem.W.recOk Rw.toRowW.records s) s.abs)) = some (true, PySem.W.openGood (PySem.W.view Rw.prog [34]) loose) := by
  kernel_rfl
set_option maxHeartbeats 0 in
theorem runB (w : World) (os : OsState) : (HandSHeadRun.endF (HandSHeadRun.stepQ (HandSHeadRun.denQ HandSHeadRun.tabQ) Rw.prog w) 20000 Rw.prog w os).map (fun s => (fun K : PySem.W.Frag => ((fa.all fun f => f.ok K) && fn.all fun d => d.ok K, fn.map fun d => He.fnW K d.at_)) (KZ 1000 s)) = some (true, fn.map He.DefD.val) := by
  kernel_rfl
set_option maxHeartbeats 0 in
theorem runC (w : World) (os : OsState) : (HandSHeadRun.endF (HandSHeadRun.stepQ (HandSHeadRun.denQ HandSHeadRun.tabQ) Rw.prog w) 20000 Rw.prog w os).map (fun s => (fun K : PySem.W.Frag => (exT K && He.tabsB (HandSHeadRun.getT s) (tfs.map (·.1)) K, cms.map fun q => cmW K q.1)) (KZ 1000 s)) = some (true, cms.map fun q => q.2.val) := by
  kernel_rfl
theorem run (w : World) : HandSHeadRun.RunEq Rw (PySem.W.view Rw.prog [34]) hk ob 20000 loose w := run_3 (runA w) (runB w) (runC w)

end CP
namespace CP
open PySem PySem.Spec PyProof.Rows L2

/-- data: frozen things as values; `mut k` the k-th thing of the store -/
inductive D where
  | non
  | bl (b : Bool)
  | int (i : Int)
  | str (x : Str)
  | ty (n : String)
  | tup (l : List D)
  | lst (l : List D)
  | rol (l : List D)
  | rot (l : List D)
  | dic (t : Bool) (ks vs : List D)
  | ins (c : Str) (ns : List Str) (vs : List D)
  | glo (x : Str)
  | ptr (k : Nat)
  | exc (own : Bool) (c : Str) (ns : List Str) (vs : List D)
  | fdc (ks vs : List D)
  deriving Inhabited

mutual
def D.beq : D → D → Bool
  | .non, .non => true
  | .bl a, .bl b => a == b
  | .int a, .int b => decide (a = b)
  | .str a, .str b => decide (a = b)
  | .ty a, .ty b => decide (a = b)
  | .tup a, .tup b => D.beqs a b
  | .lst a, .lst b => D.beqs a b
  | .rol a, .rol b => D.beqs a b
  | .rot a, .rot b => D.beqs a b
  | .dic t a v, .dic u b w => (t == u) && (D.beqs a b && D.beqs v w)
  | .ins c ns vs, .ins d ms ws => decide (c = d) && (decide (ns = ms) && D.beqs vs ws)
  | .glo a, .glo b => decide (a = b)
  | .ptr a, .ptr b => decide (a = b)
  | .exc o c ns vs, .exc o' d ms ws => (o == o') && (decide (c = d) && (decide (ns = ms) && D.beqs vs ws))
  | .fdc a v, .fdc b w => D.beqs a b && D.beqs v w
  | _, _ => false
def D.beqs : List D → List D → Bool
  | [], [] => true
  | a :: r, b :: t => D.beq a b && D.beqs r t
  | _, _ => false
end
mutual
theorem D.eq_of_beq : ∀ {a b : D}, D.beq a b = true → a = b
  | .non, b, h => by cases b <;> first | rfl | cases h
  | .bl a, b, h => by
    cases b with
    | bl b => rw [beq_iff_eq.mp (show (a == b) = true from h)]
    | _ => cases h
  | .int a, b, h => by
    cases b with
    | int b => rw [of_decide_eq_true (show decide (a = b) = true from h)]
    | _ => cases h
  | .str a, b, h => by
    cases b with
    | str b => rw [of_decide_eq_true (show decide (a = b) = true from h)]
    | _ => cases h
  | .ty a, b, h => by
    cases b with
    | ty b => rw [of_decide_eq_true (show decide (a = b) = true from h)]
    | _ => cases h
  | .tup a, b, h => by
    cases b with
    | tup b => rw [D.eqs_of_beqs (show D.beqs a b = true from h)]
    | _ => cases h
  | .lst a, b, h => by
    cases b with
    | lst b => rw [D.eqs_of_beqs (show D.beqs a b = true from h)]
    | _ => cases h
  | .rol a, b, h => by
    cases b with
    | rol b => rw [D.eqs_of_beqs (show D.beqs a b = true from h)]
    | _ => cases h
  | .rot a, b, h => by
    cases b with
    | rot b => rw [D.eqs_of_beqs (show D.beqs a b = true from h)]
    | _ => cases h
  | .dic t a v, b, h => by
    cases b with
    | dic u b w =>
      obtain ⟨h1, h2⟩ := Bool.and_eq_true_iff.mp (show ((t == u) && (D.beqs a b && D.beqs v w)) = true from h)
      obtain ⟨h2, h3⟩ := Bool.and_eq_true_iff.mp h2
      rw [beq_iff_eq.mp h1, D.eqs_of_beqs h2, D.eqs_of_beqs h3]
    | _ => cases h
  | .ins c ns vs, b, h => by
    cases b with
    | ins d ms ws =>
      obtain ⟨h1, h2⟩ := Bool.and_eq_true_iff.mp (show (decide (c = d) && (decide (ns = ms) && D.beqs vs ws)) = true from h)
      obtain ⟨h2, h3⟩ := Bool.and_eq_true_iff.mp h2
      rw [of_decide_eq_true h1, of_decide_eq_true h2, D.eqs_of_beqs h3]
    | _ => cases h
  | .glo a, b, h => by
    cases b with
    | glo b => rw [of_decide_eq_true (show decide (a = b) = true from h)]
    | _ => cases h
  | .ptr a, b, h => by
    cases b with
    | ptr b => rw [of_decide_eq_true (show decide (a = b) = true from h)]
    | _ => cases h
  | .fdc a v, b, h => by
    cases b with
    | fdc b w =>
      obtain ⟨h1, h2⟩ := Bool.and_eq_true_iff.mp (show (D.beqs a b && D.beqs v w) = true from h)
      rw [D.eqs_of_beqs h1, D.eqs_of_beqs h2]
    | _ => cases h
  | .exc o c ns vs, b, h => by
    cases b with
    | exc o' d ms ws =>
      obtain ⟨h0, h1⟩ := Bool.and_eq_true_iff.mp (show ((o == o') && (decide (c = d) && (decide (ns = ms) && D.beqs vs ws))) = true from h)
      obtain ⟨h1, h2⟩ := Bool.and_eq_true_iff.mp h1
      obtain ⟨h2, h3⟩ := Bool.and_eq_true_iff.mp h2
      rw [beq_iff_eq.mp h0, of_decide_eq_true h1, of_decide_eq_true h2, D.eqs_of_beqs h3]
    | _ => cases h
theorem D.eqs_of_beqs : ∀ {a b : List D}, D.beqs a b = true → a = b
  | [], b, h => by cases b <;> first | rfl | cases h
  | a :: r, b, h => by
    cases b with
    | nil => cases h
    | cons b t =>
      obtain ⟨h1, h2⟩ := Bool.and_eq_true_iff.mp (show (D.beq a b && D.beqs r t) = true from h)
      rw [D.eq_of_beq h1, D.eqs_of_beqs h2]
end
mutual
theorem D.beq_self : ∀ a : D, D.beq a a = true
  | .non => rfl
  | .bl a => beq_self_eq_true a
  | .int a => decide_eq_true (p := a = a) rfl
  | .str a => decide_eq_true (p := a = a) rfl
  | .ty a => decide_eq_true (p := a = a) rfl
  | .tup a => D.beqs_self a
  | .lst a => D.beqs_self a
  | .rol a => D.beqs_self a
  | .rot a => D.beqs_self a
  | .dic t a v => Bool.and_eq_true_iff.mpr ⟨beq_self_eq_true t, Bool.and_eq_true_iff.mpr ⟨D.beqs_self a, D.beqs_self v⟩⟩
  | .ins c ns vs => Bool.and_eq_true_iff.mpr ⟨decide_eq_true (p := c = c) rfl, Bool.and_eq_true_iff.mpr ⟨decide_eq_true (p := ns = ns) rfl, D.beqs_self vs⟩⟩
  | .glo a => decide_eq_true (p := a = a) rfl
  | .ptr a => decide_eq_true (p := a = a) rfl
  | .fdc a v => Bool.and_eq_true_iff.mpr ⟨D.beqs_self a, D.beqs_self v⟩
  | .exc o c ns vs => Bool.and_eq_true_iff.mpr ⟨beq_self_eq_true o, Bool.and_eq_true_iff.mpr ⟨decide_eq_true (p := c = c) rfl, Bool.and_eq_true_iff.mpr ⟨decide_eq_true (p := ns = ns) rfl, D.beqs_self vs⟩⟩⟩
theorem D.beqs_self : ∀ a : List D, D.beqs a a = true
  | [] => rfl
  | a :: r => Bool.and_eq_true_iff.mpr ⟨D.beq_self a, D.beqs_self r⟩
end
instance : DecidableEq D := fun a b => if h : D.beq a b = true then .isTrue (D.eq_of_beq h) else .isFalse fun e => h (by rw [e]; exact D.beq_self b)

abbrev Store := List D
abbrev Env := List (Option D)

/-- an exception: its class (own: by its global name; else built-in), its fields -/
structure Exn where
  own : Bool
  c : Str
  ns : List Str
  vs : List D

inductive R (α : Type) where
  | ok (a : α) (O : Store)
  | err (x : Exn) (O : Store)
  | stuck

def R.bind {α β : Type} (r : R α) (f : α → Store → R β) : R β := match r with
  | .ok a O => f a O
  | .err x O => .err x O
  | .stuck => .stuck
@[simp] theorem R.bind_ok {α β : Type} (a : α) (O : Store) (f : α → Store → R β) : (R.ok a O).bind f = f a O := id rfl
@[simp] theorem R.bind_err {α β : Type} (x : Exn) (O : Store) (f : α → Store → R β) : (R.err x O : R α).bind f = .err x O := id rfl
@[simp] theorem R.bind_stuck {α β : Type} (f : α → Store → R β) : (R.stuck : R α).bind f = .stuck := id rfl

/-- what a law's run stands on -/
structure Univ where
  P : Program
  w : World
  K : PySem.W.Frag
  mg : Str → Option Value
  base : Heap
  /-- the tables of code objects, and the names of what they hold -/
  T : List (Addr × Str)

section
variable (U : Univ)

/-- a written or a tracked list that is not in the store -/
def FrL (ad : List Addr) (H : Hp) (a : Addr) (xs : List V) : Prop := SqL U.K (fun _ => none) a xs ∨ (Rd H a (.lst xs) ∧ a ∉ ad)
/-- a tuple of which the object itself is known: it has no dict -/
def FrT (ad : List Addr) (H : Hp) (a : Addr) (xs : List V) : Prop := (SqT U.K (fun _ => none) a xs ∧ ∃ o, U.K.lookup a = some o ∧ o.cls = .type "tuple" ∧ o.dict = none) ∨ (∃ o, H a = some (.frz o (.tup xs)) ∧ o.dict = none ∧ a ∉ ad)
def kD : Key → D
  | .inl i => .int i
  | .inr x => .str x

/-- the class of an exception, by its name -/
def ExcCl (o : Bool) (c : Str) (cl : Value) : Prop := if o = true then U.mg c = some cl else bootBuiltins c = some cl
/-- an exception that was caught: its object, of this class, with this dict -/
def ExcO (cl : Value) (dx : Option Addr) (a : Addr) : HO := .ext fun h => ∃ (oe : Obj) (vs : Array Value), h.get? a = some oe ∧ oe.cls = cl ∧ oe.dict = dx ∧ oe.data = .fields vs
mutual
def Rep (ad : List Addr) (H : Hp) : D → V → Prop
  | .non, v => v = .non
  | .bl b, v => v = .bl b
  | .int i, v => v = .int i
  | .str x, v => v = .str x
  | .ty n, v => v = .ty n
  | .tup l, v => ∃ a xs, v = .ref a ∧ H a = some (.tup xs) ∧ a ∉ ad ∧ Reps ad H l xs
  | .rot l, v => ∃ a xs, v = .ref a ∧ FrT U ad H a xs ∧ Reps ad H l xs
  | .lst l, v => ∃ a xs, v = .ref a ∧ H a = some (.lst xs) ∧ a ∉ ad ∧ Reps ad H l xs
  | .rol l, v => ∃ a xs, v = .ref a ∧ FrL U ad H a xs ∧ Reps ad H l xs
  | .dic false ks vs, v => ∃ a, v = .ref a ∧ a ∉ ad ∧ ∃ kvs, H a = some (.dK kvs) ∧ ks = kvs.map (fun p => kD p.1) ∧ Reps ad H vs (kvs.map (·.2))
  | .dic true ks vs, v => ∃ a, v = .ref a ∧ a ∉ ad ∧ ∃ kvs, H a = some (.dT kvs) ∧ ks = kvs.map (fun p => D.tup (p.1.map kD)) ∧ Reps ad H vs (kvs.map (·.2))
  | .ins c ns vs, v => ∃ a C dx fs, v = .ref a ∧ a ∉ ad ∧ H a = some (.ins C dx fs) ∧ U.mg c = some (.ref C) ∧ fs.map (·.1) = ns ∧ Reps ad H vs (fs.map (·.2))
  | .glo x, v => ∃ u, U.mg x = some u ∧ RelV v u
  | .ptr k, v => ∃ a, v = .ref a ∧ ad[k]? = some a
  | .fdc ks vs, v => ∃ a, v = .ref a ∧ a ∉ ad ∧ ∃ kvs ob, H a = some (.frz ob (.dK kvs)) ∧ ks = kvs.map (fun p => kD p.1) ∧ Reps ad H vs (kvs.map (·.2))
  | .exc o c ns vs, v => ∃ a cl dx fs, v = .ref a ∧ a ∉ ad ∧ H a = some (ExcO cl dx a) ∧ ExcCl U o c cl ∧ ns = fs.map (·.1) ∧ ((fs = [] ∧ dx = none) ∨ ∃ d, dx = some d ∧ H d = some (.xd fs) ∧ d ∉ ad) ∧ Reps ad H vs (fs.map (·.2))
def Reps (ad : List Addr) (H : Hp) : List D → List V → Prop
  | [], vs => vs = []
  | d :: ds, vs => ∃ v r, vs = v :: r ∧ Rep ad H d v ∧ Reps ad H ds r
end

/-- the store's thing d stands at a -/
def Cell (ad : List Addr) (H : Hp) : D → Addr → Prop
  | .lst l, a => ∃ xs, H a = some (.lst xs) ∧ Reps U ad H l xs
  | .dic false ks vs, a => ∃ kvs, H a = some (.dK kvs) ∧ ks = kvs.map (fun p => kD p.1) ∧ Reps U ad H vs (kvs.map (·.2))
  | .dic true ks vs, a => ∃ kvs, H a = some (.dT kvs) ∧ ks = kvs.map (fun p => D.tup (p.1.map kD)) ∧ Reps U ad H vs (kvs.map (·.2))
  | .ins c ns vs, a => ∃ C dx fs, H a = some (.ins C dx fs) ∧ U.mg c = some (.ref C) ∧ fs.map (·.1) = ns ∧ Reps U ad H vs (fs.map (·.2))
  | _, _ => False

structure Sim (ad : List Addr) (O : Store) (H : Hp) : Prop where
  nd : ad.Nodup
  len : ad.length = O.length
  at_ : ∀ (k : Nat) (a : Addr) (d : D), ad[k]? = some a → O[k]? = some d → Cell U ad H d a
  tb : LamX.Tabs U.T H

/-- from one state to a later one: what is not in the store stays -/
structure Step (ad : List Addr) (H : Hp) (ad' : List Addr) (H' : Hp) : Prop where
  pre : ∃ l, ad' = ad ++ l
  keep : ∀ a o, H a = some o → (∀ ps, o ≠ .tbl ps) → a ∉ ad → H' a = some o ∧ a ∉ ad'
end

section
variable {U : Univ} {ad ad' ad'' : List Addr} {H H' H'' : Hp} {O O' : Store}
theorem Step.refl : Step ad H ad H := ⟨⟨[], (List.append_nil _).symm⟩, fun _ _ h _ n => ⟨h, n⟩⟩
theorem Step.trans (a : Step ad H ad' H') (b : Step ad' H' ad'' H'') : Step ad H ad'' H'' := by
  obtain ⟨l, rfl⟩ := a.pre
  obtain ⟨l', rfl⟩ := b.pre
  exact ⟨⟨l ++ l', by rw [List.append_assoc]⟩, fun c o h t n => let ⟨h1, n1⟩ := a.keep c o h t n; b.keep c o h1 t n1⟩
theorem Step.ix (s : Step ad H ad' H') {k : Nat} {a : Addr} (h : ad[k]? = some a) : ad'[k]? = some a := by
  obtain ⟨l, rfl⟩ := s.pre
  rw [List.getElem?_append_left (List.getElem?_eq_some_iff.mp h).1]
  exact h
theorem Rd.keep {a : Addr} {u : HO} (s : Step ad H ad' H') (t : ∀ ps, u ≠ .tbl ps) (h : Rd H a u ∧ a ∉ ad) : Rd H' a u ∧ a ∉ ad' := by
  obtain ⟨h, n⟩ := h
  rcases h with h | ⟨o, h⟩
  · have q := s.keep a _ h t n
    exact ⟨.inl q.1, q.2⟩
  · have q := s.keep a _ h (fun _ z => nomatch z) n
    exact ⟨.inr ⟨o, q.1⟩, q.2⟩
theorem FrL.keep {a : Addr} {xs : List V} (s : Step ad H ad' H') (h : FrL U ad H a xs) : FrL U ad' H' a xs := h.elim .inl fun q => .inr (Rd.keep s (fun _ z => nomatch z) q)
theorem FrT.keep {a : Addr} {xs : List V} (s : Step ad H ad' H') (h : FrT U ad H a xs) : FrT U ad' H' a xs := h.elim .inl fun ⟨o, e, d, n⟩ => let q := s.keep a _ e (fun _ z => nomatch z) n; .inr ⟨o, q.1, d, q.2⟩
theorem sqL_none {K : PySem.W.Frag} {a : Addr} {xs : List V} (h : SqL K (fun _ => none) a xs) (H : Hp) : SqL K H a xs := by
  rcases h with (h | ⟨_, h⟩) | h
  · cases h
  · cases h
  · exact .inr h
theorem sqT_none {K : PySem.W.Frag} {a : Addr} {xs : List V} (h : SqT K (fun _ => none) a xs) (H : Hp) : SqT K H a xs := by
  rcases h with (h | ⟨_, h⟩) | h
  · cases h
  · cases h
  · exact .inr h
theorem FrL.sq {a : Addr} {xs : List V} (h : FrL U ad H a xs) : SqL U.K H a xs := h.elim (fun q => sqL_none q H) fun q => .inl q.1
theorem FrT.sq {a : Addr} {xs : List V} (h : FrT U ad H a xs) : SqT U.K H a xs := h.elim (fun q => sqT_none q.1 H) fun ⟨o, e, _⟩ => .inl (.inr ⟨o, e⟩)

mutual
theorem Rep.keep (s : Step ad H ad' H') : ∀ {d : D} {v : V}, Rep U ad H d v → Rep U ad' H' d v
  | .non, _, h => h
  | .bl _, _, h => h
  | .int _, _, h => h
  | .str _, _, h => h
  | .ty _, _, h => h
  | .tup l, _, h => by
    obtain ⟨a, xs, e, f, n, r⟩ := h
    have q := s.keep a _ f (fun _ z => nomatch z) n
    exact ⟨a, xs, e, q.1, q.2, Reps.keep s r⟩
  | .rot l, _, h => by
    obtain ⟨a, xs, e, f, r⟩ := h
    exact ⟨a, xs, e, f.keep s, Reps.keep s r⟩
  | .lst l, _, h => by
    obtain ⟨a, xs, e, f, n, r⟩ := h
    have q := s.keep a _ f (fun _ z => nomatch z) n
    exact ⟨a, xs, e, q.1, q.2, Reps.keep s r⟩
  | .rol l, _, h => by
    obtain ⟨a, xs, e, f, r⟩ := h
    exact ⟨a, xs, e, f.keep s, Reps.keep s r⟩
  | .dic false ks vs, _, h => by
    obtain ⟨a, e, n, kvs, h, k, r⟩ := h
    have q := s.keep a _ h (fun _ z => nomatch z) n
    exact ⟨a, e, q.2, kvs, q.1, k, Reps.keep s r⟩
  | .dic true ks vs, _, h => by
    obtain ⟨a, e, n, kvs, h, k, r⟩ := h
    have q := s.keep a _ h (fun _ z => nomatch z) n
    exact ⟨a, e, q.2, kvs, q.1, k, Reps.keep s r⟩
  | .ins c ns vs, _, h => by
    obtain ⟨a, C, dx, fs, e, n, h, m, k, r⟩ := h
    have q := s.keep a _ h (fun _ z => nomatch z) n
    exact ⟨a, C, dx, fs, e, q.2, q.1, m, k, Reps.keep s r⟩
  | .glo _, _, h => h
  | .ptr k, _, h => by
    obtain ⟨a, e, h⟩ := h
    exact ⟨a, e, s.ix h⟩
  | .fdc ks vs, _, h => by
    obtain ⟨a, e, n, kvs, ob, h, k, r⟩ := h
    have q := s.keep a _ h (fun _ z => nomatch z) n
    exact ⟨a, e, q.2, kvs, ob, q.1, k, Reps.keep s r⟩
  | .exc o c ns vs, _, h => by
    obtain ⟨a, cl, dx, fs, e, n, h, m, k, hd, r⟩ := h
    have q := s.keep a _ h (fun _ z => nomatch z) n
    refine ⟨a, cl, dx, fs, e, q.2, q.1, m, k, hd.imp id fun ⟨d, e1, e2, e3⟩ => ?_, Reps.keep s r⟩
    have q2 := s.keep d _ e2 (fun _ z => nomatch z) e3
    exact ⟨d, e1, q2.1, q2.2⟩
theorem Reps.keep (s : Step ad H ad' H') : ∀ {ds : List D} {vs : List V}, Reps U ad H ds vs → Reps U ad' H' ds vs
  | [], _, h => h
  | d :: ds, _, h => by
    obtain ⟨v, r, e, q, t⟩ := h
    exact ⟨v, r, e, Rep.keep s q, Reps.keep s t⟩
end

theorem Reps.nil : Reps U ad H [] [] := rfl
theorem Reps.cons {d : D} {ds : List D} {v : V} {vs : List V} (h : Rep U ad H d v) (t : Reps U ad H ds vs) : Reps U ad H (d :: ds) (v :: vs) := ⟨v, vs, rfl, h, t⟩
theorem Reps.length : ∀ {ds : List D} {vs : List V}, Reps U ad H ds vs → ds.length = vs.length
  | [], _, h => by cases h; rfl
  | _ :: _, _, h => by
    obtain ⟨v, r, rfl, _, t⟩ := h
    rw [List.length_cons, List.length_cons, t.length]
theorem Reps.get : ∀ {ds : List D} {vs : List V} {i : Nat} {d : D}, Reps U ad H ds vs → ds[i]? = some d → ∃ v, vs[i]? = some v ∧ Rep U ad H d v
  | [], _, _, _, _, e => by simp at e
  | _ :: _, _, 0, _, h, e => by
    obtain ⟨v, r, rfl, q, _⟩ := h
    simp at e; subst e
    exact ⟨v, rfl, q⟩
  | _ :: _, _, i + 1, _, h, e => by
    obtain ⟨v, r, rfl, _, t⟩ := h
    obtain ⟨u, e1, q⟩ := t.get (i := i) (by simpa using e)
    exact ⟨u, by simpa using e1, q⟩
theorem Reps.append : ∀ {ds es : List D} {vs us : List V}, Reps U ad H ds vs → Reps U ad H es us → Reps U ad H (ds ++ es) (vs ++ us)
  | [], _, _, _, h, k => by cases h; exact k
  | _ :: _, _, _, _, h, k => by
    obtain ⟨v, r, rfl, q, t⟩ := h
    exact ⟨v, _, rfl, q, t.append k⟩
theorem Reps.take : ∀ {ds : List D} {vs : List V} (n : Nat), Reps U ad H ds vs → Reps U ad H (ds.take n) (vs.take n)
  | _, _, 0, _ => rfl
  | [], _, n + 1, h => by cases h; rfl
  | _ :: _, _, n + 1, h => by
    obtain ⟨v, r, rfl, q, t⟩ := h
    exact ⟨v, _, rfl, q, t.take n⟩
theorem Reps.drop : ∀ {ds : List D} {vs : List V} (n : Nat), Reps U ad H ds vs → Reps U ad H (ds.drop n) (vs.drop n)
  | _, _, 0, h => h
  | [], _, n + 1, h => by cases h; rfl
  | _ :: _, _, n + 1, h => by
    obtain ⟨v, r, rfl, _, t⟩ := h
    exact t.drop n
theorem Reps.set : ∀ {ds : List D} {vs : List V} {d : D} {v : V} (i : Nat), Reps U ad H ds vs → Rep U ad H d v → Reps U ad H (ds.set i d) (vs.set i v)
  | [], _, _, _, _, h, _ => by cases h; rfl
  | _ :: _, _, _, _, 0, h, k => by
    obtain ⟨v, r, rfl, _, t⟩ := h
    exact ⟨_, _, rfl, k, t⟩
  | _ :: _, _, _, _, i + 1, h, k => by
    obtain ⟨v, r, rfl, q, t⟩ := h
    exact ⟨_, _, rfl, q, t.set i k⟩
theorem Reps.none_of {ds : List D} {vs : List V} {i : Nat} (h : Reps U ad H ds vs) (e : ds[i]? = none) : vs[i]? = none := by
  have l := h.length
  have := List.getElem?_eq_none_iff.mp e
  exact List.getElem?_eq_none_iff.mpr (by omega)

theorem Cell.there : ∀ {d : D} {a : Addr}, Cell U ad H d a → ∃ o, H a = some o
  | .lst _, _, h => let ⟨_, e, _⟩ := h; ⟨_, e⟩
  | .dic false _ _, _, h => let ⟨_, e, _⟩ := h; ⟨_, e⟩
  | .dic true _ _, _, h => let ⟨_, e, _⟩ := h; ⟨_, e⟩
  | .ins _ _ _, _, h => let ⟨_, _, _, e, _⟩ := h; ⟨_, e⟩
  | .non, _, h => h.elim
  | .bl _, _, h => h.elim
  | .int _, _, h => h.elim
  | .str _, _, h => h.elim
  | .ty _, _, h => h.elim
  | .tup _, _, h => h.elim
  | .rol _, _, h => h.elim
  | .rot _, _, h => h.elim
  | .glo _, _, h => h.elim
  | .ptr _, _, h => h.elim
  | .exc _ _ _ _, _, h => h.elim
  | .fdc _ _, _, h => h.elim
/-- a store's thing that the step leaves -/
theorem Cell.keep (s : Step ad H ad' H') : ∀ {d : D} {a : Addr}, Cell U ad H d a → (∀ o, H a = some o → (∀ ps, o ≠ .tbl ps) → H' a = some o) → Cell U ad' H' d a
  | .lst _, _, h, k => let ⟨xs, e, r⟩ := h; ⟨xs, k _ e (fun _ z => nomatch z), r.keep s⟩
  | .dic false _ _, _, h, k => let ⟨xs, e, q, r⟩ := h; ⟨xs, k _ e (fun _ z => nomatch z), q, r.keep s⟩
  | .dic true _ _, _, h, k => let ⟨xs, e, q, r⟩ := h; ⟨xs, k _ e (fun _ z => nomatch z), q, r.keep s⟩
  | .ins _ _ _, _, h, k => let ⟨C, dx, fs, e, m, q, r⟩ := h; ⟨C, dx, fs, k _ e (fun _ z => nomatch z), m, q, r.keep s⟩
  | .non, _, h, _ => h.elim
  | .bl _, _, h, _ => h.elim
  | .int _, _, h, _ => h.elim
  | .str _, _, h, _ => h.elim
  | .ty _, _, h, _ => h.elim
  | .tup _, _, h, _ => h.elim
  | .rol _, _, h, _ => h.elim
  | .rot _, _, h, _ => h.elim
  | .glo _, _, h, _ => h.elim
  | .ptr _, _, h, _ => h.elim
  | .exc _ _ _ _, _, h, _ => h.elim
  | .fdc _ _, _, h, _ => h.elim
theorem Sim.there (S : Sim U ad O H) {a : Addr} (h : a ∈ ad) : ∃ o, H a = some o := by
  obtain ⟨k, hk, e⟩ := List.mem_iff_getElem.mp h
  have hO : k < O.length := by rw [← S.len]; exact hk
  exact (S.at_ k a O[k] (by rw [List.getElem?_eq_getElem hk, e]) (List.getElem?_eq_getElem hO)).there
theorem Sim.out (S : Sim U ad O H) {p : Addr} (h : H p = none) : p ∉ ad := fun q => by
  obtain ⟨o, e⟩ := S.there q
  rw [h] at e; cases e

/-- a new thing that stands for good -/
theorem Step.new {p : Addr} {o : HO} (h : H p = none) (n : p ∉ ad) : Step ad H ad (upd H p o) :=
  ⟨⟨[], (List.append_nil _).symm⟩, fun a u q _ m => ⟨by rw [upd_ne (ne_of_none q h)]; exact q, m⟩⟩
theorem Sim.new (S : Sim U ad O H) {p : Addr} {o : HO} (h : H p = none) : Sim U ad O (upd H p o) :=
  ⟨S.nd, S.len, fun k a d e1 e2 => (S.at_ k a d e1 e2).keep (Step.new h (S.out h)) (fun u q _ => by rw [upd_ne (ne_of_none q h)]; exact q), S.tb.ext fun b u q => by rw [upd_ne (ne_of_none q h)]; exact q⟩
/-- a new thing of the store -/
theorem Step.alloc {p : Addr} {o : HO} (h : H p = none) : Step ad H (ad ++ [p]) (upd H p o) :=
  ⟨⟨[p], rfl⟩, fun a u q _ m => ⟨by rw [upd_ne (ne_of_none q h)]; exact q, fun z => by
    rcases List.mem_append.mp z with z | z
    · exact m z
    · rw [List.mem_singleton.mp z, h] at q; cases q⟩⟩
theorem Sim.alloc (S : Sim U ad O H) {p : Addr} {o : HO} {d : D} (h : H p = none) (c : Cell U (ad ++ [p]) (upd H p o) d p) : Sim U (ad ++ [p]) (O ++ [d]) (upd H p o) := by
  have hp := S.out h
  refine ⟨List.nodup_append.mpr ⟨S.nd, by simp, fun a ha b hb => ?_⟩, by simp [S.len], fun k a e h1 h2 => ?_, S.tb.ext fun b u q => by rw [upd_ne (ne_of_none q h)]; exact q⟩
  · rw [List.mem_singleton.mp hb]; exact fun z => hp (z ▸ ha)
  · by_cases hk : k < ad.length
    · rw [List.getElem?_append_left hk] at h1
      rw [List.getElem?_append_left (by rw [← S.len]; exact hk)] at h2
      exact (S.at_ k a e h1 h2).keep (Step.alloc h) fun u q _ => by rw [upd_ne (ne_of_none q h)]; exact q
    · rw [List.getElem?_append_right (by omega)] at h1
      rw [List.getElem?_append_right (by rw [← S.len]; omega)] at h2
      have e1 := List.getElem?_eq_some_iff.mp h1
      have z : k - ad.length = 0 := by have := e1.1; simp at this; omega
      rw [z] at h1
      have z' : k - O.length = 0 := by rw [← S.len]; exact z
      rw [z'] at h2
      simp at h1 h2
      subst h1; subst h2
      exact c
/-- a thing of the store is written -/
theorem Step.put {k : Nat} {a : Addr} {o : HO} (h : ad[k]? = some a) : Step ad H ad (upd H a o) :=
  ⟨⟨[], (List.append_nil _).symm⟩, fun b u q _ m => ⟨by
    rw [upd_ne (fun z => m (by rw [z]; exact List.mem_of_getElem? h))]; exact q, m⟩⟩
theorem Cell.not_tab : ∀ {d : D} {a : Addr}, Cell U ad H d a → ∀ o, H a = some o → (∀ ps, o ≠ .tbl ps) ∧ ∀ c q, o ≠ LamX.CodeO c q
  | .lst _, _, h, o, e => by obtain ⟨_, e', _⟩ := h; rw [e] at e'; cases e'; exact ⟨(fun _ z => nomatch z), (fun _ _ z => nomatch z)⟩
  | .dic false _ _, _, h, o, e => by obtain ⟨_, e', _⟩ := h; rw [e] at e'; cases e'; exact ⟨(fun _ z => nomatch z), (fun _ _ z => nomatch z)⟩
  | .dic true _ _, _, h, o, e => by obtain ⟨_, e', _⟩ := h; rw [e] at e'; cases e'; exact ⟨(fun _ z => nomatch z), (fun _ _ z => nomatch z)⟩
  | .ins _ _ _, _, h, o, e => by obtain ⟨_, _, _, e', _⟩ := h; rw [e] at e'; cases e'; exact ⟨(fun _ z => nomatch z), (fun _ _ z => nomatch z)⟩
  | .non, _, h, _, _ => h.elim
  | .bl _, _, h, _, _ => h.elim
  | .int _, _, h, _, _ => h.elim
  | .str _, _, h, _, _ => h.elim
  | .ty _, _, h, _, _ => h.elim
  | .tup _, _, h, _, _ => h.elim
  | .rol _, _, h, _, _ => h.elim
  | .rot _, _, h, _, _ => h.elim
  | .glo _, _, h, _, _ => h.elim
  | .ptr _, _, h, _, _ => h.elim
  | .exc _ _ _ _, _, h, _, _ => h.elim
  | .fdc _ _, _, h, _, _ => h.elim
theorem Tabs.put {T : List (Addr × Str)} {a : Addr} {o : HO} (t : LamX.Tabs T H) (n : ∀ u, H a = some u → (∀ ps, u ≠ .tbl ps) ∧ ∀ c q, u ≠ LamX.CodeO c q) : LamX.Tabs T (upd H a o) := fun p hp => by
  obtain ⟨ps, h1, h2, h3⟩ := t p hp
  refine ⟨ps, ?_, h2, fun pos cv hc => ?_⟩
  · have ne : p.1 ≠ a := fun z => by
      rw [z] at h1
      exact (n _ h1).1 ps rfl
    rw [upd_ne ne]; exact h1
  · obtain ⟨c, e1, e2⟩ := h3 pos cv hc
    have ne : c ≠ a := fun z => by
      rw [z] at e2
      exact (n _ e2).2 a p.2 rfl
    exact ⟨c, e1, by rw [upd_ne ne]; exact e2⟩
theorem Sim.put (S : Sim U ad O H) {k : Nat} {a : Addr} {o : HO} {d : D} (h : ad[k]? = some a) (c : Cell U ad (upd H a o) d a) : Sim U ad (O.set k d) (upd H a o) := by
  have hk' : k < O.length := by rw [← S.len]; exact (List.getElem?_eq_some_iff.mp h).1
  refine ⟨S.nd, by rw [List.length_set]; exact S.len, fun j b e h1 h2 => ?_, Tabs.put S.tb (S.at_ k a O[k] h (List.getElem?_eq_getElem hk')).not_tab⟩
  by_cases hj : j = k
  · subst hj
    rw [h] at h1; cases h1
    have hl : j < O.length := by rw [← S.len]; exact (List.getElem?_eq_some_iff.mp h).1
    rw [List.getElem?_set_self hl] at h2
    cases h2
    exact c
  · rw [List.getElem?_set_ne (Ne.symm hj)] at h2
    have hb : b ≠ a := fun z => by
      subst z
      obtain ⟨i1, e1⟩ := List.getElem?_eq_some_iff.mp h1
      obtain ⟨i2, e2⟩ := List.getElem?_eq_some_iff.mp h
      exact hj ((List.getElem_inj S.nd).mp (e1.trans e2.symm))
    exact (S.at_ j b e h1 h2).keep (Step.put h) fun u q _ => by rw [upd_ne hb]; exact q
/-- the store cut back to what it was: the new things stand for good -/
theorem Step.cut (s : Step ad H ad' H') : Step ad H ad H' := ⟨⟨[], (List.append_nil _).symm⟩, fun a o h t n => ⟨(s.keep a o h t n).1, n⟩⟩
end
end CP
namespace CP
open PySem PySem.Spec PyProof.Rows L2

/-- the names of a place: by slot, the scope that runs, the written scope -/
structure Cs where
  N : List Str
  sc : Scope
  osc : Scope
  /-- the code object that runs, and its name: where lambdas are made -/
  own : Option (Addr × Str)
  /-- whether an exception is in hand there -/
  hot : Bool

/-- room, whatever is in hand -/
structure RmH (k : Nat) (A : Around) : Prop where
  dp : A.depth + 3 * k + 5 < recursionLimit
  un : A.units + 16 * k + 200 < cLine
theorem RmH.mono {j k : Nat} {A : Around} (r : RmH k A) (h : j ≤ k) : RmH j A := ⟨by have := r.dp; omega, by have := r.un; omega⟩
theorem RmH.deeper {k : Nat} {A : Around} (r : RmH (k + 1) A) (env : PySem.Env) : RmH k (A.deeper env) :=
  ⟨by have := r.dp; show A.depth + 1 + 3 * k + 5 < _; omega, by have := r.un; show A.units + 3 + 16 * k + 200 < _; omega⟩
theorem RmH.depth {k : Nat} {A : Around} (r : RmH k A) : A.depth < recursionLimit := by have := r.dp; omega
theorem RmH.units {k : Nat} {A : Around} (r : RmH k A) : A.units + 64 < cLine := by have := r.un; omega
theorem rmH_of {k : Nat} {A : Around} (r : Room k A) : RmH k A := ⟨r.dp, r.un⟩

structure CtxOk (U : Univ) (c : Cs) (k : Nat) (X : Cx) (W : WX) : Prop where
  u : ∃ T, (⟨X.prog, X.w, X.K, X.mg, X.base, T⟩ : Univ) = U
  n : X.N = c.N
  s : X.env.scope = c.sc
  nd : c.N.Nodup
  calm : c.hot = false → X.calm = true
  tk : Takes X W
  po : PassesOwn (model X.prog X.w) X.A X.env X.xe
  room : RmH k X.A
  hd : c.hot = false → X.A.handled = none
  gd : X.A.guards = some []
  fn : ∀ x, c.osc.names.lookup x = some .cell → X.fn x = true
  code : ∀ z, c.own = some z → X.env.code = .ref z.1 ∧ X.env.qual = z.2

theorem CtxOk.rm {U : Univ} {c : Cs} {k : Nat} {X : Cx} {W : WX} (C : CtxOk U c k X W) (h : c.hot = false) : Room k X.A := ⟨C.hd h, C.room.dp, C.room.un⟩

section
variable (U : Univ) (ad : List Addr) (H : Hp)
structure RepE (σ : Env) (sv : L2.St) : Prop where
  len : σ.length = sv.length
  at_ : ∀ (i : Nat) (d : D), σ[i]? = some (some d) → ∃ v, sv[i]? = some (some v) ∧ Rep U ad H d v
/-- how an exception lies -/
def RepX (x : Exn) (c : Value) (d : Option Addr) : Prop :=
  (if x.own = true then U.mg x.c = some c else bootBuiltins x.c = some c) ∧
  ((x.ns = [] ∧ d = none) ∨ ∃ a fs, d = some a ∧ H a = some (.xd fs) ∧ fs.map (·.1) = x.ns ∧ Reps U ad H x.vs (fs.map (·.2)))
def Post (Q : VK) (E : XK) : R D → Prop
  | .ok d O => ∀ ad' H' v, Step ad H ad' H' → Sim U ad' O H' → Rep U ad' H' d v → Q v H'
  | .err x O => ∀ ad' H' c dx, Step ad H ad' H' → Sim U ad' O H' → RepX U ad' H' x c dx → E c dx H'
  | .stuck => False
def PostL (Q : List V → Hp → Prop) (E : XK) : R (List D) → Prop
  | .ok d O => ∀ ad' H' v, Step ad H ad' H' → Sim U ad' O H' → Reps U ad' H' d v → Q v H'
  | .err x O => ∀ ad' H' c dx, Step ad H ad' H' → Sim U ad' O H' → RepX U ad' H' x c dx → E c dx H'
  | .stuck => False
def PostT (Q : Bool → Hp → Prop) (E : XK) : R Bool → Prop
  | .ok b O => ∀ ad' H', Step ad H ad' H' → Sim U ad' O H' → Q b H'
  | .err x O => ∀ ad' H' c dx, Step ad H ad' H' → Sim U ad' O H' → RepX U ad' H' x c dx → E c dx H'
  | .stuck => False
end

section
variable {U : Univ} {ad ad1 : List Addr} {H H1 : Hp} {Q : VK} {E : XK} {O : Store} {σ : Env} {sv : L2.St}
theorem RepE.keep (s : Step ad H ad1 H1) (h : RepE U ad H σ sv) : RepE U ad1 H1 σ sv := ⟨h.len, fun i d e => let ⟨v, q, r⟩ := h.at_ i d e; ⟨v, q, r.keep s⟩⟩
theorem Post.step (s : Step ad H ad1 H1) : ∀ {r : R D}, Post U ad H Q E r → Post U ad1 H1 Q E r
  | .ok _ _, h => fun ad' H' v s' => h ad' H' v (s.trans s')
  | .err _ _, h => fun ad' H' c dx s' => h ad' H' c dx (s.trans s')
  | .stuck, h => h
theorem PostL.step {Q : List V → Hp → Prop} (s : Step ad H ad1 H1) : ∀ {r : R (List D)}, PostL U ad H Q E r → PostL U ad1 H1 Q E r
  | .ok _ _, h => fun ad' H' v s' => h ad' H' v (s.trans s')
  | .err _ _, h => fun ad' H' c dx s' => h ad' H' c dx (s.trans s')
  | .stuck, h => h
theorem PostT.step {Q : Bool → Hp → Prop} (s : Step ad H ad1 H1) : ∀ {r : R Bool}, PostT U ad H Q E r → PostT U ad1 H1 Q E r
  | .ok _ _, h => fun ad' H' s' => h ad' H' (s.trans s')
  | .err _ _, h => fun ad' H' c dx s' => h ad' H' c dx (s.trans s')
  | .stuck, h => h
theorem Post.mono {Q' : VK} : ∀ {r : R D}, Post U ad H Q E r → (∀ v H1, Q v H1 → Q' v H1) → Post U ad H Q' E r
  | .ok _ _, h, f => fun ad' H' v s S r => f _ _ (h ad' H' v s S r)
  | .err _ _, h, _ => h
  | .stuck, h, _ => h
theorem PostL.mono {Q Q' : List V → Hp → Prop} : ∀ {r : R (List D)}, PostL U ad H Q E r → (∀ v H1, Q v H1 → Q' v H1) → PostL U ad H Q' E r
  | .ok _ _, h, f => fun ad' H' v s S r => f _ _ (h ad' H' v s S r)
  | .err _ _, h, _ => h
  | .stuck, h, _ => h
theorem PostT.mono {Q Q' : Bool → Hp → Prop} : ∀ {r : R Bool}, PostT U ad H Q E r → (∀ v H1, Q v H1 → Q' v H1) → PostT U ad H Q' E r
  | .ok _ _, h, f => fun ad' H' s S => f _ _ (h ad' H' s S)
  | .err _ _, h, _ => h
  | .stuck, h, _ => h
/-- what an expression's value is wanted for -/
theorem Post.bind {r : R D} {f : D → Store → R D} (h : Post U ad H Q E (r.bind f)) :
    Post U ad H (fun v H1 => ∃ ad1 O1 d, Step ad H ad1 H1 ∧ Sim U ad1 O1 H1 ∧ Rep U ad1 H1 d v ∧ Post U ad1 H1 Q E (f d O1)) E r := by
  cases r with
  | ok d O => exact fun ad' H' v s S r => ⟨ad', O, d, s, S, r, h.step s⟩
  | err x O => exact h
  | stuck => exact h
theorem Post.bindL {r : R D} {Q : List V → Hp → Prop} {f : D → Store → R (List D)} (h : PostL U ad H Q E (r.bind f)) :
    Post U ad H (fun v H1 => ∃ ad1 O1 d, Step ad H ad1 H1 ∧ Sim U ad1 O1 H1 ∧ Rep U ad1 H1 d v ∧ PostL U ad1 H1 Q E (f d O1)) E r := by
  cases r with
  | ok d O => exact fun ad' H' v s S r => ⟨ad', O, d, s, S, r, h.step s⟩
  | err x O => exact h
  | stuck => exact h
theorem Post.bindT {r : R D} {Q : Bool → Hp → Prop} {f : D → Store → R Bool} (h : PostT U ad H Q E (r.bind f)) :
    Post U ad H (fun v H1 => ∃ ad1 O1 d, Step ad H ad1 H1 ∧ Sim U ad1 O1 H1 ∧ Rep U ad1 H1 d v ∧ PostT U ad1 H1 Q E (f d O1)) E r := by
  cases r with
  | ok d O => exact fun ad' H' v s S r => ⟨ad', O, d, s, S, r, h.step s⟩
  | err x O => exact h
  | stuck => exact h
theorem PostL.bind {r : R (List D)} {f : List D → Store → R D} (h : Post U ad H Q E (r.bind f)) :
    PostL U ad H (fun v H1 => ∃ ad1 O1 d, Step ad H ad1 H1 ∧ Sim U ad1 O1 H1 ∧ Reps U ad1 H1 d v ∧ Post U ad1 H1 Q E (f d O1)) E r := by
  cases r with
  | ok d O => exact fun ad' H' v s S r => ⟨ad', O, d, s, S, r, h.step s⟩
  | err x O => exact h
  | stuck => exact h
theorem PostL.bindL {r : R (List D)} {Q : List V → Hp → Prop} {f : List D → Store → R (List D)} (h : PostL U ad H Q E (r.bind f)) :
    PostL U ad H (fun v H1 => ∃ ad1 O1 d, Step ad H ad1 H1 ∧ Sim U ad1 O1 H1 ∧ Reps U ad1 H1 d v ∧ PostL U ad1 H1 Q E (f d O1)) E r := by
  cases r with
  | ok d O => exact fun ad' H' v s S r => ⟨ad', O, d, s, S, r, h.step s⟩
  | err x O => exact h
  | stuck => exact h
theorem PostT.bind {r : R Bool} {f : Bool → Store → R D} (h : Post U ad H Q E (r.bind f)) :
    PostT U ad H (fun v H1 => ∃ ad1 O1, Step ad H ad1 H1 ∧ Sim U ad1 O1 H1 ∧ Post U ad1 H1 Q E (f v O1)) E r := by
  cases r with
  | ok d O => exact fun ad' H' s S => ⟨ad', O, s, S, h.step s⟩
  | err x O => exact h
  | stuck => exact h
theorem PostT.bindT {r : R Bool} {Q : Bool → Hp → Prop} {f : Bool → Store → R Bool} (h : PostT U ad H Q E (r.bind f)) :
    PostT U ad H (fun v H1 => ∃ ad1 O1, Step ad H ad1 H1 ∧ Sim U ad1 O1 H1 ∧ PostT U ad1 H1 Q E (f v O1)) E r := by
  cases r with
  | ok d O => exact fun ad' H' s S => ⟨ad', O, s, S, h.step s⟩
  | err x O => exact h
  | stuck => exact h
end

abbrev DE := Env → Store → R D
abbrev DT := Env → Store → R Bool
abbrev DA := Env → Store → R (List D)

def Rd1 (U : Univ) (W : WX) (t : TE) (m : DE) : Prop := ∀ (ad : List Addr) (O : Store) (H : Hp) (σ : Env) (sv : L2.St) (Q : VK), Sim U ad O H → RepE U ad H σ sv → Post U ad H Q (fun cl d H' => W cl d sv H') (m σ O) → t sv H Q
def RdT (U : Univ) (W : WX) (t : TT) (m : DT) : Prop := ∀ (ad : List Addr) (O : Store) (H : Hp) (σ : Env) (sv : L2.St) (Q : Bool → Hp → Prop), Sim U ad O H → RepE U ad H σ sv → PostT U ad H Q (fun cl d H' => W cl d sv H') (m σ O) → t sv H Q
def RdA (U : Univ) (W : WX) (t : TA) (m : DA) : Prop := ∀ (ad : List Addr) (O : Store) (H : Hp) (σ : Env) (sv : L2.St) (Q : List V → Hp → Prop), Sim U ad O H → RepE U ad H σ sv → PostL U ad H Q (fun cl d H' => W cl d sv H') (m σ O) → t sv H Q
def SE (U : Univ) (c : Cs) (k : Nat) (e : Expr) (m : DE) : Prop := ∀ (X : Cx) (W : WX), CtxOk U c k X W → ∃ t, PE X e t ∧ Rd1 U W t m
def ST (U : Univ) (c : Cs) (k : Nat) (e : Expr) (m : DT) : Prop := ∀ (X : Cx) (W : WX), CtxOk U c k X W → ∃ t, PT X e t ∧ RdT U W t m
def SW (U : Univ) (c : Cs) (k : Nat) (e : Expr) (m : DT) : Prop := ∀ (X : Cx) (W : WX), CtxOk U c k X W → ∃ t, PW X e t ∧ RdT U W t m
def SA (U : Univ) (c : Cs) (k : Nat) (es : List Expr) (m : DA) : Prop := ∀ (X : Cx) (W : WX), CtxOk U c k X W → ∃ t, PA X es t ∧ RdA U W t m

def lift {α : Type} (r : Option α) (O : Store) : R α := match r with
  | some d => .ok d O
  | none => .stuck
@[simp] theorem lift_some {α : Type} (d : α) (O : Store) : lift (some d) O = .ok d O := id rfl
@[simp] theorem lift_none {α : Type} (O : Store) : lift (none : Option α) O = .stuck := id rfl

def eV (i : Nat) : DE := fun σ O => match σ[i]? with
  | some (some d) => .ok d O
  | _ => .stuck
def eC (d : D) : DE := fun _ O => .ok d O
section
variable {U : Univ} {c : Cs} {k : Nat} {pos : Pos}
theorem sVar {i : Nat} {x : Str} (hN : c.N[i]? = some x) (hv : Vis c.sc x) (hd : (x == ("__debug__" : Str)) = false) (hcd : (x == ("__classdict__" : Str)) = false) : SE U c k (.Name x pos) (eV i) := by
  intro X W C
  refine ⟨_, pe_var (i := i) (by rw [C.n]; exact hN) (by rw [C.s]; exact hv) hd hcd, ?_⟩
  intro ad O H σ sv Q S r h
  unfold eV at h
  split at h
  · rename_i d e
    obtain ⟨v, e1, q⟩ := r.at_ i d e
    exact ⟨v, e1, h ad H v .refl S q⟩
  · exact h.elim
theorem sCon {e : Expr} {v : V} {d : D} (hp : ∀ X : Cx, PE X e (tC v)) (hr : ∀ ad H, Rep U ad H d v) : SE U c k e (eC d) := by
  intro X W C
  exact ⟨_, hp X, fun ad O H σ sv Q S r h => h ad H v .refl S (hr ad H)⟩
theorem sInt {i : Int} {j : Nat} : SE U c k (.Constant (.int i) j pos) (eC (.int i)) := sCon (fun _ => pe_int) fun _ _ => rfl
theorem sBl {b : Bool} {j : Nat} : SE U c k (.Constant (.bool b) j pos) (eC (.bl b)) := sCon (fun _ => pe_bl) fun _ _ => rfl
theorem sNon {j : Nat} : SE U c k (.Constant .none j pos) (eC .non) := sCon (fun _ => pe_non) fun _ _ => rfl
theorem sStr {x : Str} {j : Nat} : SE U c k (.Constant (.str x) j pos) (eC (.str x)) := sCon (fun _ => pe_str) fun _ _ => rfl
/-- a global: a module's constant -/
theorem sGlo {x : Str} {u : Value} {v : V} {d : D} (hg : c.sc.names.lookup x = some .globalImplicit) (hm : U.mg x = some u) (r : RelV v u) (hr : ∀ ad H, Rep U ad H d v) (hd : (x == ("__debug__" : Str)) = false) : SE U c k (.Name x pos) (eC d) := by
  intro X W C
  refine ⟨_, pe_glob (v := v) (u := u) (by show X.env.scope.names.lookup x = _; rw [C.s]; exact hg) ?_ r hd, fun ad O H σ sv Q S q h => h ad H v .refl S (hr ad H)⟩
  obtain ⟨_, eu⟩ := C.u
  subst eu
  exact hm

def aNil : DA := fun _ O => .ok [] O
def aCons (m : DE) (ms : DA) : DA := fun σ O => (m σ O).bind fun d O1 => (ms σ O1).bind fun ds O2 => .ok (d :: ds) O2
theorem saNil : SA U c k [] aNil := fun X W C => ⟨_, pa_nil, fun ad O H σ sv Q S r h => h ad H [] .refl S rfl⟩
theorem saCons {e : Expr} {es : List Expr} {m : DE} {ms : DA} (he : SE U c k e m) (ht : SA U c k es ms) (hs : ∀ env : PySem.Env, starEach (e :: es) env = (false, eval e env) :: starEach es env := by intro _; rfl) : SA U c k (e :: es) (aCons m ms) := by
  intro X W C
  obtain ⟨t, p, f⟩ := he X W C
  obtain ⟨t', p', f'⟩ := ht X W C
  refine ⟨_, pa_cons p p' (hs _), fun ad O H σ sv Q S r h => f ad O H σ sv _ S r (Post.mono (Post.bindL h) ?_)⟩
  rintro v H1 ⟨ad1, O1, d, s1, S1, r1, h1⟩
  refine f' ad1 O1 H1 σ sv _ S1 (r.keep s1) (PostL.mono (PostL.bindL h1) ?_)
  rintro vs H2 ⟨ad2, O2, ds, s2, S2, r2, h2⟩
  exact h2 ad2 H2 (v :: vs) .refl S2 (.cons (r1.keep s2) r2)
def mkT (ds : List D) (O : Store) : R D := if ds.length ≤ sizeLine then .ok (.tup ds) O else .stuck
def mkL (ds : List D) (O : Store) : R D := if ds.length ≤ sizeLine then .ok (.lst ds) O else .stuck
/-- a list that will change: a thing of the store -/
def mkM (ds : List D) (O : Store) : R D := if ds.length ≤ sizeLine then .ok (.ptr O.length) (O ++ [.lst ds]) else .stuck
def eTup (ms : DA) : DE := fun σ O => (ms σ O).bind mkT
def eLst (ms : DA) : DE := fun σ O => (ms σ O).bind mkL
def eMut (ms : DA) : DE := fun σ O => (ms σ O).bind mkM
theorem rep_tup {ad : List Addr} {O : Store} {H : Hp} {p : Addr} {xs : List V} {ds : List D} (S : Sim U ad O H) (hp : H p = none) (r : Reps U ad H ds xs) : Rep U ad (upd H p (.tup xs)) (.tup ds) (.ref p) :=
  ⟨p, xs, rfl, upd_same, S.out hp, r.keep (Step.new hp (S.out hp))⟩
theorem rep_lst {ad : List Addr} {O : Store} {H : Hp} {p : Addr} {xs : List V} {ds : List D} (S : Sim U ad O H) (hp : H p = none) (r : Reps U ad H ds xs) : Rep U ad (upd H p (.lst xs)) (.lst ds) (.ref p) :=
  ⟨p, xs, rfl, upd_same, S.out hp, r.keep (Step.new hp (S.out hp))⟩
end
end CP
namespace CP
open PySem PySem.Spec PyProof.Rows L2

/-- a thing of the store by its content -/
def der (d : D) (O : Store) : D := match d with
  | .ptr k => O.getD k .non
  | d => d
/-- a list that is read -/
def lstR (d : D) (O : Store) : Option (List D) := match der d O with
  | .lst l => some l
  | .rol l => some l
  | _ => none
/-- .. that is tracked -/
def lstT (d : D) (O : Store) : Option (List D) := match der d O with
  | .lst l => some l
  | _ => none
/-- a list or a tuple -/
def seqR (d : D) (O : Store) : Option (List D) := match der d O with
  | .lst l => some l
  | .rol l => some l
  | .tup l => some l
  | .rot l => some l
  | _ => none

section
variable {U : Univ} {ad : List Addr} {O : Store} {H : Hp}
theorem der_lst (S : Sim U ad O H) {d : D} {v : V} {l : List D} (r : Rep U ad H d v) (e : der d O = .lst l) : ∃ a xs, v = .ref a ∧ H a = some (.lst xs) ∧ Reps U ad H l xs := by
  cases d with
  | ptr k =>
    obtain ⟨a, rfl, ha⟩ := r
    have hk : k < O.length := by rw [← S.len]; exact (List.getElem?_eq_some_iff.mp ha).1
    have e' : O[k]? = some (.lst l) := by
      have : O.getD k .non = .lst l := e
      rw [List.getD_eq_getElem?_getD, List.getElem?_eq_getElem hk] at this
      rw [List.getElem?_eq_getElem hk]
      simpa using this
    obtain ⟨xs, h1, h2⟩ := S.at_ k a _ ha e'
    exact ⟨a, xs, rfl, h1, h2⟩
  | lst l' =>
    have e' : D.lst l' = .lst l := e
    cases e'
    obtain ⟨a, xs, rfl, h1, _, h2⟩ := r
    exact ⟨a, xs, rfl, h1, h2⟩
  | _ => cases e
theorem der_get (S : Sim U ad O H) {k : Nat} {v : V} {d : D} (r : Rep U ad H (.ptr k) v) (e : der (.ptr k) O = d) : ∃ a, v = .ref a ∧ ad[k]? = some a ∧ Cell U ad H d a := by
  obtain ⟨a, rfl, ha⟩ := r
  have hk : k < O.length := by rw [← S.len]; exact (List.getElem?_eq_some_iff.mp ha).1
  refine ⟨a, rfl, ha, S.at_ k a d ha ?_⟩
  rw [← e]
  show O[k]? = some (O.getD k .non)
  rw [List.getD_eq_getElem?_getD, List.getElem?_eq_getElem hk]
  simp
theorem lstT_at (S : Sim U ad O H) {d : D} {v : V} {l : List D} (r : Rep U ad H d v) (e : lstT d O = some l) : ∃ a xs, v = .ref a ∧ H a = some (.lst xs) ∧ Reps U ad H l xs := by
  unfold lstT at e
  split at e
  · rename_i l' e1
    cases e
    exact der_lst S r e1
  · cases e
theorem der_rol (S : Sim U ad O H) {d : D} {v : V} {l : List D} (r : Rep U ad H d v) (e : der d O = .rol l) : ∃ a xs, v = .ref a ∧ SqL U.K H a xs ∧ Reps U ad H l xs := by
  cases d with
  | rol l' =>
    have e' : D.rol l' = .rol l := e
    cases e'
    obtain ⟨a, xs, rfl, h1, h2⟩ := r
    exact ⟨a, xs, rfl, h1.sq, h2⟩
  | ptr k =>
    obtain ⟨a, rfl, ha, c⟩ := der_get S r e
    exact c.elim
  | _ => cases e
theorem der_tup (S : Sim U ad O H) {d : D} {v : V} {l : List D} (r : Rep U ad H d v) (e : der d O = .tup l) : ∃ a xs, v = .ref a ∧ H a = some (.tup xs) ∧ a ∉ ad ∧ Reps U ad H l xs := by
  cases d with
  | tup l' =>
    have e' : D.tup l' = .tup l := e
    cases e'
    exact r
  | ptr k =>
    obtain ⟨a, rfl, ha, c⟩ := der_get S r e
    exact c.elim
  | _ => cases e
theorem der_rot (S : Sim U ad O H) {d : D} {v : V} {l : List D} (r : Rep U ad H d v) (e : der d O = .rot l) : ∃ a xs, v = .ref a ∧ FrT U ad H a xs ∧ Reps U ad H l xs := by
  cases d with
  | rot l' =>
    have e' : D.rot l' = .rot l := e
    cases e'
    exact r
  | ptr k =>
    obtain ⟨a, rfl, ha, c⟩ := der_get S r e
    exact c.elim
  | _ => cases e
theorem lstR_at (S : Sim U ad O H) {d : D} {v : V} {l : List D} (r : Rep U ad H d v) (e : lstR d O = some l) : ∃ a xs, v = .ref a ∧ SqL U.K H a xs ∧ Reps U ad H l xs := by
  unfold lstR at e
  split at e
  · rename_i l' e1
    cases e
    obtain ⟨a, xs, h, q, z⟩ := der_lst S r e1
    exact ⟨a, xs, h, .of q, z⟩
  · rename_i l' e1
    cases e
    exact der_rol S r e1
  · cases e
theorem seqR_at (S : Sim U ad O H) {d : D} {v : V} {l : List D} (r : Rep U ad H d v) (e : seqR d O = some l) : ∃ a xs, v = .ref a ∧ (SqL U.K H a xs ∨ SqT U.K H a xs) ∧ Reps U ad H l xs := by
  unfold seqR at e
  split at e
  · rename_i l' e1
    cases e
    obtain ⟨a, xs, h, q, z⟩ := der_lst S r e1
    exact ⟨a, xs, h, .inl (.of q), z⟩
  · rename_i l' e1
    cases e
    obtain ⟨a, xs, h, q, z⟩ := der_rol S r e1
    exact ⟨a, xs, h, .inl q, z⟩
  · rename_i l' e1
    cases e
    obtain ⟨a, xs, h, q, _, z⟩ := der_tup S r e1
    exact ⟨a, xs, h, .inr (.of q), z⟩
  · rename_i l' e1
    cases e
    obtain ⟨a, xs, h, q, z⟩ := der_rot S r e1
    exact ⟨a, xs, h, .inr q.sq, z⟩
  · cases e
theorem reps_ints : ∀ {ds : List D} {vs : List V} {ns : List Int}, Reps U ad H ds vs → ds = ns.map D.int → vs = ns.map V.int
  | _, _, [], h, e => by cases e; exact h
  | _, _, n :: ns, h, e => by
    subst e
    obtain ⟨v, r, rfl, q, t⟩ := h
    rw [reps_ints t rfl]
    have q' : v = .int n := q
    rw [q']
    rfl
theorem reps_strs : ∀ {ds : List D} {vs : List V} {ns : List Str}, Reps U ad H ds vs → ds = ns.map D.str → vs = ns.map V.str
  | _, _, [], h, e => by cases e; exact h
  | _, _, n :: ns, h, e => by
    subst e
    obtain ⟨v, r, rfl, q, t⟩ := h
    rw [reps_strs t rfl]
    have q' : v = .str n := q
    rw [q']
    rfl
theorem reps_bls : ∀ {ds : List D} {vs : List V} {ns : List Bool}, Reps U ad H ds vs → ds = ns.map D.bl → vs = ns.map V.bl
  | _, _, [], h, e => by cases e; exact h
  | _, _, n :: ns, h, e => by
    subst e
    obtain ⟨v, r, rfl, q, t⟩ := h
    rw [reps_bls t rfl]
    have q' : v = .bl n := q
    rw [q']
    rfl
theorem reps_of_ints : ∀ ns : List Int, Reps U ad H (ns.map D.int) (ns.map V.int)
  | [] => rfl
  | n :: ns => ⟨_, _, rfl, rfl, reps_of_ints ns⟩
theorem reps_of_strs : ∀ ns : List Str, Reps U ad H (ns.map D.str) (ns.map V.str)
  | [] => rfl
  | n :: ns => ⟨_, _, rfl, rfl, reps_of_strs ns⟩
end

/-- all ints -/
def intsOf : List D → Option (List Int)
  | [] => some []
  | .int i :: r => (intsOf r).map (i :: ·)
  | _ => none
def strsOf : List D → Option (List Str)
  | [] => some []
  | .str i :: r => (strsOf r).map (i :: ·)
  | _ => none
def blsOf : List D → Option (List Bool)
  | [] => some []
  | .bl i :: r => (blsOf r).map (i :: ·)
  | _ => none
theorem intsOf_eq : ∀ {ds : List D} {ns : List Int}, intsOf ds = some ns → ds = ns.map D.int
  | [], _, e => by cases e; rfl
  | d :: r, ns, e => by
    cases d with
    | int i =>
      unfold intsOf at e
      obtain ⟨ms, h1, rfl⟩ := Option.map_eq_some_iff.mp e
      rw [intsOf_eq h1]; rfl
    | _ => cases e
theorem strsOf_eq : ∀ {ds : List D} {ns : List Str}, strsOf ds = some ns → ds = ns.map D.str
  | [], _, e => by cases e; rfl
  | d :: r, ns, e => by
    cases d with
    | str i =>
      unfold strsOf at e
      obtain ⟨ms, h1, rfl⟩ := Option.map_eq_some_iff.mp e
      rw [strsOf_eq h1]; rfl
    | _ => cases e
theorem blsOf_eq : ∀ {ds : List D} {ns : List Bool}, blsOf ds = some ns → ds = ns.map D.bl
  | [], _, e => by cases e; rfl
  | d :: r, ns, e => by
    cases d with
    | bl i =>
      unfold blsOf at e
      obtain ⟨ms, h1, rfl⟩ := Option.map_eq_some_iff.mp e
      rw [blsOf_eq h1]; rfl
    | _ => cases e
@[simp] theorem intsOf_map : ∀ ns : List Int, intsOf (ns.map D.int) = some ns
  | [] => rfl
  | n :: ns => by simp [intsOf, intsOf_map ns]
@[simp] theorem strsOf_map : ∀ ns : List Str, strsOf (ns.map D.str) = some ns
  | [] => rfl
  | n :: ns => by simp [strsOf, strsOf_map ns]
@[simp] theorem blsOf_map : ∀ ns : List Bool, blsOf (ns.map D.bl) = some ns
  | [] => rfl
  | n :: ns => by simp [blsOf, blsOf_map ns]

abbrev F2 := D → D → Store → Option D
def Op2 (U : Univ) (F : Value → Value → Sem Value) (g : F2) : Prop := ∀ (X : Cx) (W : WX) (c : Cs) (k : Nat), CtxOk U c k X W → ∃ r : R2, OpR X F r ∧
  ∀ (dx dy : D) (x y : V) (ad : List Addr) (O : Store) (H : Hp) (d : D) (Q : VK), Sim U ad O H → Rep U ad H dx x → Rep U ad H dy y → g dx dy O = some d →
    (∀ v H', Step ad H ad H' → Sim U ad O H' → Rep U ad H' d v → Q v H') → r x y H Q
def e2 (g : F2) (a b : DE) : DE := fun σ O => (a σ O).bind fun x O1 => (b σ O1).bind fun y O2 => lift (g x y O2) O2
section
variable {U : Univ} {c : Cs} {k : Nat} {pos : Pos} {a b : Expr} {ma mb : DE}
theorem run2 {X : Cx} {W : WX} {F : Value → Value → Sem Value} {g : F2} {ta tb : TE} {r : R2} (fa : Rd1 U W ta ma) (fb : Rd1 U W tb mb)
    (hr : ∀ (dx dy : D) (x y : V) (ad : List Addr) (O : Store) (H : Hp) (d : D) (Q : VK), Sim U ad O H → Rep U ad H dx x → Rep U ad H dy y → g dx dy O = some d →
    (∀ v H', Step ad H ad H' → Sim U ad O H' → Rep U ad H' d v → Q v H') → r x y H Q) : Rd1 U W (tOp r ta tb) (e2 g ma mb) := by
  intro ad O H σ sv Q S rr h
  refine fa ad O H σ sv _ S rr (Post.mono (Post.bind h) ?_)
  rintro x H1 ⟨ad1, O1, dx, s1, S1, r1, h1⟩
  refine fb ad1 O1 H1 σ sv _ S1 (rr.keep s1) (Post.mono (Post.bind h1) ?_)
  rintro y H2 ⟨ad2, O2, dy, s2, S2, r2, h2⟩
  cases e : g dx dy O2 with
  | none => rw [e] at h2; exact h2.elim
  | some d =>
    rw [e] at h2
    exact hr dx dy x y ad2 O2 H2 d Q S2 (r1.keep s2) r2 e fun v H' s S q => h2 ad2 H' v s S q
theorem sOp {op : Operator} {g : F2} (ho : Op2 U (binaryOp op) g) (ha : SE U c k a ma) (hb : SE U c k b mb) : SE U c k (.BinOp a op b pos) (e2 g ma mb) := by
  intro X W C
  obtain ⟨ta, pa, fa⟩ := ha X W C
  obtain ⟨tb, pb, fb⟩ := hb X W C
  obtain ⟨r, hr, hq⟩ := ho X W c k C
  exact ⟨_, pe_op hr pa pb, run2 (X := X) (F := binaryOp op) fa fb hq⟩
theorem sCmp {op : CmpOp} {g : F2} (ho : Op2 U (compareOp op) g) (ha : SE U c k a ma) (hb : SE U c k b mb) (hm : behindInMarks op b = false) : SE U c k (.Compare a [op] [b] pos) (e2 g ma mb) := by
  intro X W C
  obtain ⟨ta, pa, fa⟩ := ha X W C
  obtain ⟨tb, pb, fb⟩ := hb X W C
  obtain ⟨r, hr, hq⟩ := ho X W c k C
  exact ⟨_, pe_cmpR hr pa pb hm, run2 (X := X) (F := compareOp op) fa fb hq⟩
end
def asB (r : R D) : R Bool := r.bind fun d O => match d with
  | .bl b => .ok b O
  | _ => .stuck
def tV (m : DE) : DT := fun σ O => asB (m σ O)
section
variable {U : Univ} {c : Cs} {k : Nat} {pos : Pos} {a b : Expr} {ma mb : DE}
/-- a value that is a truth, as a test -/
theorem rdT_of {W : WX} {t : TE} {m : DE} (f : Rd1 U W t m) : RdT U W (tTest t) (tV m) := by
  intro ad O H σ sv Q S r h
  refine f ad O H σ sv _ S r (Post.mono (Post.bindT h) ?_)
  rintro v H1 ⟨ad1, O1, d, s1, S1, r1, h1⟩
  cases d with
  | bl b =>
    have r1' : v = .bl b := r1
    exact ⟨b, r1', h1 ad1 H1 .refl S1⟩
  | _ => exact h1.elim
theorem tCmp {op : CmpOp} {g : F2} (ho : Op2 U (compareOp op) g) (ha : SE U c k a ma) (hb : SE U c k b mb) (hm : behindInMarks op b = false) : ST U c k (.Compare a [op] [b] pos) (tV (e2 g ma mb)) := by
  intro X W C
  obtain ⟨ta, pa, fa⟩ := ha X W C
  obtain ⟨tb, pb, fb⟩ := hb X W C
  obtain ⟨r, hr, hq⟩ := ho X W c k C
  exact ⟨_, pt_cmpR hr pa pb hm, rdT_of (run2 (X := X) (F := compareOp op) fa fb hq)⟩
/-- a < b < c -/
def eCh (g g' : F2) (a b c' : DE) : DE := fun σ O => (a σ O).bind fun x O1 => (b σ O1).bind fun y O2 => match g x y O2 with
  | some (.bl true) => (c' σ O2).bind fun z O3 => lift (g' y z O3) O3
  | some (.bl false) => .ok (.bl false) O2
  | _ => .stuck
theorem runCh {X : Cx} {W : WX} {c' : Expr} {mc : DE} {op op' : CmpOp} {g g' : F2} (C : CtxOk U c k X W) (ho : Op2 U (compareOp op) g) (ho' : Op2 U (compareOp op') g') {ta tb tc : TE} (fa : Rd1 U W ta ma) (fb : Rd1 U W tb mb) (fc : Rd1 U W tc mc) :
    ∃ r r', OpR X (compareOp op) r ∧ OpR X (compareOp op') r' ∧ Rd1 U W (tChain r r' ta tb tc) (eCh g g' ma mb mc) := by
  obtain ⟨r, hr, hq⟩ := ho X W c k C
  obtain ⟨r', hr', hq'⟩ := ho' X W c k C
  refine ⟨r, r', hr, hr', ?_⟩
  intro ad O H σ sv Q S rr h
  refine fa ad O H σ sv _ S rr (Post.mono (Post.bind h) ?_)
  rintro x H1 ⟨ad1, O1, dx, s1, S1, r1, h1⟩
  refine fb ad1 O1 H1 σ sv _ S1 (rr.keep s1) (Post.mono (Post.bind h1) ?_)
  rintro y H2 ⟨ad2, O2, dy, s2, S2, r2, h2⟩
  cases e : g dx dy O2 with
  | none => rw [e] at h2; exact h2.elim
  | some d =>
    rw [e] at h2
    cases d with
    | bl kk =>
      refine hq dx dy x y ad2 O2 H2 _ _ S2 (r1.keep s2) r2 e fun v H3 s3 S3 q3 => ?_
      have q3' : v = .bl kk := q3
      refine ⟨kk, q3', ?_⟩
      cases kk with
      | false =>
        rw [if_neg Bool.false_ne_true]
        exact h2 ad2 H3 _ s3 S3 rfl
      | true =>
        rw [if_pos rfl]
        refine fc ad2 O2 H3 σ sv _ S3 ((rr.keep (s1.trans s2)).keep s3) (Post.mono (Post.bind (Post.step s3 h2)) ?_)
        rintro z H4 ⟨ad4, O4, dz, s4, S4, r4, h4⟩
        cases e4 : g' dy dz O4 with
        | none => rw [e4] at h4; exact h4.elim
        | some d =>
          rw [e4] at h4
          exact hq' dy dz y z ad4 O4 H4 d Q S4 ((r2.keep s3).keep s4) r4 e4 fun v H' s S q => h4 ad4 H' v s S q
    | _ => exact h2.elim
theorem sChain {c' : Expr} {mc : DE} {op op' : CmpOp} {g g' : F2} (ho : Op2 U (compareOp op) g) (ho' : Op2 U (compareOp op') g') (ha : SE U c k a ma) (hb : SE U c k b mb) (hc : SE U c k c' mc) (hm : lastMarks [op, op'] [b, c'] = false) :
    SE U c k (.Compare a [op, op'] [b, c'] pos) (eCh g g' ma mb mc) := by
  intro X W C
  obtain ⟨ta, pa, fa⟩ := ha X W C
  obtain ⟨tb, pb, fb⟩ := hb X W C
  obtain ⟨tc, pc, fc⟩ := hc X W C
  obtain ⟨r, r', h1, h2, h3⟩ := runCh (c' := c') C ho ho' fa fb fc
  exact ⟨_, pe_chain h1 h2 pa pb pc hm, h3⟩
theorem tChainT {c' : Expr} {mc : DE} {op op' : CmpOp} {g g' : F2} (ho : Op2 U (compareOp op) g) (ho' : Op2 U (compareOp op') g') (ha : SE U c k a ma) (hb : SE U c k b mb) (hc : SE U c k c' mc) (hm : lastMarks [op, op'] [b, c'] = false) :
    ST U c k (.Compare a [op, op'] [b, c'] pos) (tV (eCh g g' ma mb mc)) := by
  intro X W C
  obtain ⟨ta, pa, fa⟩ := ha X W C
  obtain ⟨tb, pb, fb⟩ := hb X W C
  obtain ⟨tc, pc, fc⟩ := hc X W C
  obtain ⟨r, r', h1, h2, h3⟩ := runCh (c' := c') C ho ho' fa fb fc
  exact ⟨_, pt_chain h1 h2 pa pb pc hm, rdT_of h3⟩
end

def dAdd : F2 := fun x y O => match x, y with
  | .int i, .int j => some (.int (i + j))
  | .str i, .str j => if i.length + j.length ≤ sizeLine then some (.str (i ++ j)) else none
  | .tup i, .tup j => if i.length + j.length ≤ sizeLine then some (.tup (i ++ j)) else none
  | .rot i, .rot j => if i.length + j.length ≤ sizeLine then some (if i.isEmpty = true then .rot j else if j.isEmpty = true then .rot i else .tup (i ++ j)) else none
  | x, y => match lstT x O, lstT y O with
    | some i, some j => if i.length + j.length ≤ sizeLine then some (.lst (i ++ j)) else none
    | _, _ => none
def ints2 (P : Int → Int → Bool) (g : Int → Int → D) : F2 := fun x y _ => match x, y with
  | .int i, .int j => if P i j = true then some (g i j) else none
  | _, _ => none
section
variable {U : Univ}
theorem op2_ints {F : Value → Value → Sem Value} {P : Int → Int → Bool} {C : Int → Int → Prop} {g : Int → Int → V} {g' : Int → Int → D} (h : ∀ X : Cx, OpR X F (rI C g)) (hC : ∀ i j, P i j = true → C i j) (hg : ∀ i j ad H, Rep U ad H (g' i j) (g i j)) :
    Op2 U F (ints2 P g') := by
  intro X W c k Cc
  refine ⟨_, h X, ?_⟩
  intro dx dy x y ad O H d Q S r1 r2 e q
  unfold ints2 at e
  split at e
  · rename_i i j
    split at e
    · rename_i hp
      cases e
      exact ⟨i, j, r1, r2, hC i j hp, q _ _ .refl S (hg i j ad H)⟩
    · cases e
  · cases e
theorem op2_ints0 {F : Value → Value → Sem Value} {g : Int → Int → V} {g' : Int → Int → D} (h : ∀ X : Cx, OpR X F (rI0 g)) (hg : ∀ i j ad H, Rep U ad H (g' i j) (g i j)) :
    Op2 U F (ints2 (fun _ _ => true) g') := by
  intro X W c k Cc
  refine ⟨_, h X, ?_⟩
  intro dx dy x y ad O H d Q S r1 r2 e q
  unfold ints2 at e
  split at e
  · rename_i i j
    rw [if_pos rfl] at e
    cases e
    exact ⟨i, j, r1, r2, q _ _ .refl S (hg i j ad H)⟩
  · cases e
def dSub : F2 := ints2 (fun _ _ => true) fun i j => .int (i - j)
def dMulI : F2 := ints2 (fun i j => decide (i.natAbs.log2 + j.natAbs.log2 < 1000000)) fun i j => .int (i * j)
def dDiv : F2 := ints2 (fun _ j => decide (0 < j ∧ j.natAbs.log2 < 9000)) fun i j => .int (i / j)
def dMod : F2 := ints2 (fun _ j => decide (0 < j)) fun i j => .int (i % j)
def dPow : F2 := ints2 (fun i j => decide (0 ≤ j ∧ j ≤ 1000000 ∧ i.natAbs < 2 ^ 64)) fun i j => .int (i ^ j.toNat)
def dLt : F2 := ints2 (fun _ _ => true) fun i j => .bl (decide (i < j))
def dLe : F2 := ints2 (fun _ _ => true) fun i j => .bl (decide (i ≤ j))
def dGt : F2 := ints2 (fun _ _ => true) fun i j => .bl (decide (j < i))
def dGe : F2 := ints2 (fun _ _ => true) fun i j => .bl (decide (j ≤ i))
theorem opSub : Op2 U (binaryOp .Sub) dSub := op2_ints0 (fun _ => op_sub) fun _ _ _ _ => rfl
theorem opDiv : Op2 U (binaryOp .FloorDiv) dDiv := op2_ints (fun _ => op_fdivW) (fun i j h => show 0 < j ∧ j.natAbs.log2 < 9000 from of_decide_eq_true h) fun _ _ _ _ => rfl
theorem opMod : Op2 U (binaryOp .Mod) dMod := op2_ints (fun _ => op_mod) (fun _ _ h => of_decide_eq_true h) fun _ _ _ _ => rfl
theorem opPow : Op2 U (binaryOp .Pow) dPow := op2_ints (fun _ => op_pow) (fun i j h => show 0 ≤ j ∧ j ≤ 1000000 ∧ i.natAbs < 2 ^ 64 from of_decide_eq_true h) fun _ _ _ _ => rfl
theorem opLt : Op2 U (compareOp .Lt) dLt := op2_ints0 (fun _ => op_lt) fun _ _ _ _ => rfl
theorem opLe : Op2 U (compareOp .LtE) dLe := op2_ints0 (fun _ => op_le) fun _ _ _ _ => rfl
theorem opGt : Op2 U (compareOp .Gt) dGt := op2_ints0 (fun _ => op_gt) fun _ _ _ _ => rfl
theorem opGe : Op2 U (compareOp .GtE) dGe := op2_ints0 (fun _ => op_ge) fun _ _ _ _ => rfl
theorem opMulI : Op2 U (binaryOp .Mult) dMulI := op2_ints (fun _ => op_mulW) (fun i j h => show i.natAbs.log2 + j.natAbs.log2 < 1000000 from of_decide_eq_true h) fun _ _ _ _ => rfl
theorem opAdd : Op2 U (binaryOp .Add) dAdd := by
  intro X W c k Cc
  obtain ⟨_, eu⟩ := Cc.u
  subst eu
  refine ⟨_, op_add.or (op_add_str.or (op_catA.or op_cat)), ?_⟩
  intro dx dy x y ad O H d Q S r1 r2 e q
  unfold dAdd at e
  split at e
  · rename_i i j
    cases e
    exact .inl ⟨i, j, r1, r2, q _ _ .refl S rfl⟩
  · rename_i i j
    split at e
    · rename_i hz
      cases e
      exact .inr (.inl ⟨i, j, r1, r2, hz, q _ _ .refl S rfl⟩)
    · cases e
  · rename_i i j
    split at e
    · rename_i hz
      cases e
      obtain ⟨a, xs, rfl, f1, n1', p1⟩ := r1
      obtain ⟨b, ys, rfl, f2, n2', p2⟩ := r2
      have hl1 := p1.length
      have hl2 := p2.length
      refine .inr (.inr (.inl ⟨a, b, xs, ys, rfl, rfl, .of f1, .of f2, by omega, fun e0 => ?_, fun n0 e0 => ?_, fun n0 n1 p hp => ?_⟩))
      · subst e0
        have hi : i = [] := List.eq_nil_of_length_eq_zero (by simpa using hl1)
        subst hi
        exact q _ _ .refl S ⟨b, ys, rfl, f2, n2', p2⟩
      · subst e0
        have hi : j = [] := List.eq_nil_of_length_eq_zero (by simpa using hl2)
        subst hi
        rw [List.append_nil] at q
        exact q _ _ .refl S ⟨a, xs, rfl, f1, n1', p1⟩
      · exact q _ _ (.new hp (S.out hp)) (S.new hp) (rep_tup S hp (p1.append p2))
    · cases e
  · rename_i i j
    split at e
    · rename_i hz
      obtain ⟨a, xs, rfl, f1, p1⟩ := r1
      obtain ⟨b, ys, rfl, f2, p2⟩ := r2
      have hl1 := p1.length
      have hl2 := p2.length
      refine .inr (.inr (.inl ⟨a, b, xs, ys, rfl, rfl, f1.sq, f2.sq, by omega, fun e0 => ?_, fun n0 e0 => ?_, fun n0 n1 p hp => ?_⟩))
      · subst e0
        have hi : i = [] := List.eq_nil_of_length_eq_zero (by simpa using hl1)
        subst hi
        cases e
        exact q _ _ .refl S ⟨b, ys, rfl, f2, p2⟩
      · subst e0
        have hi : j = [] := List.eq_nil_of_length_eq_zero (by simpa using hl2)
        subst hi
        have hne : i.isEmpty = false := by
          cases i with
          | nil => exact absurd (List.eq_nil_of_length_eq_zero (by simpa using hl1.symm)) n0
          | cons a r => rfl
        rw [if_neg (by rw [hne]; decide)] at e
        cases e
        exact q _ _ .refl S ⟨a, xs, rfl, f1, p1⟩
      · have hne : i.isEmpty = false := by
          cases i with
          | nil => exact absurd (List.eq_nil_of_length_eq_zero (by simpa using hl1.symm)) n0
          | cons a r => rfl
        have hne2 : j.isEmpty = false := by
          cases j with
          | nil => exact absurd (List.eq_nil_of_length_eq_zero (by simpa using hl2.symm)) n1
          | cons a r => rfl
        rw [if_neg (by rw [hne]; decide), if_neg (by rw [hne2]; decide)] at e
        cases e
        exact q _ _ (.new hp (S.out hp)) (S.new hp) (rep_tup S hp (p1.append p2))
    · cases e
  · split at e
    · rename_i i j e1 e2
      split at e
      · rename_i hz
        cases e
        obtain ⟨a, xs, rfl, f1, p1⟩ := lstT_at S r1 e1
        obtain ⟨b, ys, rfl, f2, p2⟩ := lstT_at S r2 e2
        have hl1 := p1.length
        have hl2 := p2.length
        exact .inr (.inr (.inr ⟨a, b, xs, ys, rfl, rfl, f1, f2, by omega, fun p hp => q _ _ (.new hp (S.out hp)) (S.new hp) (rep_lst S hp (p1.append p2))⟩))
      · cases e
    · cases e
end
end CP
namespace CP
open PySem PySem.Spec PyProof.Rows L2

mutual
def toPy : D → Option PyData
  | .non => some .none
  | .bl b => some (.bool b)
  | .int i => some (.int i)
  | .str x => some (.str x)
  | .tup l => (toPys l).map .tuple
  | .rot l => (toPys l).map .tuple
  | .lst l => (toPys l).map .list
  | .rol l => (toPys l).map .list
  | .ty _ => none
  | .dic _ _ _ => none
  | .ins _ _ _ => none
  | .glo _ => none
  | .ptr _ => none
  | .exc _ _ _ _ => none
  | .fdc _ _ => none
def toPys : List D → Option (List PyData)
  | [] => some []
  | d :: r => match toPy d, toPys r with
    | some p, some q => some (p :: q)
    | _, _ => none
end
theorem toPys_cons {d : D} {r : List D} {ps : List PyData} (h : toPys (d :: r) = some ps) : ∃ p q, ps = p :: q ∧ toPy d = some p ∧ toPys r = some q := by
  unfold toPys at h
  split at h
  · rename_i p q e1 e2
    cases h
    exact ⟨p, q, rfl, e1, e2⟩
  · cases h
section
variable {U : Univ} {ad : List Addr} {O : Store} {H : Hp}
mutual
theorem dp_of : ∀ {d : D} {v : V} {p : PyData}, Rep U ad H d v → toPy d = some p → Dp U.K H v p
  | .non, _, _, r, e => by cases e; cases r; exact .non
  | .bl b, _, _, r, e => by cases e; cases r; exact .bl b
  | .int i, _, _, r, e => by cases e; cases r; exact .int i
  | .str x, _, _, r, e => by cases e; cases r; exact .str x
  | .tup l, _, _, r, e => by
    unfold toPy at e
    obtain ⟨ps, e1, rfl⟩ := Option.map_eq_some_iff.mp e
    obtain ⟨a, xs, rfl, h, _, t⟩ := r
    exact .tup (.of h) (dps_of t e1)
  | .rot l, _, _, r, e => by
    unfold toPy at e
    obtain ⟨ps, e1, rfl⟩ := Option.map_eq_some_iff.mp e
    obtain ⟨a, xs, rfl, h, t⟩ := r
    exact .tup h.sq (dps_of t e1)
  | .lst l, _, _, r, e => by
    unfold toPy at e
    obtain ⟨ps, e1, rfl⟩ := Option.map_eq_some_iff.mp e
    obtain ⟨a, xs, rfl, h, _, t⟩ := r
    exact .lst (.of h) (dps_of t e1)
  | .rol l, _, _, r, e => by
    unfold toPy at e
    obtain ⟨ps, e1, rfl⟩ := Option.map_eq_some_iff.mp e
    obtain ⟨a, xs, rfl, h, t⟩ := r
    exact .lst h.sq (dps_of t e1)
  | .ty _, _, _, _, e => by cases e
  | .dic _ _ _, _, _, _, e => by cases e
  | .ins _ _ _, _, _, _, e => by cases e
  | .glo _, _, _, _, e => by cases e
  | .ptr _, _, _, _, e => by cases e
  | .exc _ _ _ _, _, _, _, e => by cases e
  | .fdc _ _, _, _, _, e => by cases e
theorem dps_of : ∀ {ds : List D} {vs : List V} {ps : List PyData}, Reps U ad H ds vs → toPys ds = some ps → DpAll U.K H vs ps
  | [], _, _, r, e => by cases e; cases r; exact .nil
  | d :: ds, _, _, r, e => by
    obtain ⟨v, vs, rfl, h, t⟩ := r
    obtain ⟨p, q, rfl, e1, e2⟩ := toPys_cons e
    exact .cons (dp_of h e1) (dps_of t e2)
end
theorem dp_der (S : Sim U ad O H) {d : D} {v : V} {p : PyData} (r : Rep U ad H d v) (e : toPy (der d O) = some p) : Dp U.K H v p := by
  cases d with
  | ptr k =>
    obtain ⟨a, rfl, ha, c⟩ := der_get S r rfl
    revert c e
    generalize der (.ptr k) O = dd
    cases dd with
    | lst l =>
      intro e c
      unfold toPy at e
      obtain ⟨ps, e1, rfl⟩ := Option.map_eq_some_iff.mp e
      obtain ⟨xs, h, t⟩ := c
      exact .lst (.of h) (dps_of t e1)
    | _ => first | (intro e c; exact c.elim) | (intro e; cases e)
  | _ => exact dp_of r e
end

def dEqB (neg : Bool) : F2 := fun x y O => match x, y with
  | .int a, .int b => some (.bl (if neg then !decide (a = b) else decide (a = b)))
  | .str a, .str b => some (.bl (if neg then !decide (a = b) else decide (a = b)))
  | x, y => match toPy (der x O), toPy (der y O) with
    | some p, some q => if SeqAt.shaped p && SeqAt.shaped q then some (.bl (if neg then !PyData.eqv p q else PyData.eqv p q)) else none
    | _, _ => none
def dEq : F2 := dEqB false
def dNe : F2 := dEqB true
section
variable {U : Univ}
theorem opEq : Op2 U (compareOp .Eq) dEq := by
  intro X W c k Cc
  obtain ⟨_, eu⟩ := Cc.u
  subst eu
  refine ⟨_, op_eq.or (op_eqD Cc.room.units), ?_⟩
  intro dx dy x y ad O H d Q S r1 r2 e q
  unfold dEq dEqB at e
  split at e
  · rename_i a b
    cases e
    cases r1; cases r2
    refine .inl ⟨rfl, q _ _ .refl S ?_⟩
    show V.bl _ = V.bl _
    congr 1
    exact decide_eq_decide.mpr ⟨fun h => by cases h; rfl, fun h => by rw [h]⟩
  · rename_i a b
    cases e
    cases r1; cases r2
    refine .inl ⟨rfl, q _ _ .refl S ?_⟩
    show V.bl _ = V.bl _
    congr 1
    exact decide_eq_decide.mpr ⟨fun h => by cases h; rfl, fun h => by rw [h]⟩
  · split at e
    · rename_i p p' e1 e2
      split at e
      · rename_i hs
        cases e
        obtain ⟨s1, s2⟩ := Bool.and_eq_true_iff.mp hs
        exact .inr ⟨p, p', dp_der S r1 e1, dp_der S r2 e2, s1, s2, q _ _ .refl S rfl⟩
      · cases e
    · cases e
theorem opNe : Op2 U (compareOp .NotEq) dNe := by
  intro X W c k Cc
  obtain ⟨_, eu⟩ := Cc.u
  subst eu
  refine ⟨_, op_ne.or (op_neD Cc.room.units), ?_⟩
  intro dx dy x y ad O H d Q S r1 r2 e q
  unfold dNe dEqB at e
  split at e
  · rename_i a b
    cases e
    cases r1; cases r2
    refine .inl ⟨rfl, q _ _ .refl S ?_⟩
    show V.bl _ = V.bl _
    congr 2
    exact decide_eq_decide.mpr ⟨fun h => by cases h; rfl, fun h => by rw [h]⟩
  · rename_i a b
    cases e
    cases r1; cases r2
    refine .inl ⟨rfl, q _ _ .refl S ?_⟩
    show V.bl _ = V.bl _
    congr 2
    exact decide_eq_decide.mpr ⟨fun h => by cases h; rfl, fun h => by rw [h]⟩
  · split at e
    · rename_i p p' e1 e2
      split at e
      · rename_i hs
        cases e
        obtain ⟨s1, s2⟩ := Bool.and_eq_true_iff.mp hs
        exact .inr ⟨p, p', dp_der S r1 e1, dp_der S r2 e2, s1, s2, q _ _ .refl S rfl⟩
      · cases e
    · cases e
end

theorem units65 {k : Nat} {A : Around} (r : RmH k A) : A.units + 65 < cLine := by have := r.un; omega
section
variable {X : Cx}
theorem room_any {ds : List PyData} {d : PyData} {A : Around} (sd : SeqAt.shaped d = true) (hu : A.units + 65 < cLine) : A.units + 1 + min (PyData.depthAll ds) d.depth < cLine := by
  have h1 := SeqAt.depth_of_shaped sd
  have h2 : min (PyData.depthAll ds) d.depth ≤ d.depth := Nat.min_le_right _ _
  omega
theorem op_inTD (hu : X.A.units + 65 < cLine) : OpR X (compareOp .In) (fun x y H Q => ∃ d ds, Dp X.K H x d ∧ Dp X.K H y (.tuple ds) ∧ SeqAt.shaped d = true ∧ SeqAt.shaped (.tuple ds) = true ∧ Q (.bl (ds.any fun z => PyData.eqv z d)) H) := by
  intro pins s σ H x y v u Q I rx ry h
  obtain ⟨d, ds, hd, he, sd, se, q⟩ := h
  obtain ⟨as, r1⟩ := Dp.reads I d x v hd rx
  obtain ⟨bs, r2⟩ := Dp.reads I (.tuple ds) y u he ry
  have hl : PyData.canLayAll0 ds = true := SeqAt.canLay_of_shaped se
  exact SeqAt.in_tuple_reads r2 r1 hl (SeqAt.canLay_of_shaped sd) (room_any sd hu) ⟨.bl _, H, I, rfl, q⟩
theorem op_notInTD (hu : X.A.units + 65 < cLine) : OpR X (compareOp .NotIn) (fun x y H Q => ∃ d ds, Dp X.K H x d ∧ Dp X.K H y (.tuple ds) ∧ SeqAt.shaped d = true ∧ SeqAt.shaped (.tuple ds) = true ∧ Q (.bl (!ds.any fun z => PyData.eqv z d)) H) := by
  intro pins s σ H x y v u Q I rx ry h
  obtain ⟨d, ds, hd, he, sd, se, q⟩ := h
  obtain ⟨as, r1⟩ := Dp.reads I d x v hd rx
  obtain ⟨bs, r2⟩ := Dp.reads I (.tuple ds) y u he ry
  have hl : PyData.canLayAll0 ds = true := SeqAt.canLay_of_shaped se
  exact SeqAt.notIn_tuple_reads r2 r1 hl (SeqAt.canLay_of_shaped sd) (room_any sd hu) ⟨.bl _, H, I, rfl, q⟩
def rDIn (neg : Bool) : R2 := fun x y H Q => ∃ a o, y = .ref a ∧ DGet H a x o ∧ Q (.bl (if neg then !o.isSome else o.isSome)) H
theorem op_dIn (hu : X.A.units + 1 < cLine) : OpR X (compareOp .In) (rDIn false) := by
  intro pins s σ H x y v u Q I rx ry h
  obtain ⟨a, o, rfl, g, q⟩ := h
  cases ry
  exact d_in hu I g rx fun s' I' => ⟨.bl _, H, I', rfl, q⟩
theorem op_dNotIn (hu : X.A.units + 1 < cLine) : OpR X (compareOp .NotIn) (rDIn true) := by
  intro pins s σ H x y v u Q I rx ry h
  obtain ⟨a, o, rfl, g, q⟩ := h
  cases ry
  exact d_notIn hu I g rx fun s' I' => ⟨.bl _, H, I', rfl, q⟩
end
/-- a key as data -/
def toKey : D → Option Key
  | .int i => some (.inl i)
  | .str x => some (.inr x)
  | _ => none
def toKeys : List D → Option (List Key)
  | [] => some []
  | d :: r => match toKey d, toKeys r with
    | some k, some ks => some (k :: ks)
    | _, _ => none
theorem toKey_kD : ∀ {d : D} {k : Key}, toKey d = some k → d = kD k
  | .int i, _, e => by cases e; rfl
  | .str i, _, e => by cases e; rfl
  | .non, _, e => by cases e
  | .bl _, _, e => by cases e
  | .ty _, _, e => by cases e
  | .tup _, _, e => by cases e
  | .lst _, _, e => by cases e
  | .rol _, _, e => by cases e
  | .rot _, _, e => by cases e
  | .dic _ _ _, _, e => by cases e
  | .ins _ _ _, _, e => by cases e
  | .glo _, _, e => by cases e
  | .ptr _, _, e => by cases e
  | .exc _ _ _ _, _, e => by cases e
  | .fdc _ _, _, e => by cases e
theorem toKeys_kD : ∀ {ds : List D} {ks : List Key}, toKeys ds = some ks → ds = ks.map kD
  | [], _, e => by cases e; rfl
  | d :: r, _, e => by
    unfold toKeys at e
    split at e
    · rename_i k ks e1 e2
      cases e
      rw [toKey_kD e1, toKeys_kD e2]; rfl
    · cases e
theorem kD_inj : ∀ {a b : Key}, kD a = kD b → a = b
  | .inl _, .inl _, e => by cases e; rfl
  | .inr _, .inr _, e => by cases e; rfl
  | .inl _, .inr _, e => by cases e
  | .inr _, .inl _, e => by cases e
theorem kDs_inj : ∀ {a b : List Key}, a.map kD = b.map kD → a = b
  | [], [], _ => rfl
  | [], _ :: _, e => by cases e
  | _ :: _, [], e => by cases e
  | a :: r, b :: t, e => by
    simp only [List.map_cons, List.cons.injEq] at e
    rw [kD_inj e.1, kDs_inj e.2]
/-- a key of a dict: an int, a text; or a tuple of such -/
def keyOf (t : Bool) (x : D) : Option (List Key) := match t, x with
  | true, .tup l => toKeys l
  | false, x => (toKey x).map fun k => [k]
  | _, _ => none
/-- its place -/
def placeOf (t : Bool) (ks : List D) (k : List Key) : Option Nat := ks.findIdx? fun d => decide (keyOf t d = some k)
/-- what a dict holds under a key: no such key is asked; or nothing, or something -/
def dGet (t : Bool) (ks vs : List D) (x : D) : Option (Option D) := (keyOf t x).map fun k => (placeOf t ks k).bind fun i => vs[i]?
def dInB (neg : Bool) : F2 := fun x y O => match der y O with
  | .lst l => match toPy x, toPys l with
    | some p, some ps => if SeqAt.shaped p && SeqAt.shaped (.list ps) then some (.bl (if neg then !(ps.any fun z => PyData.eqv z p) else ps.any fun z => PyData.eqv z p)) else none
    | _, _ => none
  | .tup l => match toPy x, toPys l with
    | some p, some ps => if SeqAt.shaped p && SeqAt.shaped (.tuple ps) then some (.bl (if neg then !(ps.any fun z => PyData.eqv z p) else ps.any fun z => PyData.eqv z p)) else none
    | _, _ => none
  | .rot l => match toPy x, toPys l with
    | some p, some ps => if SeqAt.shaped p && SeqAt.shaped (.tuple ps) then some (.bl (if neg then !(ps.any fun z => PyData.eqv z p) else ps.any fun z => PyData.eqv z p)) else none
    | _, _ => none
  | .str z => match x with
    | .str ⟨⟨[c]⟩⟩ => some (.bl (if neg then !decide (c ∈ z.cps.toList) else decide (c ∈ z.cps.toList)))
    | _ => none
  | .dic t ks vs => match dGet t ks vs x with
    | some o => some (.bl (if neg then !o.isSome else o.isSome))
    | none => none
  | _ => none
def dIn : F2 := dInB false
def dNotIn : F2 := dInB true

@[simp] theorem toKeys_kD' : ∀ ks : List Key, toKeys (ks.map kD) = some ks
  | [] => rfl
  | k :: r => by cases k <;> simp [toKeys, toKey, kD, toKeys_kD' r]
theorem toKey_kD' (k : Key) : toKey (kD k) = some k := by cases k <;> rfl
section
variable {U : Univ} {ad : List Addr} {O : Store} {H : Hp}
theorem reps_keys : ∀ {ks : List Key} {vs : List V}, Reps U ad H (ks.map kD) vs → vs = ks.map kV
  | [], _, h => h
  | k :: ks, _, h => by
    obtain ⟨v, r, rfl, q, t⟩ := h
    rw [reps_keys t]
    cases k with
    | inl i => have q' : v = .int i := q; rw [q']; rfl
    | inr x => have q' : v = .str x := q; rw [q']; rfl
/-- found, and what -/
def Fnd (U : Univ) (ad : List Addr) (H : Hp) : Option D → Option V → Prop
  | none, o => o = none
  | some d, o => ∃ y, o = some y ∧ Rep U ad H d y
theorem find_false : ∀ {kvs : List (Key × V)} {vs : List D} {k : Key}, Reps U ad H vs (kvs.map (·.2)) →
    Fnd U ad H ((placeOf false (kvs.map fun p => kD p.1) [k]).bind fun i => vs[i]?) (valV kvs k)
  | [], vs, k, h => by
    have : vs = [] := List.eq_nil_of_length_eq_zero (by have := h.length; simpa using this)
    subst this
    rfl
  | p :: kvs, vs, k, h => by
    cases vs with
    | nil => exact absurd h.length (by simp)
    | cons d vs =>
      obtain ⟨v, r, e, q, t⟩ := h
      simp only [List.map_cons, List.cons.injEq] at e
      obtain ⟨rfl, rfl⟩ := e
      by_cases hk : p.1 = k
      · have e1 : (placeOf false ((p :: kvs).map fun p => kD p.1) [k]) = some 0 := by
          simp [placeOf, keyOf, toKey_kD', hk, List.findIdx?_cons]
        rw [e1]
        exact ⟨p.2, valV_pos hk, q⟩
      · have e1 : (placeOf false ((p :: kvs).map fun p => kD p.1) [k]) = (placeOf false (kvs.map fun p => kD p.1) [k]).map (· + 1) := by
          simp [placeOf, keyOf, toKey_kD', hk, List.findIdx?_cons]
        rw [e1, valV_neg hk]
        have ih := find_false (k := k) t
        revert ih
        cases placeOf false (kvs.map fun p => kD p.1) [k] with
        | none => exact fun z => z
        | some i => simp only [Option.map_some, Option.bind_some, List.getElem?_cons_succ]; exact fun z => z
theorem find_true : ∀ {kvs : List (List Key × V)} {vs : List D} {k : List Key}, Reps U ad H vs (kvs.map (·.2)) →
    Fnd U ad H ((placeOf true (kvs.map fun p => D.tup (p.1.map kD)) k).bind fun i => vs[i]?) (valV kvs k)
  | [], vs, k, h => by
    have : vs = [] := List.eq_nil_of_length_eq_zero (by have := h.length; simpa using this)
    subst this
    rfl
  | p :: kvs, vs, k, h => by
    cases vs with
    | nil => exact absurd h.length (by simp)
    | cons d vs =>
      obtain ⟨v, r, e, q, t⟩ := h
      simp only [List.map_cons, List.cons.injEq] at e
      obtain ⟨rfl, rfl⟩ := e
      by_cases hk : p.1 = k
      · have e1 : (placeOf true ((p :: kvs).map fun p => D.tup (p.1.map kD)) k) = some 0 := by
          simp [placeOf, keyOf, hk, List.findIdx?_cons]
        rw [e1]
        exact ⟨p.2, valV_pos hk, q⟩
      · have e1 : (placeOf true ((p :: kvs).map fun p => D.tup (p.1.map kD)) k) = (placeOf true (kvs.map fun p => D.tup (p.1.map kD)) k).map (· + 1) := by
          simp [placeOf, keyOf, hk, List.findIdx?_cons]
        rw [e1, valV_neg hk]
        have ih := find_true (k := k) t
        revert ih
        cases placeOf true (kvs.map fun p => D.tup (p.1.map kD)) k with
        | none => exact fun z => z
        | some i => simp only [Option.map_some, Option.bind_some, List.getElem?_cons_succ]; exact fun z => z
/-- a dict at a holds these -/
def DicAt (U : Univ) (ad : List Addr) (H : Hp) (t : Bool) (ks vs : List D) (a : Addr) : Prop := Cell U ad H (.dic t ks vs) a
theorem der_dic (S : Sim U ad O H) {d : D} {v : V} {t : Bool} {ks vs : List D} (r : Rep U ad H d v) (e : der d O = .dic t ks vs) : ∃ a, v = .ref a ∧ DicAt U ad H t ks vs a := by
  cases d with
  | ptr k =>
    obtain ⟨a, rfl, ha, c⟩ := der_get S r e
    exact ⟨a, rfl, c⟩
  | dic t' ks' vs' =>
    have e' : D.dic t' ks' vs' = .dic t ks vs := e
    cases e'
    cases t with
    | false => obtain ⟨a, rfl, n, c⟩ := r; exact ⟨a, rfl, c⟩
    | true => obtain ⟨a, rfl, n, c⟩ := r; exact ⟨a, rfl, c⟩
  | _ => cases e
theorem dGet_at {t : Bool} {ks vs : List D} {a : Addr} {x : D} {v : V} {o : Option D} (c : DicAt U ad H t ks vs a) (r : Rep U ad H x v) (e : dGet t ks vs x = some o) :
    ∃ o', DGet H a v o' ∧ Fnd U ad H o o' := by
  obtain ⟨k, ek, rfl⟩ := Option.map_eq_some_iff.mp e
  cases t with
  | false =>
    obtain ⟨kvs, h, rfl, q⟩ := c
    obtain ⟨kk, e1, rfl⟩ := Option.map_eq_some_iff.mp (show (toKey x).map (fun k => [k]) = some k from ek)
    have ev : v = kV kk := by
      have := toKey_kD e1
      subst this
      have z := reps_keys (ks := [kk]) (vs := [v]) ⟨v, [], rfl, r, rfl⟩
      simpa using z
    subst ev
    exact ⟨valV kvs kk, .k h, find_false (k := kk) q⟩
  | true =>
    obtain ⟨kvs, h, rfl, q⟩ := c
    cases x with
    | tup l =>
      have e1 : toKeys l = some k := ek
      have := toKeys_kD e1
      subst this
      obtain ⟨b, xs, rfl, hb, _, t⟩ := r
      have ex := reps_keys t
      subst ex
      exact ⟨valV kvs k, .t h hb, find_true (k := k) q⟩
    | _ => cases ek
end
section
variable {U : Univ}
theorem opIn : Op2 U (compareOp .In) dIn := by
  intro X W c k Cc
  obtain ⟨_, eu⟩ := Cc.u
  subst eu
  have hu := units65 Cc.room
  refine ⟨_, (op_inD hu).or ((op_inTD hu).or (op_in_sign.or (op_dIn (by omega)))), ?_⟩
  intro dx dy x y ad O H d Q S r1 r2 e q
  unfold dIn dInB at e
  split at e
  · rename_i l e0
    split at e
    · rename_i p ps e1 e2
      split at e
      · rename_i hs
        cases e
        obtain ⟨s1, s2⟩ := Bool.and_eq_true_iff.mp hs
        exact .inl ⟨p, ps, dp_of r1 e1, dp_der S r2 (by rw [e0]; unfold toPy; rw [e2]; rfl), s1, s2, q _ _ .refl S rfl⟩
      · cases e
    · cases e
  · rename_i l e0
    split at e
    · rename_i p ps e1 e2
      split at e
      · rename_i hs
        cases e
        obtain ⟨s1, s2⟩ := Bool.and_eq_true_iff.mp hs
        exact .inr (.inl ⟨p, ps, dp_of r1 e1, dp_der S r2 (by rw [e0]; unfold toPy; rw [e2]; rfl), s1, s2, q _ _ .refl S rfl⟩)
      · cases e
    · cases e
  · rename_i l e0
    split at e
    · rename_i p ps e1 e2
      split at e
      · rename_i hs
        cases e
        obtain ⟨s1, s2⟩ := Bool.and_eq_true_iff.mp hs
        exact .inr (.inl ⟨p, ps, dp_of r1 e1, dp_der S r2 (by rw [e0]; unfold toPy; rw [e2]; rfl), s1, s2, q _ _ .refl S rfl⟩)
      · cases e
    · cases e
  · rename_i z e0
    split at e
    · rename_i cc
      cases e
      refine .inr (.inr (.inl ⟨cc, z, r1, ?_, q _ _ .refl S rfl⟩))
      cases dy with
      | str z' => have : D.str z' = .str z := e0; cases this; exact r2
      | ptr k => obtain ⟨a, rfl, ha, c⟩ := der_get S r2 e0; exact c.elim
      | _ => cases e0
    · cases e
  · rename_i t ks vs e0
    split at e
    · rename_i o e1
      cases e
      obtain ⟨a, rfl, c⟩ := der_dic S r2 e0
      obtain ⟨o', g, m⟩ := dGet_at c r1 e1
      refine .inr (.inr (.inr ⟨a, o', rfl, g, q _ _ .refl S ?_⟩))
      cases o with
      | none => have m' : o' = none := m; rw [m']; rfl
      | some d => obtain ⟨y, rfl, _⟩ := m; rfl
    · cases e
  · cases e
theorem opNotIn : Op2 U (compareOp .NotIn) dNotIn := by
  intro X W c k Cc
  obtain ⟨_, eu⟩ := Cc.u
  subst eu
  have hu := units65 Cc.room
  refine ⟨_, (op_notInD hu).or ((op_notInTD hu).or (op_notIn_sign.or (op_dNotIn (by omega)))), ?_⟩
  intro dx dy x y ad O H d Q S r1 r2 e q
  unfold dNotIn dInB at e
  split at e
  · rename_i l e0
    split at e
    · rename_i p ps e1 e2
      split at e
      · rename_i hs
        cases e
        obtain ⟨s1, s2⟩ := Bool.and_eq_true_iff.mp hs
        exact .inl ⟨p, ps, dp_of r1 e1, dp_der S r2 (by rw [e0]; unfold toPy; rw [e2]; rfl), s1, s2, q _ _ .refl S rfl⟩
      · cases e
    · cases e
  · rename_i l e0
    split at e
    · rename_i p ps e1 e2
      split at e
      · rename_i hs
        cases e
        obtain ⟨s1, s2⟩ := Bool.and_eq_true_iff.mp hs
        exact .inr (.inl ⟨p, ps, dp_of r1 e1, dp_der S r2 (by rw [e0]; unfold toPy; rw [e2]; rfl), s1, s2, q _ _ .refl S rfl⟩)
      · cases e
    · cases e
  · rename_i l e0
    split at e
    · rename_i p ps e1 e2
      split at e
      · rename_i hs
        cases e
        obtain ⟨s1, s2⟩ := Bool.and_eq_true_iff.mp hs
        exact .inr (.inl ⟨p, ps, dp_of r1 e1, dp_der S r2 (by rw [e0]; unfold toPy; rw [e2]; rfl), s1, s2, q _ _ .refl S rfl⟩)
      · cases e
    · cases e
  · rename_i z e0
    split at e
    · rename_i cc
      cases e
      refine .inr (.inr (.inl ⟨cc, z, r1, ?_, q _ _ .refl S rfl⟩))
      cases dy with
      | str z' => have : D.str z' = .str z := e0; cases this; exact r2
      | ptr k => obtain ⟨a, rfl, ha, c⟩ := der_get S r2 e0; exact c.elim
      | _ => cases e0
    · cases e
  · rename_i t ks vs e0
    split at e
    · rename_i o e1
      cases e
      obtain ⟨a, rfl, c⟩ := der_dic S r2 e0
      obtain ⟨o', g, m⟩ := dGet_at c r1 e1
      refine .inr (.inr (.inr ⟨a, o', rfl, g, q _ _ .refl S ?_⟩))
      cases o with
      | none => have m' : o' = none := m; rw [m']; rfl
      | some d => obtain ⟨y, rfl, _⟩ := m; rfl
    · cases e
  · cases e
end
end CP
namespace CP
open PySem PySem.Spec PyProof.Rows L2

def dIsB (neg : Bool) : F2 := fun x y _ => match y with
  | .non => (match x with
    | .non => some (.bl (!neg))
    | .glo _ => none
    | _ => some (.bl neg))
  | _ => none
def dIs : F2 := dIsB false
def dIsNot : F2 := dIsB true
section
variable {U : Univ} {ad : List Addr} {O : Store} {H : Hp}
theorem non_iff : ∀ {d : D} {v : V}, Rep U ad H d v → (∀ x, d ≠ .glo x) → (v = .non ↔ d = .non)
  | .non, _, r, _ => ⟨fun _ => rfl, fun _ => r⟩
  | .bl _, _, r, _ => by cases r; exact ⟨(fun z => nomatch z), (fun z => nomatch z)⟩
  | .int _, _, r, _ => by cases r; exact ⟨(fun z => nomatch z), (fun z => nomatch z)⟩
  | .str _, _, r, _ => by cases r; exact ⟨(fun z => nomatch z), (fun z => nomatch z)⟩
  | .ty _, _, r, _ => by cases r; exact ⟨(fun z => nomatch z), (fun z => nomatch z)⟩
  | .tup _, _, r, _ => by obtain ⟨a, xs, rfl, _⟩ := r; exact ⟨(fun z => nomatch z), (fun z => nomatch z)⟩
  | .rot _, _, r, _ => by obtain ⟨a, xs, rfl, _⟩ := r; exact ⟨(fun z => nomatch z), (fun z => nomatch z)⟩
  | .lst _, _, r, _ => by obtain ⟨a, xs, rfl, _⟩ := r; exact ⟨(fun z => nomatch z), (fun z => nomatch z)⟩
  | .rol _, _, r, _ => by obtain ⟨a, xs, rfl, _⟩ := r; exact ⟨(fun z => nomatch z), (fun z => nomatch z)⟩
  | .dic false _ _, _, r, _ => by obtain ⟨a, rfl, _⟩ := r; exact ⟨(fun z => nomatch z), (fun z => nomatch z)⟩
  | .dic true _ _, _, r, _ => by obtain ⟨a, rfl, _⟩ := r; exact ⟨(fun z => nomatch z), (fun z => nomatch z)⟩
  | .ins _ _ _, _, r, _ => by obtain ⟨a, C, dx, fs, rfl, _⟩ := r; exact ⟨(fun z => nomatch z), (fun z => nomatch z)⟩
  | .fdc _ _, _, r, _ => by obtain ⟨a, rfl, _⟩ := r; exact ⟨(fun z => nomatch z), (fun z => nomatch z)⟩
  | .exc _ _ _ _, _, r, _ => by obtain ⟨a, cl, dx, fs, rfl, _⟩ := r; exact ⟨(fun z => nomatch z), (fun z => nomatch z)⟩
  | .ptr _, _, r, _ => by obtain ⟨a, rfl, _⟩ := r; exact ⟨(fun z => nomatch z), (fun z => nomatch z)⟩
  | .glo x, _, _, h => absurd rfl (h x)
end
section
variable {U : Univ}
theorem opIs : Op2 U (compareOp .Is) dIs := by
  intro X W c k Cc
  refine ⟨_, op_isN, ?_⟩
  intro dx dy x y ad O H d Q S r1 r2 e q
  unfold dIs dIsB at e
  cases dy with
  | non =>
    cases r2
    refine ⟨rfl, ?_⟩
    cases dx with
    | non => cases e; cases r1; exact q _ _ .refl S rfl
    | glo _ => cases e
    | _ =>
      cases e
      rw [decide_eq_false fun h => nomatch (non_iff r1 (fun _ z => nomatch z)).mp h]
      exact q _ _ .refl S rfl
  | _ => cases e
theorem opIsNot : Op2 U (compareOp .IsNot) dIsNot := by
  intro X W c k Cc
  refine ⟨_, op_notN, ?_⟩
  intro dx dy x y ad O H d Q S r1 r2 e q
  unfold dIsNot dIsB at e
  cases dy with
  | non =>
    cases r2
    refine ⟨rfl, ?_⟩
    cases dx with
    | non => cases e; cases r1; exact q _ _ .refl S rfl
    | glo _ => cases e
    | _ =>
      cases e
      rw [decide_eq_false fun h => nomatch (non_iff r1 (fun _ z => nomatch z)).mp h]
      exact q _ _ .refl S rfl
  | _ => cases e
end

def dTru (d : D) (O : Store) : Option Bool := match der d O with
  | .non => some false
  | .bl b => some b
  | .int i => some (i != 0)
  | .str x => if x.length ≤ sizeLine then some ((x.length : Int) != 0) else none
  | .lst l => some (!l.isEmpty)
  | .rol l => some (!l.isEmpty)
  | .tup l => some (!l.isEmpty)
  | .rot l => some (!l.isEmpty)
  | .dic false ks _ => some (!ks.isEmpty)
  | _ => none
def tT (m : DE) : DT := fun σ O => (m σ O).bind fun d O1 => lift (dTru d O1) O1
def tN (m : DT) : DT := fun σ O => (m σ O).bind fun b O1 => .ok (!b) O1
def tA (m n : DT) : DT := fun σ O => (m σ O).bind fun b O1 => if b = true then n σ O1 else .ok false O1
def tO (m n : DT) : DT := fun σ O => (m σ O).bind fun b O1 => if b = true then .ok true O1 else n σ O1
def eNot (m : DE) : DE := fun σ O => (m σ O).bind fun d O1 => match d with
  | .bl b => .ok (.bl (!b)) O1
  | _ => .stuck
def eAnd (m n : DE) : DE := fun σ O => (m σ O).bind fun d O1 => match d with
  | .bl true => n σ O1
  | .bl false => .ok (.bl false) O1
  | _ => .stuck
def eOr (m n : DE) : DE := fun σ O => (m σ O).bind fun d O1 => match d with
  | .bl true => .ok (.bl true) O1
  | .bl false => n σ O1
  | _ => .stuck
def eIf (t : DT) (m n : DE) : DE := fun σ O => (t σ O).bind fun b O1 => if b = true then m σ O1 else n σ O1
def eNeg (m : DE) : DE := fun σ O => (m σ O).bind fun d O1 => match d with
  | .int i => .ok (.int (-i)) O1
  | _ => .stuck
theorem isEmpty_len {α β : Type} {a : List α} {b : List β} (h : a.length = b.length) : a.isEmpty = b.isEmpty := by
  cases a <;> cases b <;> simp_all
section
variable {U : Univ} {c : Cs} {k : Nat} {pos : Pos} {a b : Expr} {rest : List Expr} {ma mb : DE} {ta tb : DT}
theorem tru_at {ad : List Addr} {O : Store} {H : Hp} (S : Sim U ad O H) {d : D} {v : V} {bb : Bool} (r : Rep U ad H d v) (e : dTru d O = some bb) : TruV U.K v H bb := by
  unfold dTru at e
  split at e
  · rename_i e0; cases e
    cases d with
    | non => cases r; rfl
    | ptr _ => obtain ⟨a, rfl, _, c⟩ := der_get S r e0; exact c.elim
    | _ => cases e0
  · rename_i e0; cases e
    cases d with
    | bl _ => cases e0; cases r; rfl
    | ptr _ => obtain ⟨a, rfl, _, c⟩ := der_get S r e0; exact c.elim
    | _ => cases e0
  · rename_i e0; cases e
    cases d with
    | int _ => cases e0; cases r; rfl
    | ptr _ => obtain ⟨a, rfl, _, c⟩ := der_get S r e0; exact c.elim
    | _ => cases e0
  · rename_i e0
    split at e
    · rename_i hz
      cases e
      cases d with
      | str _ => cases e0; cases r; exact ⟨hz, rfl⟩
      | ptr _ => obtain ⟨a, rfl, _, c⟩ := der_get S r e0; exact c.elim
      | _ => cases e0
    · cases e
  · rename_i l e0; cases e
    obtain ⟨a, xs, rfl, h, t⟩ := der_lst S r e0
    exact .inl ⟨xs, .of h, by rw [isEmpty_len t.length]⟩
  · rename_i l e0; cases e
    obtain ⟨a, xs, rfl, h, t⟩ := der_rol S r e0
    exact .inl ⟨xs, h, by rw [isEmpty_len t.length]⟩
  · rename_i l e0; cases e
    obtain ⟨a, xs, rfl, h, _, t⟩ := der_tup S r e0
    exact .inr (.inl ⟨xs, .of h, by rw [isEmpty_len t.length]⟩)
  · rename_i l e0; cases e
    obtain ⟨a, xs, rfl, h, t⟩ := der_rot S r e0
    exact .inr (.inl ⟨xs, h.sq, by rw [isEmpty_len t.length]⟩)
  · rename_i ks vs e0; cases e
    obtain ⟨a, rfl, kvs, h, rfl, t⟩ := der_dic S r e0
    exact .inr (.inr ⟨kvs, h, by rw [isEmpty_len (by simp : (kvs.map fun p => kD p.1).length = kvs.length)]⟩)
  · cases e
theorem tTruth (ha : SE U c k a ma) (he : ∀ env whole, isTrue a env whole = (do let v ← whole; standAt a.pos; holding [v] (truthy v)) := by intro _ _; rfl) : ST U c k a (tT ma) := by
  intro X W C
  obtain ⟨t, p, f⟩ := ha X W C
  obtain ⟨_, eu⟩ := C.u
  subst eu
  refine ⟨_, pt_truth p (he _), fun ad O H σ sv Q S r h => f ad O H σ sv _ S r (Post.mono (Post.bindT h) ?_)⟩
  rintro v H1 ⟨ad1, O1, d, s1, S1, r1, h1⟩
  cases e : dTru d O1 with
  | none => rw [e] at h1; exact h1.elim
  | some bb =>
    rw [e] at h1
    exact ⟨bb, tru_at S1 r1 e, h1 ad1 H1 .refl S1⟩
theorem tNotT (ha : ST U c k a ta) : ST U c k (.UnaryOp .Not a pos) (tN ta) := by
  intro X W C
  obtain ⟨t, p, f⟩ := ha X W C
  refine ⟨_, pt_not p, fun ad O H σ sv Q S r h => f ad O H σ sv _ S r (PostT.mono (PostT.bindT h) ?_)⟩
  rintro v H1 ⟨ad1, O1, s1, S1, h1⟩
  exact h1 ad1 H1 .refl S1
theorem swOneA (ha : ST U c k a ta) : SW U c k (.BoolOp .And [a] pos) ta := fun X W C => let ⟨t, p, f⟩ := ha X W C; ⟨t, pw_and1 p, f⟩
theorem swOneO (ha : ST U c k a ta) : SW U c k (.BoolOp .Or [a] pos) ta := fun X W C => let ⟨t, p, f⟩ := ha X W C; ⟨t, pw_or1 p, f⟩
theorem swAnd (ha : ST U c k a ta) (hb : SW U c k (.BoolOp .And (b :: rest) pos) tb) : SW U c k (.BoolOp .And (a :: b :: rest) pos) (tA ta tb) := by
  intro X W C
  obtain ⟨t, p, f⟩ := ha X W C
  obtain ⟨t', p', f'⟩ := hb X W C
  refine ⟨_, pw_and p p', fun ad O H σ sv Q S r h => f ad O H σ sv _ S r (PostT.mono (PostT.bindT h) ?_)⟩
  rintro v H1 ⟨ad1, O1, s1, S1, h1⟩
  cases v with
  | true => exact f' ad1 O1 H1 σ sv Q S1 (r.keep s1) h1
  | false => exact h1 ad1 H1 .refl S1
theorem swOr (ha : ST U c k a ta) (hb : SW U c k (.BoolOp .Or (b :: rest) pos) tb) : SW U c k (.BoolOp .Or (a :: b :: rest) pos) (tO ta tb) := by
  intro X W C
  obtain ⟨t, p, f⟩ := ha X W C
  obtain ⟨t', p', f'⟩ := hb X W C
  refine ⟨_, pw_or p p', fun ad O H σ sv Q S r h => f ad O H σ sv _ S r (PostT.mono (PostT.bindT h) ?_)⟩
  rintro v H1 ⟨ad1, O1, s1, S1, h1⟩
  cases v with
  | true => exact h1 ad1 H1 .refl S1
  | false => exact f' ad1 O1 H1 σ sv Q S1 (r.keep s1) h1
theorem tBoolOp {e : Expr} (h : SW U c k e ta) : ST U c k e ta := fun X W C => let ⟨t, p, f⟩ := h X W C; ⟨t, p.pt, f⟩
theorem sNot (ha : SE U c k a ma) : SE U c k (.UnaryOp .Not a pos) (eNot ma) := by
  intro X W C
  obtain ⟨t, p, f⟩ := ha X W C
  refine ⟨_, pe_not p, fun ad O H σ sv Q S r h => f ad O H σ sv _ S r (Post.mono (Post.bind h) ?_)⟩
  rintro v H1 ⟨ad1, O1, d, s1, S1, r1, h1⟩
  cases d with
  | bl bb => exact ⟨bb, r1, h1 ad1 H1 _ .refl S1 rfl⟩
  | _ => exact h1.elim
theorem sOneB {op : BoolOp} (ha : SE U c k a ma) : SE U c k (.BoolOp op [a] pos) ma := fun X W C => let ⟨t, p, f⟩ := ha X W C; ⟨t, pe_one p, f⟩
theorem sAnd (ha : SE U c k a ma) (hb : SE U c k (.BoolOp .And (b :: rest) pos) mb) : SE U c k (.BoolOp .And (a :: b :: rest) pos) (eAnd ma mb) := by
  intro X W C
  obtain ⟨t, p, f⟩ := ha X W C
  obtain ⟨t', p', f'⟩ := hb X W C
  refine ⟨_, pe_and p p', fun ad O H σ sv Q S r h => f ad O H σ sv _ S r (Post.mono (Post.bind h) ?_)⟩
  rintro v H1 ⟨ad1, O1, d, s1, S1, r1, h1⟩
  cases d with
  | bl bb =>
    refine ⟨bb, r1, ?_⟩
    cases bb with
    | true => exact f' ad1 O1 H1 σ sv Q S1 (r.keep s1) h1
    | false => exact h1 ad1 H1 _ .refl S1 rfl
  | _ => exact h1.elim
theorem sOr (ha : SE U c k a ma) (hb : SE U c k (.BoolOp .Or (b :: rest) pos) mb) : SE U c k (.BoolOp .Or (a :: b :: rest) pos) (eOr ma mb) := by
  intro X W C
  obtain ⟨t, p, f⟩ := ha X W C
  obtain ⟨t', p', f'⟩ := hb X W C
  refine ⟨_, pe_or p p', fun ad O H σ sv Q S r h => f ad O H σ sv _ S r (Post.mono (Post.bind h) ?_)⟩
  rintro v H1 ⟨ad1, O1, d, s1, S1, r1, h1⟩
  cases d with
  | bl bb =>
    refine ⟨bb, r1, ?_⟩
    cases bb with
    | true => exact h1 ad1 H1 _ .refl S1 rfl
    | false => exact f' ad1 O1 H1 σ sv Q S1 (r.keep s1) h1
  | _ => exact h1.elim
theorem sIf {e : Expr} (ht : ST U c k e ta) (ha : SE U c k a ma) (hb : SE U c k b mb) : SE U c k (.IfExp e a b pos) (eIf ta ma mb) := by
  intro X W C
  obtain ⟨t, p, f⟩ := ht X W C
  obtain ⟨t1, p1, f1⟩ := ha X W C
  obtain ⟨t2, p2, f2⟩ := hb X W C
  refine ⟨_, pe_ifExp p p1 p2, fun ad O H σ sv Q S r h => f ad O H σ sv _ S r (PostT.mono (PostT.bind h) ?_)⟩
  rintro v H1 ⟨ad1, O1, s1, S1, h1⟩
  cases v with
  | true => exact f1 ad1 O1 H1 σ sv Q S1 (r.keep s1) h1
  | false => exact f2 ad1 O1 H1 σ sv Q S1 (r.keep s1) h1
theorem sNeg (ha : SE U c k a ma) : SE U c k (.UnaryOp .USub a pos) (eNeg ma) := by
  intro X W C
  obtain ⟨t, p, f⟩ := ha X W C
  refine ⟨_, pe_un un_neg p, fun ad O H σ sv Q S r h => f ad O H σ sv _ S r (Post.mono (Post.bind h) ?_)⟩
  rintro v H1 ⟨ad1, O1, d, s1, S1, r1, h1⟩
  cases d with
  | int i => exact ⟨i, r1, h1 ad1 H1 _ .refl S1 rfl⟩
  | _ => exact h1.elim
end

section
variable {U : Univ} {c : Cs} {k : Nat} {pos : Pos} {es : List Expr} {ms : DA}
theorem sTup {x1} (h : SA U c k es ms) : SE U c k (.Tuple es x1 pos) (eTup ms) := by
  intro X W C
  obtain ⟨t, p, f⟩ := h X W C
  refine ⟨_, pe_tup p, fun ad O H σ sv Q S r h => f ad O H σ sv _ S r (PostL.mono (PostL.bind h) ?_)⟩
  rintro vs H1 ⟨ad1, O1, ds, s1, S1, r1, h1⟩
  unfold mkT at h1
  split at h1
  · rename_i hz
    exact ⟨by rw [← r1.length]; exact hz, fun p hp => h1 ad1 _ _ (.new hp (S1.out hp)) (S1.new hp) (rep_tup S1 hp r1)⟩
  · exact h1.elim
theorem sLst (h : SA U c k es ms) : SE U c k (.List es pos) (eLst ms) := by
  intro X W C
  obtain ⟨t, p, f⟩ := h X W C
  refine ⟨_, pe_lst p, fun ad O H σ sv Q S r h => f ad O H σ sv _ S r (PostL.mono (PostL.bind h) ?_)⟩
  rintro vs H1 ⟨ad1, O1, ds, s1, S1, r1, h1⟩
  unfold mkL at h1
  split at h1
  · rename_i hz
    exact ⟨by rw [← r1.length]; exact hz, fun p hp => h1 ad1 _ _ (.new hp (S1.out hp)) (S1.new hp) (rep_lst S1 hp r1)⟩
  · exact h1.elim
theorem cell_alloc {ad : List Addr} {O : Store} {H : Hp} {p : Addr} {xs : List V} {ds : List D} (S : Sim U ad O H) (hp : H p = none) (r : Reps U ad H ds xs) : Sim U (ad ++ [p]) (O ++ [.lst ds]) (upd H p (.lst xs)) :=
  S.alloc hp ⟨xs, upd_same, r.keep (Step.alloc hp)⟩
theorem rep_ptr {ad : List Addr} {O : Store} {H H' : Hp} {p : Addr} (S : Sim U ad O H) : Rep U (ad ++ [p]) H' (.ptr O.length) (.ref p) := ⟨p, rfl, by rw [← S.len]; simp⟩
theorem sMut (h : SA U c k es ms) : SE U c k (.List es pos) (eMut ms) := by
  intro X W C
  obtain ⟨t, p, f⟩ := h X W C
  refine ⟨_, pe_lst p, fun ad O H σ sv Q S r h => f ad O H σ sv _ S r (PostL.mono (PostL.bind h) ?_)⟩
  rintro vs H1 ⟨ad1, O1, ds, s1, S1, r1, h1⟩
  unfold mkM at h1
  split at h1
  · rename_i hz
    exact ⟨by rw [← r1.length]; exact hz, fun p hp => h1 _ _ _ (.alloc hp) (cell_alloc S1 hp r1) (rep_ptr S1)⟩
  · exact h1.elim
end

def dIx : F2 := fun x y O => match der x O with
  | .lst l => (match y with | .int i => atI l i | _ => none)
  | .rol l => (match y with | .int i => atI l i | _ => none)
  | .tup l => (match y with | .int i => atI l i | _ => none)
  | .rot l => (match y with | .int i => atI l i | _ => none)
  | .str z => (match y with | .int i => if z.length ≤ sizeLine then (atI z.cps.toList i).map fun c => .str ⟨#[c]⟩ else none | _ => none)
  | .dic t ks vs => (match dGet t ks vs y with | some (some d) => some d | _ => none)
  | _ => none
section
variable {U : Univ} {ad : List Addr} {O : Store} {H : Hp}
theorem atI_rep {ds : List D} {xs : List V} {i : Int} {d : D} (r : Reps U ad H ds xs) (e : atI ds i = some d) : ∃ v, atI xs i = some v ∧ Rep U ad H d v := by
  unfold atI at e ⊢
  rw [← r.length]
  cases h : ixN ds.length i with
  | none => rw [h] at e; cases e
  | some j =>
    rw [h] at e
    exact r.get e
end
section
variable {X : Cx}
theorem ix_dict (hu : X.A.units + 1 < cLine) : IxR X (fun x y H Q => ∃ a v, x = .ref a ∧ DGet H a y (some v) ∧ Q v H) := by
  intro value slice pins s σ H x y v u Q I rx ry h hs
  obtain ⟨a, vv, rfl, g, q⟩ := h
  cases rx
  exact tail_any (dict_typeIs I g) PySem.F.slot_dict_getitem.lookup (d_getItem hu I g ry fun w' s3 I3 rw' => ⟨vv, H, I3, rw', q⟩) hs
end
section
variable {U : Univ} {c : Cs} {k : Nat} {pos : Pos} {a b : Expr} {ma mb : DE}
theorem sIx (ha : SE U c k a ma) (hb : SE U c k b mb) (hs : PlainIx b := by intro _ _; rfl) : SE U c k (.Subscript a b pos) (e2 dIx ma mb) := by
  intro X W C
  obtain ⟨ta, pa, fa⟩ := ha X W C
  obtain ⟨tb, pb, fb⟩ := hb X W C
  obtain ⟨_, eu⟩ := C.u
  subst eu
  have hu := units65 C.room
  refine ⟨_, pe_ix (ix_list.or (ix_tup.or (ix_str.or (ix_dict (by omega))))) pa pb hs, run2 (X := X) (F := fun _ _ => default) fa fb ?_⟩
  intro dx dy x y ad O H d Q S r1 r2 e q
  unfold dIx at e
  split at e
  · rename_i l e0
    split at e
    · rename_i i
      obtain ⟨p, xs, rfl, h, t⟩ := der_lst S r1 e0
      obtain ⟨v, ev, rv⟩ := atI_rep t e
      exact .inl ⟨p, xs, i, v, rfl, r2, .of h, ev, q _ _ .refl S rv⟩
    · cases e
  · rename_i l e0
    split at e
    · rename_i i
      obtain ⟨p, xs, rfl, h, t⟩ := der_rol S r1 e0
      obtain ⟨v, ev, rv⟩ := atI_rep t e
      exact .inl ⟨p, xs, i, v, rfl, r2, h, ev, q _ _ .refl S rv⟩
    · cases e
  · rename_i l e0
    split at e
    · rename_i i
      obtain ⟨p, xs, rfl, h, _, t⟩ := der_tup S r1 e0
      obtain ⟨v, ev, rv⟩ := atI_rep t e
      exact .inr (.inl ⟨p, xs, i, v, rfl, r2, .of h, ev, q _ _ .refl S rv⟩)
    · cases e
  · rename_i l e0
    split at e
    · rename_i i
      obtain ⟨p, xs, rfl, h, t⟩ := der_rot S r1 e0
      obtain ⟨v, ev, rv⟩ := atI_rep t e
      exact .inr (.inl ⟨p, xs, i, v, rfl, r2, h.sq, ev, q _ _ .refl S rv⟩)
    · cases e
  · rename_i z e0
    split at e
    · rename_i i
      split at e
      · rename_i hz
        obtain ⟨cc, h, rfl⟩ := Option.map_eq_some_iff.mp e
        refine .inr (.inr (.inl ⟨z, i, cc, ?_, r2, hz, h, q _ _ .refl S rfl⟩))
        cases dx with
        | str z' => cases e0; exact r1
        | ptr k => obtain ⟨a, rfl, ha, c⟩ := der_get S r1 e0; exact c.elim
        | _ => cases e0
      · cases e
    · cases e
  · rename_i t ks vs e0
    split at e
    · rename_i d' e1
      cases e
      obtain ⟨p, rfl, cc⟩ := der_dic S r1 e0
      obtain ⟨o', g, v, rfl, rv⟩ := dGet_at cc r2 e1
      exact .inr (.inr (.inr ⟨p, v, rfl, g, q _ _ .refl S rv⟩))
    · cases e
  · cases e
end

def cutD (xs : List D) (lo hi : Option Int) : List D := (xs.drop (HT.sIx xs.length 0 lo)).take (HT.sIx xs.length xs.length hi - HT.sIx xs.length 0 lo)
def dSl (x : D) (lo hi : Option Int) (O : Store) : Option D := match der x O with
  | .lst l => some (.lst (cutD l lo hi))
  | .rol l => some (.lst (cutD l lo hi))
  | .tup l => some (.tup (cutD l lo hi))
  | .rot l => some (if HT.sIx l.length 0 lo = 0 ∧ HT.sIx l.length l.length hi = l.length then .rot l else .tup (cutD l lo hi))
  | .str z => if z.length ≤ sizeLine then some (.str (cutS z lo hi)) else none
  | _ => none
abbrev DO := Env → Store → R (Option Int)
def oNone : DO := fun _ O => .ok none O
def oSome (m : DE) : DO := fun σ O => (m σ O).bind fun d O1 => match d with
  | .int i => .ok (some i) O1
  | _ => .stuck
def eSl (m : DE) (l h : DO) : DE := fun σ O => (m σ O).bind fun x O1 => (l σ O1).bind fun a O2 => (h σ O2).bind fun b O3 => lift (dSl x a b O3) O3
section
variable (U : Univ) (ad : List Addr) (H : Hp)
def PostO (Q : Option Int → Hp → Prop) (E : XK) : R (Option Int) → Prop
  | .ok d O => ∀ ad' H', Step ad H ad' H' → Sim U ad' O H' → Q d H'
  | .err x O => ∀ ad' H' c dx, Step ad H ad' H' → Sim U ad' O H' → RepX U ad' H' x c dx → E c dx H'
  | .stuck => False
end
def RdO (U : Univ) (W : WX) (t : TO) (m : DO) : Prop := ∀ (ad : List Addr) (O : Store) (H : Hp) (σ : Env) (sv : L2.St) (Q : Option Int → Hp → Prop), Sim U ad O H → RepE U ad H σ sv → PostO U ad H Q (fun cl d H' => W cl d sv H') (m σ O) → t sv H Q
def SO (U : Univ) (c : Cs) (k : Nat) (e : Option Expr) (m : DO) : Prop := ∀ (X : Cx) (W : WX), CtxOk U c k X W → ∃ t, PO X e t ∧ RdO U W t m
section
variable {U : Univ} {ad ad1 : List Addr} {H H1 : Hp} {Q : VK} {E : XK} {O : Store} {σ : Env} {sv : L2.St}
theorem PostO.mono {Q Q' : Option Int → Hp → Prop} : ∀ {r : R (Option Int)}, PostO U ad H Q E r → (∀ v H1, Q v H1 → Q' v H1) → PostO U ad H Q' E r
  | .ok _ _, h, f => fun ad' H' s S => f _ _ (h ad' H' s S)
  | .err _ _, h, _ => h
  | .stuck, h, _ => h
theorem PostO.bind {r : R (Option Int)} {f : Option Int → Store → R D} (h : Post U ad H Q E (r.bind f)) :
    PostO U ad H (fun v H1 => ∃ ad1 O1, Step ad H ad1 H1 ∧ Sim U ad1 O1 H1 ∧ Post U ad1 H1 Q E (f v O1)) E r := by
  cases r with
  | ok d O => exact fun ad' H' s S => ⟨ad', O, s, S, h.step s⟩
  | err x O => exact h
  | stuck => exact h
theorem Post.bindO {r : R D} {Q : Option Int → Hp → Prop} {f : D → Store → R (Option Int)} (h : PostO U ad H Q E (r.bind f)) (hf : ∀ d O O' x, f d O ≠ .err x O') :
    Post U ad H (fun v H1 => ∃ ad1 O1 d, Step ad H ad1 H1 ∧ Sim U ad1 O1 H1 ∧ Rep U ad1 H1 d v ∧ PostO U ad1 H1 Q E (f d O1)) E r := by
  cases r with
  | ok d O =>
    intro ad' H' v s S r
    refine ⟨ad', O, d, s, S, r, ?_⟩
    have h' : PostO U ad H Q E (f d O) := h
    revert h'
    cases e : f d O with
    | ok o O2 => exact fun z ad2 H2 s2 S2 => z ad2 H2 (s.trans s2) S2
    | err x O2 => exact absurd e (hf _ _ _ _)
    | stuck => exact fun z => z
  | err x O => exact h
  | stuck => exact h
theorem soNone {c : Cs} {k : Nat} : SO U c k none oNone := fun X W C => ⟨_, po_none, fun ad O H σ sv Q S r h => h ad H .refl S⟩
theorem soSome {c : Cs} {k : Nat} {e : Expr} {m : DE} (he : SE U c k e m) : SO U c k (some e) (oSome m) := by
  intro X W C
  obtain ⟨t, p, f⟩ := he X W C
  refine ⟨_, po_some p, fun ad O H σ sv Q S r h => f ad O H σ sv _ S r (Post.mono (Post.bindO h ?_) ?_)⟩
  · intro d O O' x
    cases d <;> exact fun z => nomatch z
  · rintro v H1 ⟨ad1, O1, d, s1, S1, r1, h1⟩
    cases d with
    | int i => exact ⟨i, r1, h1 ad1 H1 .refl S1⟩
    | _ => exact h1.elim
theorem Reps.cut {ds : List D} {xs : List V} (r : Reps U ad H ds xs) (lo hi : Option Int) : Reps U ad H (cutD ds lo hi) (cutV xs lo hi) := by
  unfold cutD cutV
  rw [r.length]
  exact (r.drop _).take _
theorem cutV_all (xs : List V) {lo hi : Option Int} (h : HT.sIx xs.length 0 lo = 0 ∧ HT.sIx xs.length xs.length hi = xs.length) : cutV xs lo hi = xs := by
  unfold cutV
  rw [h.1, h.2]
  simp
theorem cutD_all {ds : List D} {xs : List V} (r : Reps U ad H ds xs) {lo hi : Option Int} (h : HT.sIx xs.length 0 lo = 0 ∧ HT.sIx xs.length xs.length hi = xs.length) : cutD ds lo hi = ds := by
  unfold cutD
  rw [r.length, h.1, h.2, List.drop_zero, Nat.sub_zero, ← r.length, List.take_length]
theorem sSl {c : Cs} {k : Nat} {pos p2 : Pos} {e : Expr} {lo hi : Option Expr} {m : DE} {l h : DO} (he : SE U c k e m) (hl : SO U c k lo l) (hh : SO U c k hi h) : SE U c k (.Subscript e (.Slice lo hi none p2) pos) (eSl m l h) := by
  intro X W C
  obtain ⟨t, p, f⟩ := he X W C
  obtain ⟨tl, pl, fl⟩ := hl X W C
  obtain ⟨th, ph, fh⟩ := hh X W C
  obtain ⟨_, eu⟩ := C.u
  subst eu
  refine ⟨_, pe_slice (sl_list.or (sl_tupA.or sl_str)) p pl ph, fun ad O H σ sv Q S r h => f ad O H σ sv _ S r (Post.mono (Post.bind h) ?_)⟩
  rintro v H1 ⟨ad1, O1, d, s1, S1, r1, h1⟩
  refine fl ad1 O1 H1 σ sv _ S1 (r.keep s1) (PostO.mono (PostO.bind h1) ?_)
  rintro a H2 ⟨ad2, O2, s2, S2, h2⟩
  refine fh ad2 O2 H2 σ sv _ S2 ((r.keep s1).keep s2) (PostO.mono (PostO.bind h2) ?_)
  rintro b H3 ⟨ad3, O3, s3, S3, h3⟩
  have r3 := (r1.keep s2).keep s3
  cases e0 : dSl d a b O3 with
  | none => rw [e0] at h3; exact h3.elim
  | some z =>
    rw [e0] at h3
    unfold dSl at e0
    split at e0
    · rename_i l e1
      cases e0
      obtain ⟨p, xs, rfl, hp, t⟩ := der_lst S3 r3 e1
      exact .inl ⟨p, xs, rfl, .of hp, fun q hq => h3 ad3 _ _ (.new hq (S3.out hq)) (S3.new hq) (rep_lst S3 hq (t.cut a b))⟩
    · rename_i l e1
      cases e0
      obtain ⟨p, xs, rfl, hp, t⟩ := der_rol S3 r3 e1
      exact .inl ⟨p, xs, rfl, hp, fun q hq => h3 ad3 _ _ (.new hq (S3.out hq)) (S3.new hq) (rep_lst S3 hq (t.cut a b))⟩
    · rename_i l e1
      cases e0
      obtain ⟨p, xs, rfl, hp, np, t⟩ := der_tup S3 r3 e1
      refine .inr (.inl ⟨p, xs, rfl, .of hp, fun ha => ?_, fun _ q hq => h3 ad3 _ _ (.new hq (S3.out hq)) (S3.new hq) (rep_tup S3 hq (t.cut a b))⟩)
      have e := cutD_all t ha
      rw [e] at h3
      exact h3 ad3 H3 _ .refl S3 ⟨p, xs, rfl, hp, np, t⟩
    · rename_i l e1
      cases e0
      obtain ⟨p, xs, rfl, hp, t⟩ := der_rot S3 r3 e1
      refine .inr (.inl ⟨p, xs, rfl, hp.sq, fun ha => ?_, fun ha q hq => ?_⟩)
      · rw [if_pos (by rw [t.length]; exact ha)] at h3
        exact h3 ad3 H3 _ .refl S3 ⟨p, xs, rfl, hp, t⟩
      · rw [if_neg (by rw [t.length]; exact ha)] at h3
        exact h3 ad3 _ _ (.new hq (S3.out hq)) (S3.new hq) (rep_tup S3 hq (t.cut a b))
    · rename_i z e1
      split at e0
      · rename_i hz
        cases e0
        refine .inr (.inr ⟨z, ?_, hz, h3 ad3 H3 _ .refl S3 rfl⟩)
        cases d with
        | str z' => cases e1; exact r3
        | ptr k => obtain ⟨a, rfl, ha, c⟩ := der_get S3 r3 e1; exact c.elim
        | _ => cases e1
      · cases e0
    · cases e0
end
end CP
namespace CP
open PySem PySem.Spec PyProof.Rows L2

abbrev FN := List D → Store → Option D
def OpN (U : Univ) (f : Value) (g : FN) : Prop := ∀ (X : Cx) (W : WX) (c : Cs) (k : Nat), c.hot = false → CtxOk U c k X W → ∃ r, CallR X f r ∧
  ∀ (ds : List D) (xs : List V) (ad : List Addr) (O : Store) (H : Hp) (d : D) (Q : VK), Sim U ad O H → Reps U ad H ds xs → g ds O = some d →
    (∀ v H', Step ad H ad H' → Sim U ad O H' → Rep U ad H' d v → Q v H') → r xs H Q
/-- .. whatever is in hand -/
def OpNH (U : Univ) (f : Value) (g : FN) : Prop := ∀ (X : Cx) (W : WX) (c : Cs) (k : Nat), CtxOk U c k X W → ∃ r, CallR X f r ∧
  ∀ (ds : List D) (xs : List V) (ad : List Addr) (O : Store) (H : Hp) (d : D) (Q : VK), Sim U ad O H → Reps U ad H ds xs → g ds O = some d →
    (∀ v H', Step ad H ad H' → Sim U ad O H' → Rep U ad H' d v → Q v H') → r xs H Q
theorem OpNH.calm {U : Univ} {f : Value} {g : FN} (h : OpNH U f g) : OpN U f g := fun X W c k _ C => h X W c k C
def eN (g : FN) (ms : DA) : DE := fun σ O => (ms σ O).bind fun ds O1 => lift (g ds O1) O1
section
variable {U : Univ} {c : Cs} {k : Nat} {p pos : Pos} {x : Str} {e : Expr} {es : List Expr} {ms : DA} {g : FN} {id T : String}
theorem runN {W : WX} {r : List V → Hp → VK → Prop} {t : TA} (f : RdA U W t ms)
    (hr : ∀ (ds : List D) (xs : List V) (ad : List Addr) (O : Store) (H : Hp) (d : D) (Q : VK), Sim U ad O H → Reps U ad H ds xs → g ds O = some d →
    (∀ v H', Step ad H ad H' → Sim U ad O H' → Rep U ad H' d v → Q v H') → r xs H Q) : Rd1 U W (tCB r t) (eN g ms) := by
  intro ad O H σ sv Q S rr h
  refine f ad O H σ sv _ S rr (PostL.mono (PostL.bind h) ?_)
  rintro vs H1 ⟨ad1, O1, ds, s1, S1, r1, h1⟩
  cases e0 : g ds O1 with
  | none => rw [e0] at h1; exact h1.elim
  | some d =>
    rw [e0] at h1
    exact hr ds vs ad1 O1 H1 d Q S1 r1 e0 fun v H' s S q => h1 ad1 H' v s S q
theorem sCallB (ho : OpN U (.builtin id) g) (hh : c.hot = false) (hg : c.sc.names.lookup x = some .globalImplicit) (hm : U.mg x = none) (hv : bootBuiltins x = some (.builtin id)) (ha : SA U c k (e :: es) ms) (hn : x ≠ "__name__") (hdb : (x == ("__debug__" : Str)) = false)
    (he : ∀ env, starEach (e :: es) env = (false, eval e env) :: starEach es env := by intro _; rfl) (hpl : ∀ env, (backTo pos (starEach es env)).any (·.1) = false := by intro _; rfl) : SE U c k (.Call (.Name x p) (e :: es) [] pos) (eN g ms) := by
  intro X W C
  obtain ⟨t, pa, f⟩ := ha X W C
  obtain ⟨r, hr, hq⟩ := ho X W c k hh C
  obtain ⟨_, eu⟩ := C.u
  subst eu
  exact ⟨_, pe_callB hr (by show X.env.scope.names.lookup x = _; rw [C.s]; exact hg) hm hv pa hn hdb (he _) (hpl _), runN f hq⟩
theorem sCallBH (ho : OpNH U (.builtin id) g) (hg : c.sc.names.lookup x = some .globalImplicit) (hm : U.mg x = none) (hv : bootBuiltins x = some (.builtin id)) (ha : SA U c k (e :: es) ms) (hn : x ≠ "__name__") (hdb : (x == ("__debug__" : Str)) = false)
    (he : ∀ env, starEach (e :: es) env = (false, eval e env) :: starEach es env := by intro _; rfl) (hpl : ∀ env, (backTo pos (starEach es env)).any (·.1) = false := by intro _; rfl) : SE U c k (.Call (.Name x p) (e :: es) [] pos) (eN g ms) := by
  intro X W C
  obtain ⟨t, pa, f⟩ := ha X W C
  obtain ⟨r, hr, hq⟩ := ho X W c k C
  obtain ⟨_, eu⟩ := C.u
  subst eu
  exact ⟨_, pe_callB hr (by show X.env.scope.names.lookup x = _; rw [C.s]; exact hg) hm hv pa hn hdb (he _) (hpl _), runN f hq⟩
theorem sCallT (ho : OpN U (.type T) g) (hh : c.hot = false) (hg : c.sc.names.lookup x = some .globalImplicit) (hm : U.mg x = none) (hv : bootBuiltins x = some (.type T)) (ha : SA U c k (e :: es) ms) (hn : x ≠ "__name__") (hdb : (x == ("__debug__" : Str)) = false)
    (he : ∀ env, starEach (e :: es) env = (false, eval e env) :: starEach es env := by intro _; rfl) (hpl : ∀ env, (backTo pos (starEach es env)).any (·.1) = false := by intro _; rfl) : SE U c k (.Call (.Name x p) (e :: es) [] pos) (eN g ms) := by
  intro X W C
  obtain ⟨t, pa, f⟩ := ha X W C
  obtain ⟨r, hr, hq⟩ := ho X W c k hh C
  obtain ⟨_, eu⟩ := C.u
  subst eu
  exact ⟨_, pe_callTy hr (by show X.env.scope.names.lookup x = _; rw [C.s]; exact hg) hm hv pa hn hdb (he _) (hpl _), runN f hq⟩
end
theorem CallR.or {X : Cx} {f : Value} {r r' : List V → Hp → VK → Prop} (h : CallR X f r) (h' : CallR X f r') : CallR X f (fun xs H Q => r xs H Q ∨ r' xs H Q) := by
  intro pins s σ H xs us Q I rv q
  rcases q with q | q
  · exact h pins s σ H xs us Q I rv q
  · exact h' pins s σ H xs us Q I rv q

theorem reps1 {U : Univ} {ad : List Addr} {H : Hp} {d : D} {xs : List V} (h : Reps U ad H [d] xs) : ∃ v, xs = [v] ∧ Rep U ad H d v := by
  obtain ⟨v, r, rfl, q, t⟩ := h
  cases t
  exact ⟨v, rfl, q⟩
theorem reps2 {U : Univ} {ad : List Addr} {H : Hp} {d e : D} {xs : List V} (h : Reps U ad H [d, e] xs) : ∃ v u, xs = [v, u] ∧ Rep U ad H d v ∧ Rep U ad H e u := by
  obtain ⟨v, r, rfl, q, t⟩ := h
  obtain ⟨u, rfl, q'⟩ := reps1 t
  exact ⟨v, u, rfl, q, q'⟩

def dLen : FN := fun ds O => match ds with
  | [x] => (match der x O with
    | .str z => if z.length ≤ sizeLine then some (.int z.length) else none
    | .lst l => some (.int l.length)
    | .rol l => some (.int l.length)
    | .tup l => some (.int l.length)
    | .rot l => some (.int l.length)
    | .dic false ks _ => some (.int ks.length)
    | _ => none)
  | _ => none
section
variable {U : Univ}
theorem opLenH : OpNH U (.builtin "len") dLen := by
  intro X W c k C
  obtain ⟨_, eu⟩ := C.u
  subst eu
  refine ⟨_, CallR.or call_len call_lenD, ?_⟩
  intro ds xs ad O H d Q S r e q
  unfold dLen at e
  split at e
  · rename_i x
    obtain ⟨v, rfl, rx⟩ := reps1 r
    split at e
    · rename_i z e0
      split at e
      · rename_i hz
        cases e
        refine .inl ⟨v, z.length, rfl, ?_, q _ _ .refl S rfl⟩
        cases x with
        | str z' => cases e0; cases rx; exact ⟨hz, rfl⟩
        | ptr k => obtain ⟨a, rfl, _, cc⟩ := der_get S rx e0; exact cc.elim
        | _ => cases e0
      · cases e
    · rename_i l e0
      cases e
      obtain ⟨a, xs, rfl, h, t⟩ := der_lst S rx e0
      exact .inl ⟨_, l.length, rfl, .inl ⟨xs, .of h, t.length⟩, q _ _ .refl S rfl⟩
    · rename_i l e0
      cases e
      obtain ⟨a, xs, rfl, h, t⟩ := der_rol S rx e0
      exact .inl ⟨_, l.length, rfl, .inl ⟨xs, h, t.length⟩, q _ _ .refl S rfl⟩
    · rename_i l e0
      cases e
      obtain ⟨a, xs, rfl, h, _, t⟩ := der_tup S rx e0
      exact .inl ⟨_, l.length, rfl, .inr ⟨xs, .of h, t.length⟩, q _ _ .refl S rfl⟩
    · rename_i l e0
      cases e
      obtain ⟨a, xs, rfl, h, t⟩ := der_rot S rx e0
      exact .inl ⟨_, l.length, rfl, .inr ⟨xs, h.sq, t.length⟩, q _ _ .refl S rfl⟩
    · rename_i ks vs e0
      cases e
      obtain ⟨a, rfl, kvs, h, rfl, t⟩ := der_dic S rx e0
      refine .inr ⟨a, kvs, rfl, h, ?_⟩
      have := q (.int kvs.length) H .refl S (by rw [List.length_map]; exact rfl)
      exact this
    · cases e
  · cases e

theorem opLen : OpN U (.builtin "len") dLen := opLenH.calm
def dInt1 : FN := fun ds _ => match ds with
  | [.int i] => some (.int i)
  | [.bl b] => some (.int (if b then 1 else 0))
  | _ => none
def dAbs : FN := fun ds _ => match ds with
  | [.int i] => some (.int (if i < 0 then -i else i))
  | _ => none
def dBool : FN := fun ds _ => match ds with
  | [.int i] => some (.bl (i != 0))
  | [.bl b] => some (.bl b)
  | _ => none
def dDivmod : FN := fun ds _ => match ds with
  | [.int i, .int j] => if 0 < j ∧ j.natAbs.log2 < 9000 then some (.tup [.int (i / j), .int (i % j)]) else none
  | _ => none
def dStr1 : FN := fun ds _ => match ds with
  | [.int i] => if i.natAbs.log2 < 1920 then some (.str (toString i)) else none
  | [.str x] => some (.str x)
  | _ => none
theorem opAbs : OpN U (.builtin "abs") dAbs := by
  intro X W c k hh C
  refine ⟨_, call_abs, ?_⟩
  intro ds xs ad O H d Q S r e q
  unfold dAbs at e
  split at e
  · cases e
    obtain ⟨v, rfl, rx⟩ := reps1 r
    cases rx
    exact ⟨_, rfl, q _ _ .refl S rfl⟩
  · cases e
theorem opInt : OpN U (.type "int") dInt1 := by
  intro X W c k hh C
  refine ⟨_, call_int1, ?_⟩
  intro ds xs ad O H d Q S r e q
  unfold dInt1 at e
  split at e
  · cases e
    obtain ⟨v, rfl, rx⟩ := reps1 r
    cases rx
    exact .inl ⟨_, rfl, q _ _ .refl S rfl⟩
  · cases e
    obtain ⟨v, rfl, rx⟩ := reps1 r
    cases rx
    exact .inr ⟨_, rfl, q _ _ .refl S rfl⟩
  · cases e
theorem opBool : OpN U (.type "bool") dBool := by
  intro X W c k hh C
  refine ⟨_, call_bool1, ?_⟩
  intro ds xs ad O H d Q S r e q
  unfold dBool at e
  split at e
  · cases e
    obtain ⟨v, rfl, rx⟩ := reps1 r
    cases rx
    exact .inl ⟨_, rfl, q _ _ .refl S rfl⟩
  · cases e
    obtain ⟨v, rfl, rx⟩ := reps1 r
    cases rx
    exact .inr ⟨_, rfl, q _ _ .refl S rfl⟩
  · cases e
theorem opDivmod : OpN U (.builtin "divmod") dDivmod := by
  intro X W c k hh C
  refine ⟨_, call_divmodW, ?_⟩
  intro ds xs ad O H d Q S r e q
  unfold dDivmod at e
  split at e
  · split at e
    · rename_i i j hj
      cases e
      obtain ⟨v, u, rfl, rx, ry⟩ := reps2 r
      cases rx; cases ry
      exact ⟨_, _, rfl, ⟨hj.1, PyProof.noPylong_of_log2 hj.2⟩, fun p hp => q _ _ (.new hp (S.out hp)) (S.new hp) (rep_tup S hp ⟨_, _, rfl, rfl, _, _, rfl, rfl, rfl⟩)⟩
    · cases e
  · cases e
theorem opStr : OpN U (.type "str") dStr1 := by
  intro X W c k hh C
  refine ⟨_, CallR.or call_str_int SkE.call_str_str, ?_⟩
  intro ds xs ad O H d Q S r e q
  unfold dStr1 at e
  split at e
  · split at e
    · rename_i i hi
      cases e
      obtain ⟨v, rfl, rx⟩ := reps1 r
      cases rx
      exact .inl ⟨_, rfl, hi, q _ _ .refl S rfl⟩
    · cases e
  · cases e
    obtain ⟨v, rfl, rx⟩ := reps1 r
    cases rx
    exact .inr ⟨_, rfl, q _ _ .refl S rfl⟩
  · cases e

def maxI : List Int → Option Int
  | [] => none
  | [x] => some x
  | x :: r => (maxI r).map fun m => if m > x then m else x
def minI : List Int → Option Int
  | [] => none
  | [x] => some x
  | x :: r => (minI r).map fun m => if m < x then m else x
theorem maxI_spec : ∀ {ns : List Int} {m : Int}, maxI ns = some m → m ∈ ns ∧ ∀ y ∈ ns, y ≤ m
  | [], _, e => by cases e
  | [x], m, e => by cases e; simp
  | x :: y :: r, m, e => by
    have e' : (maxI (y :: r)).map (fun m => if m > x then m else x) = some m := e
    obtain ⟨m', h1, h2⟩ := Option.map_eq_some_iff.mp e'
    obtain ⟨h3, h4⟩ := maxI_spec h1
    by_cases hx : m' > x
    · rw [if_pos hx] at h2
      subst h2
      refine ⟨List.mem_cons_of_mem _ h3, fun z hz => ?_⟩
      rcases List.mem_cons.mp hz with rfl | hz
      · omega
      · exact h4 z hz
    · rw [if_neg hx] at h2
      subst h2
      refine ⟨List.mem_cons_self, fun z hz => ?_⟩
      rcases List.mem_cons.mp hz with rfl | hz
      · exact Int.le_refl _
      · have := h4 z hz; omega
theorem minI_spec : ∀ {ns : List Int} {m : Int}, minI ns = some m → m ∈ ns ∧ ∀ y ∈ ns, m ≤ y
  | [], _, e => by cases e
  | [x], m, e => by cases e; simp
  | x :: y :: r, m, e => by
    have e' : (minI (y :: r)).map (fun m => if m < x then m else x) = some m := e
    obtain ⟨m', h1, h2⟩ := Option.map_eq_some_iff.mp e'
    obtain ⟨h3, h4⟩ := minI_spec h1
    by_cases hx : m' < x
    · rw [if_pos hx] at h2
      subst h2
      refine ⟨List.mem_cons_of_mem _ h3, fun z hz => ?_⟩
      rcases List.mem_cons.mp hz with rfl | hz
      · omega
      · exact h4 z hz
    · rw [if_neg hx] at h2
      subst h2
      refine ⟨List.mem_cons_self, fun z hz => ?_⟩
      rcases List.mem_cons.mp hz with rfl | hz
      · exact Int.le_refl _
      · have := h4 z hz; omega
def dMax : FN := fun ds O => match ds with
  | [.int i, .int j] => some (.int (if j > i then j else i))
  | [x] => (lstR x O).bind fun l => (intsOf l).bind fun ns => (maxI ns).map .int
  | _ => none
def dMin : FN := fun ds O => match ds with
  | [.int i, .int j] => some (.int (if j < i then j else i))
  | [x] => (lstR x O).bind fun l => (intsOf l).bind fun ns => (minI ns).map .int
  | _ => none
def dSum : FN := fun ds O => match ds with
  | [x] => (lstR x O).bind fun l => (intsOf l).map fun ns => .int ns.sum
  | _ => none
def dAll : FN := fun ds O => match ds with
  | [x] => (lstR x O).bind fun l => (blsOf l).map fun ns => .bl (ns.all id)
  | _ => none
def dAny : FN := fun ds O => match ds with
  | [x] => (lstR x O).bind fun l => (blsOf l).map fun ns => .bl (ns.any id)
  | _ => none
theorem opMax : OpN U (.builtin "max") dMax := by
  intro X W c k hh C
  obtain ⟨_, eu⟩ := C.u
  subst eu
  refine ⟨_, CallR.or (call_max2 (C.calm hh)) (cr_max (C.calm hh)), ?_⟩
  intro ds xs ad O H d Q S r e q
  unfold dMax at e
  split at e
  · cases e
    obtain ⟨v, u, rfl, rx, ry⟩ := reps2 r
    cases rx; cases ry
    exact .inl ⟨_, _, rfl, q _ _ .refl S rfl⟩
  · rename_i x
    obtain ⟨l, e1, e⟩ := Option.bind_eq_some_iff.mp e
    obtain ⟨ns, e2, e⟩ := Option.bind_eq_some_iff.mp e
    obtain ⟨m, e3, rfl⟩ := Option.map_eq_some_iff.mp e
    obtain ⟨v, rfl, rx⟩ := reps1 r
    obtain ⟨a, xs, rfl, h, t⟩ := lstR_at S rx e1
    have ev := reps_ints t (intsOf_eq e2)
    subst ev
    obtain ⟨h1, h2⟩ := maxI_spec e3
    refine .inr ⟨a, ns, rfl, h, List.length_pos_of_mem h1, fun m' h3 h4 => ?_⟩
    have : m' = m := Int.le_antisymm (h2 _ h3) (h4 _ h1)
    subst this
    exact q _ _ .refl S rfl
  · cases e
theorem opMin : OpN U (.builtin "min") dMin := by
  intro X W c k hh C
  obtain ⟨_, eu⟩ := C.u
  subst eu
  refine ⟨_, CallR.or (call_min2 (C.calm hh)) (cr_min (C.calm hh)), ?_⟩
  intro ds xs ad O H d Q S r e q
  unfold dMin at e
  split at e
  · cases e
    obtain ⟨v, u, rfl, rx, ry⟩ := reps2 r
    cases rx; cases ry
    exact .inl ⟨_, _, rfl, q _ _ .refl S rfl⟩
  · rename_i x
    obtain ⟨l, e1, e⟩ := Option.bind_eq_some_iff.mp e
    obtain ⟨ns, e2, e⟩ := Option.bind_eq_some_iff.mp e
    obtain ⟨m, e3, rfl⟩ := Option.map_eq_some_iff.mp e
    obtain ⟨v, rfl, rx⟩ := reps1 r
    obtain ⟨a, xs, rfl, h, t⟩ := lstR_at S rx e1
    have ev := reps_ints t (intsOf_eq e2)
    subst ev
    obtain ⟨h1, h2⟩ := minI_spec e3
    refine .inr ⟨a, ns, rfl, h, List.length_pos_of_mem h1, fun m' h3 h4 => ?_⟩
    have : m' = m := Int.le_antisymm (h4 _ h1) (h2 _ h3)
    subst this
    exact q _ _ .refl S rfl
  · cases e
theorem opSum : OpN U (.builtin "sum") dSum := by
  intro X W c k hh C
  obtain ⟨_, eu⟩ := C.u
  subst eu
  refine ⟨_, cr_sum (C.calm hh), ?_⟩
  intro ds xs ad O H d Q S r e q
  unfold dSum at e
  split at e
  · obtain ⟨l, e1, e⟩ := Option.bind_eq_some_iff.mp e
    obtain ⟨ns, e2, rfl⟩ := Option.map_eq_some_iff.mp e
    obtain ⟨v, rfl, rx⟩ := reps1 r
    obtain ⟨a, xs, rfl, h, t⟩ := lstR_at S rx e1
    have ev := reps_ints t (intsOf_eq e2)
    subst ev
    exact ⟨a, ns, rfl, h, q _ _ .refl S rfl⟩
  · cases e
theorem opAll : OpN U (.builtin "all") dAll := by
  intro X W c k hh C
  obtain ⟨_, eu⟩ := C.u
  subst eu
  refine ⟨_, cr_all (C.calm hh), ?_⟩
  intro ds xs ad O H d Q S r e q
  unfold dAll at e
  split at e
  · obtain ⟨l, e1, e⟩ := Option.bind_eq_some_iff.mp e
    obtain ⟨ns, e2, rfl⟩ := Option.map_eq_some_iff.mp e
    obtain ⟨v, rfl, rx⟩ := reps1 r
    obtain ⟨a, xs, rfl, h, t⟩ := lstR_at S rx e1
    have ev := reps_bls t (blsOf_eq e2)
    subst ev
    exact ⟨a, ns, rfl, h, q _ _ .refl S rfl⟩
  · cases e
theorem opAny : OpN U (.builtin "any") dAny := by
  intro X W c k hh C
  obtain ⟨_, eu⟩ := C.u
  subst eu
  refine ⟨_, cr_any (C.calm hh), ?_⟩
  intro ds xs ad O H d Q S r e q
  unfold dAny at e
  split at e
  · obtain ⟨l, e1, e⟩ := Option.bind_eq_some_iff.mp e
    obtain ⟨ns, e2, rfl⟩ := Option.map_eq_some_iff.mp e
    obtain ⟨v, rfl, rx⟩ := reps1 r
    obtain ⟨a, xs, rfl, h, t⟩ := lstR_at S rx e1
    have ev := reps_bls t (blsOf_eq e2)
    subst ev
    exact ⟨a, ns, rfl, h, q _ _ .refl S rfl⟩
  · cases e

def dList : FN := fun ds O => match ds with
  | [x] => (seqR x O).map .lst
  | _ => none
def dTuple : FN := fun ds O => match ds with
  | [x] => (match der x O with
    | .lst l => some (.tup l)
    | .rol l => some (.tup l)
    | .tup l => some (.tup l)
    | _ => none)
  | _ => none
theorem opList : OpN U (.type "list") dList := by
  intro X W c k hh C
  obtain ⟨_, eu⟩ := C.u
  subst eu
  refine ⟨_, call_list_of, ?_⟩
  intro ds xs ad O H d Q S r e q
  unfold dList at e
  split at e
  · obtain ⟨l, e1, rfl⟩ := Option.map_eq_some_iff.mp e
    obtain ⟨v, rfl, rx⟩ := reps1 r
    obtain ⟨a, xs, rfl, h, t⟩ := seqR_at S rx e1
    exact ⟨a, xs, rfl, h, fun p hp => q _ _ (.new hp (S.out hp)) (S.new hp) (rep_lst S hp t)⟩
  · cases e
theorem opTuple : OpN U (.type "tuple") dTuple := by
  intro X W c k hh C
  obtain ⟨_, eu⟩ := C.u
  subst eu
  refine ⟨_, call_tuple_of, ?_⟩
  intro ds xs ad O H d Q S r e q
  unfold dTuple at e
  split at e
  · rename_i x
    obtain ⟨v, rfl, rx⟩ := reps1 r
    split at e
    · rename_i l e1
      cases e
      obtain ⟨a, xs, rfl, h, t⟩ := der_lst S rx e1
      exact ⟨a, xs, rfl, .inl ⟨.of h, fun p hp => q _ _ (.new hp (S.out hp)) (S.new hp) (rep_tup S hp t)⟩⟩
    · rename_i l e1
      cases e
      obtain ⟨a, xs, rfl, h, t⟩ := der_rol S rx e1
      exact ⟨a, xs, rfl, .inl ⟨h, fun p hp => q _ _ (.new hp (S.out hp)) (S.new hp) (rep_tup S hp t)⟩⟩
    · rename_i l e1
      cases e
      obtain ⟨a, xs, rfl, h, n, t⟩ := der_tup S rx e1
      exact ⟨a, xs, rfl, .inr ⟨.of h, q _ _ .refl S ⟨a, xs, rfl, h, n, t⟩⟩⟩
    · cases e
  · cases e
end

def dRepr : FN := fun ds O => match ds with
  | [x] => (match toPy (der x O) with
    | some p => if p.showable && decide (p.hasDict = false) && decide (p.depth ≤ 64) && decide (p.shown.length ≤ sizeLine) then some (.str p.shown) else none
    | none => none)
  | _ => none
section
variable {X : Cx}
theorem call_repr_data (hg : X.A.guards = some []) (hu : X.A.units + 66 < cLine) : CallR X (.builtin "repr") (fun xs H Q => ∃ v p, xs = [v] ∧ Dp X.K H v p ∧ p.showable = true ∧ p.hasDict = false ∧ p.depth ≤ 64 ∧ p.shown.length ≤ sizeLine ∧ Q (.str p.shown) H) := by
  intro pins s σ H xs us Q I r h
  obtain ⟨v, p, rfl, hd, hs, hn, hdp, hz, q⟩ := h
  obtain ⟨u, rfl, ru⟩ := vals1 r
  obtain ⟨as, rd⟩ := Dp.reads I p v u hd ru
  have key : ∀ a, u = .ref a → wpAny (model X.prog X.w) X.A (call (.builtin "repr") [u]) (EP X pins σ Q) X.xe s := by
    intro a ea
    subst ea
    exact repr_of_reads' rd hs (fun z => by rw [hn] at z; cases z) hg (by omega) (fun _ _ e => e) (fun h' u' tk hk => ⟨.str p.shown, H, I.kept hk, ⟨u', rfl⟩, q⟩) hz
  cases rd with
  | none => exact PySem.P.repr_of_none ⟨.str _, H, I.tok _, ⟨_, rfl⟩, q⟩
  | bool b => exact PySem.P.repr_of_bool ⟨.str _, H, I.tok _, ⟨_, rfl⟩, q⟩
  | int i t => exact PySem.P.repr_of_int (of_decide_eq_true hs) ⟨.str _, H, I.tok _, ⟨_, rfl⟩, q⟩
  | str x t => exact PySem.P.repr_of_str ⟨.str _, H, I.tok _, ⟨_, rfl⟩, q⟩ hz
  | list h1 h2 h3 h4 => exact key _ rfl
  | tuple h1 h2 h3 h4 => exact key _ rfl
  | dict h1 h2 h3 h4 h5 => exact key _ rfl
end
theorem opReprH {U : Univ} : OpNH U (.builtin "repr") dRepr := by
  intro X W c k C
  obtain ⟨_, eu⟩ := C.u
  subst eu
  refine ⟨_, call_repr_data C.gd (by have := C.room.un; omega), ?_⟩
  intro ds xs ad O H d Q S r e q
  unfold dRepr at e
  split at e
  · obtain ⟨v, rfl, rx⟩ := reps1 r
    split at e
    · rename_i p e1
      split at e
      · rename_i hs
        cases e
        simp only [Bool.and_eq_true, decide_eq_true_eq] at hs
        obtain ⟨⟨⟨h1, h2⟩, h3⟩, h4⟩ := hs
        exact ⟨v, p, rfl, dp_der S rx e1, h1, h2, h3, h4, q _ _ .refl S rfl⟩
      · cases e
    · cases e
  · cases e

def tyName (d : D) (O : Store) : Option String := match der d O with
  | .non => some "NoneType"
  | .bl _ => some "bool"
  | .int _ => some "int"
  | .str _ => some "str"
  | .lst _ => some "list"
  | .tup _ => some "tuple"
  | .rot _ => some "tuple"
  | .dic _ _ _ => some "dict"
  | _ => none
def dIsi0 : FN := fun ds O => match ds with
  | [x, .ty n] => (tyName x O).bind fun m => (kitB m n).map .bl
  | _ => none
section
variable {U : Univ}
theorem opRepr {U : Univ} : OpN U (.builtin "repr") dRepr := opReprH.calm
theorem tyName_at {ad : List Addr} {O : Store} {H : Hp} (S : Sim U ad O H) {d : D} {v : V} {m : String} (r : Rep U ad H d v) (e : tyName d O = some m) : TyX U.K H v (.type m) := by
  unfold tyName at e
  split at e
  · rename_i e0; cases e
    cases d with
    | non => cases r; exact .base .non
    | ptr _ => obtain ⟨a, rfl, _, c⟩ := der_get S r e0; exact c.elim
    | _ => cases e0
  · rename_i e0; cases e
    cases d with
    | bl _ => cases r; exact .base (.bl _)
    | ptr _ => obtain ⟨a, rfl, _, c⟩ := der_get S r e0; exact c.elim
    | _ => cases e0
  · rename_i e0; cases e
    cases d with
    | int _ => cases r; exact .base (.int _)
    | ptr _ => obtain ⟨a, rfl, _, c⟩ := der_get S r e0; exact c.elim
    | _ => cases e0
  · rename_i e0; cases e
    cases d with
    | str _ => cases r; exact .base (.str _)
    | ptr _ => obtain ⟨a, rfl, _, c⟩ := der_get S r e0; exact c.elim
    | _ => cases e0
  · rename_i l e0; cases e
    obtain ⟨a, xs, rfl, h, t⟩ := der_lst S r e0
    exact .base (.lst h)
  · rename_i l e0; cases e
    obtain ⟨a, xs, rfl, h, _, t⟩ := der_tup S r e0
    exact .base (.tup h)
  · rename_i l e0; cases e
    obtain ⟨a, xs, rfl, h, t⟩ := der_rot S r e0
    rcases h with ⟨_, o, k1, k2, _⟩ | ⟨o, k1, _⟩
    · exact .kTuple k1 k2
    · exact .fTuple k1
  · rename_i t ks vs e0; cases e
    obtain ⟨a, rfl, c⟩ := der_dic S r e0
    cases t with
    | false => obtain ⟨kvs, h, _⟩ := c; exact .base (.dK h)
    | true => obtain ⟨kvs, h, _⟩ := c; exact .base (.dT h)
  · cases e
theorem opIsi0 : OpN U (.builtin "isinstance") dIsi0 := by
  intro X W c k hh C
  obtain ⟨_, eu⟩ := C.u
  subst eu
  refine ⟨_, call_isi, ?_⟩
  intro ds xs ad O H d Q S r e q
  unfold dIsi0 at e
  split at e
  · rename_i x n
    obtain ⟨m, e1, e⟩ := Option.bind_eq_some_iff.mp e
    obtain ⟨b, e2, rfl⟩ := Option.map_eq_some_iff.mp e
    obtain ⟨v, u, rfl, rx, ry⟩ := reps2 r
    cases ry
    exact ⟨v, _, _, _, b, rfl, .ty n, tyName_at S rx e1, kit_ty e2, q _ _ .refl S rfl⟩
  · cases e
end
end CP
namespace CP
open PySem PySem.Spec PyProof.Rows L2

inductive Fl where
  | nx (σ : Env) (O : Store)
  | rt (d : D) (O : Store)
  | bk (σ : Env) (O : Store)
  | ct (σ : Env) (O : Store)
  | er (x : Exn) (σ : Env) (O : Store)
  | stuck
abbrev DS := Env → Store → Fl
section
variable (U : Univ) (ad : List Addr) (H : Hp)
def PostS (Dn : Ends) (W : WX) : Fl → Prop
  | .nx σ O => ∀ ad' H' sv, Step ad H ad' H' → Sim U ad' O H' → RepE U ad' H' σ sv → Dn.nx sv H'
  | .rt d O => ∀ ad' H' v, Step ad H ad' H' → Sim U ad' O H' → Rep U ad' H' d v → Dn.rt v H'
  | .bk σ O => ∀ ad' H' sv, Step ad H ad' H' → Sim U ad' O H' → RepE U ad' H' σ sv → Dn.bk sv H'
  | .ct σ O => ∀ ad' H' sv, Step ad H ad' H' → Sim U ad' O H' → RepE U ad' H' σ sv → Dn.ct sv H'
  | .er x σ O => ∀ ad' H' sv c dx, Step ad H ad' H' → Sim U ad' O H' → RepE U ad' H' σ sv → RepX U ad' H' x c dx → W c dx sv H'
  | .stuck => False
end
def RdS (U : Univ) (W : WX) (t : TS) (m : DS) : Prop := ∀ (ad : List Addr) (O : Store) (H : Hp) (σ : Env) (sv : L2.St) (Dn : Ends), Sim U ad O H → RepE U ad H σ sv → PostS U ad H Dn W (m σ O) → t Dn sv H
def SS (U : Univ) (c : Cs) (k : Nat) (st : Stmt) (m : DS) : Prop := ∀ (X : Cx) (W : WX), CtxOk U c k X W → ∃ t, PS X st t ∧ RdS U W t m
def SB (U : Univ) (c : Cs) (k : Nat) (st : List Stmt) (m : DS) : Prop := ∀ (X : Cx) (W : WX), CtxOk U c k X W → ∃ t, PSs X st t ∧ RdS U W t m
/-- an expression's end in a statement -/
def R.st {α : Type} (r : R α) (σ : Env) (f : α → Store → Fl) : Fl := match r with
  | .ok a O => f a O
  | .err x O => .er x σ O
  | .stuck => .stuck
@[simp] theorem R.st_ok {α : Type} (a : α) (O : Store) (σ : Env) (f : α → Store → Fl) : (R.ok a O).st σ f = f a O := id rfl
@[simp] theorem R.st_err {α : Type} (x : Exn) (O : Store) (σ : Env) (f : α → Store → Fl) : (R.err x O : R α).st σ f = .er x σ O := id rfl
@[simp] theorem R.st_stuck {α : Type} (σ : Env) (f : α → Store → Fl) : (R.stuck : R α).st σ f = .stuck := id rfl
def Fl.seq (r : Fl) (f : Env → Store → Fl) : Fl := match r with
  | .nx σ O => f σ O
  | r => r
@[simp] theorem Fl.seq_nx (σ : Env) (O : Store) (f : Env → Store → Fl) : (Fl.nx σ O).seq f = f σ O := id rfl
@[simp] theorem Fl.seq_rt (d : D) (O : Store) (f : Env → Store → Fl) : (Fl.rt d O).seq f = .rt d O := id rfl
@[simp] theorem Fl.seq_bk (σ : Env) (O : Store) (f : Env → Store → Fl) : (Fl.bk σ O).seq f = .bk σ O := id rfl
@[simp] theorem Fl.seq_ct (σ : Env) (O : Store) (f : Env → Store → Fl) : (Fl.ct σ O).seq f = .ct σ O := id rfl
@[simp] theorem Fl.seq_er (x : Exn) (σ : Env) (O : Store) (f : Env → Store → Fl) : (Fl.er x σ O).seq f = .er x σ O := id rfl
@[simp] theorem Fl.seq_stuck (f : Env → Store → Fl) : Fl.stuck.seq f = .stuck := id rfl
section
variable {U : Univ} {ad ad1 : List Addr} {H H1 : Hp} {Dn : Ends} {W : WX} {O : Store} {σ : Env} {sv : L2.St}
theorem PostS.step (s : Step ad H ad1 H1) : ∀ {r : Fl}, PostS U ad H Dn W r → PostS U ad1 H1 Dn W r
  | .nx _ _, h => fun ad' H' sv s' => h ad' H' sv (s.trans s')
  | .rt _ _, h => fun ad' H' v s' => h ad' H' v (s.trans s')
  | .bk _ _, h => fun ad' H' sv s' => h ad' H' sv (s.trans s')
  | .ct _ _, h => fun ad' H' sv s' => h ad' H' sv (s.trans s')
  | .er _ _ _, h => fun ad' H' sv c dx s' => h ad' H' sv c dx (s.trans s')
  | .stuck, h => h
theorem PostS.of (hr : RepE U ad H σ sv) {r : R D} {f : D → Store → Fl} (h : PostS U ad H Dn W (r.st σ f)) :
    Post U ad H (fun v H1 => ∃ ad1 O1 d, Step ad H ad1 H1 ∧ Sim U ad1 O1 H1 ∧ Rep U ad1 H1 d v ∧ PostS U ad1 H1 Dn W (f d O1)) (fun cl d H' => W cl d sv H') r := by
  cases r with
  | ok d O => exact fun ad' H' v s S r => ⟨ad', O, d, s, S, r, h.step s⟩
  | err x O => exact fun ad' H' c dx s S r => h ad' H' sv c dx s S (hr.keep s) r
  | stuck => exact h
theorem PostS.ofT (hr : RepE U ad H σ sv) {r : R Bool} {f : Bool → Store → Fl} (h : PostS U ad H Dn W (r.st σ f)) :
    PostT U ad H (fun b H1 => ∃ ad1 O1, Step ad H ad1 H1 ∧ Sim U ad1 O1 H1 ∧ PostS U ad1 H1 Dn W (f b O1)) (fun cl d H' => W cl d sv H') r := by
  cases r with
  | ok d O => exact fun ad' H' s S => ⟨ad', O, s, S, h.step s⟩
  | err x O => exact fun ad' H' c dx s S r => h ad' H' sv c dx s S (hr.keep s) r
  | stuck => exact h
theorem PostS.ofL (hr : RepE U ad H σ sv) {r : R (List D)} {f : List D → Store → Fl} (h : PostS U ad H Dn W (r.st σ f)) :
    PostL U ad H (fun v H1 => ∃ ad1 O1 d, Step ad H ad1 H1 ∧ Sim U ad1 O1 H1 ∧ Reps U ad1 H1 d v ∧ PostS U ad1 H1 Dn W (f d O1)) (fun cl d H' => W cl d sv H') r := by
  cases r with
  | ok d O => exact fun ad' H' v s S r => ⟨ad', O, d, s, S, r, h.step s⟩
  | err x O => exact fun ad' H' c dx s S r => h ad' H' sv c dx s S (hr.keep s) r
  | stuck => exact h
theorem PostS.seq {r : Fl} {f : Env → Store → Fl} (h : PostS U ad H Dn W (r.seq f)) :
    PostS U ad H { Dn with nx := fun sv1 H1 => ∃ ad1 O1 σ1, Step ad H ad1 H1 ∧ Sim U ad1 O1 H1 ∧ RepE U ad1 H1 σ1 sv1 ∧ PostS U ad1 H1 Dn W (f σ1 O1) } W r := by
  cases r with
  | nx σ O => exact fun ad' H' sv s S r => ⟨ad', O, σ, s, S, r, h.step s⟩
  | rt d O => exact h
  | bk σ O => exact h
  | ct σ O => exact h
  | er x σ O => exact h
  | stuck => exact h
theorem PostS.mono {Dn' : Ends} (h1 : ∀ sv H, Dn.nx sv H → Dn'.nx sv H) (h2 : ∀ v H, Dn.rt v H → Dn'.rt v H) (h3 : ∀ sv H, Dn.bk sv H → Dn'.bk sv H) (h4 : ∀ sv H, Dn.ct sv H → Dn'.ct sv H) :
    ∀ {r : Fl}, PostS U ad H Dn W r → PostS U ad H Dn' W r
  | .nx _ _, h => fun ad' H' sv s S r => h1 _ _ (h ad' H' sv s S r)
  | .rt _ _, h => fun ad' H' v s S r => h2 _ _ (h ad' H' v s S r)
  | .bk _ _, h => fun ad' H' sv s S r => h3 _ _ (h ad' H' sv s S r)
  | .ct _ _, h => fun ad' H' sv s S r => h4 _ _ (h ad' H' sv s S r)
  | .er _ _ _, h => h
  | .stuck, h => h
theorem PostS.seqTo {r : Fl} {f : Env → Store → Fl} {nx : L2.St → Hp → Prop} (h : PostS U ad H Dn W (r.seq f))
    (hn : ∀ sv1 H1 ad1 O1 σ1, Step ad H ad1 H1 → Sim U ad1 O1 H1 → RepE U ad1 H1 σ1 sv1 → PostS U ad1 H1 Dn W (f σ1 O1) → nx sv1 H1) : PostS U ad H { Dn with nx := nx } W r :=
  PostS.mono (Dn := { Dn with nx := fun sv1 H1 => ∃ ad1 O1 σ1, Step ad H ad1 H1 ∧ Sim U ad1 O1 H1 ∧ RepE U ad1 H1 σ1 sv1 ∧ PostS U ad1 H1 Dn W (f σ1 O1) }) (Dn' := { Dn with nx := nx })
    (fun sv1 H1 ⟨ad1, O1, σ1, a, b, c, d⟩ => hn sv1 H1 ad1 O1 σ1 a b c d) (fun _ _ z => z) (fun _ _ z => z) (fun _ _ z => z) h.seq
end

def sSkip : DS := fun σ O => .nx σ O
def sSeq (a b : DS) : DS := fun σ O => (a σ O).seq b
def sRet (m : DE) : DS := fun σ O => (m σ O).st σ fun d O1 => .rt d O1
def sRetN : DS := fun _ O => .rt .non O
def sSet (i : Nat) (m : DE) : DS := fun σ O => (m σ O).st σ fun d O1 => .nx (σ.set i (some d)) O1
def sDrop (m : DE) : DS := fun σ O => (m σ O).st σ fun _ O1 => .nx σ O1
def sIfS (t : DT) (a b : DS) : DS := fun σ O => (t σ O).st σ fun v O1 => if v = true then a σ O1 else b σ O1
def sNever : DS := fun _ _ => .stuck
def sBrk : DS := fun σ O => .bk σ O
def sCnt : DS := fun σ O => .ct σ O
section
variable {U : Univ} {c : Cs} {k : Nat} {pos : Pos} {st : Stmt} {rest : List Stmt} {ma mb : DS} {e : Expr} {m : DE} {t : DT}
theorem ssNil : SB U c k [] sSkip := fun X W C => ⟨_, pss_nil, fun ad O H σ sv Dn S r h => h ad H sv .refl S r⟩
theorem ssCons (ha : SS U c k st ma) (hb : SB U c k rest mb) : SB U c k (st :: rest) (sSeq ma mb) := by
  intro X W C
  obtain ⟨t, p, f⟩ := ha X W C
  obtain ⟨t', p', f'⟩ := hb X W C
  refine ⟨_, pss_cons p p', fun ad O H σ sv Dn S r h => f ad O H σ sv _ S r (PostS.seqTo h ?_)⟩
  intro sv1 H1 ad1 O1 σ1 s1 S1 r1 h1
  exact f' ad1 O1 H1 σ1 sv1 Dn S1 r1 h1
theorem ssOne (ha : SS U c k st ma) : SB U c k [st] ma := fun X W C => let ⟨t, p, f⟩ := ha X W C; ⟨t, pss_one p, f⟩
theorem sPass : SS U c k (.Pass pos) sSkip := fun X W C => ⟨_, ps_pass, fun ad O H σ sv Dn S r h => h ad H sv .refl S r⟩
theorem sBreak : SS U c k (.Break pos) sBrk := fun X W C => ⟨_, ps_break, fun ad O H σ sv Dn S r h => h ad H sv .refl S r⟩
theorem sContinue : SS U c k (.Continue pos) sCnt := fun X W C => ⟨_, ps_continue, fun ad O H σ sv Dn S r h => h ad H sv .refl S r⟩
theorem sReturn (he : SE U c k e m) : SS U c k (.Return (some e) pos) (sRet m) := by
  intro X W C
  obtain ⟨t, p, f⟩ := he X W C
  refine ⟨_, ps_ret p, fun ad O H σ sv Dn S r h => f ad O H σ sv _ S r (Post.mono (PostS.of r h) ?_)⟩
  rintro v H1 ⟨ad1, O1, d, s1, S1, r1, h1⟩
  exact h1 ad1 H1 v .refl S1 r1
theorem sReturnN : SS U c k (.Return none pos) sRetN := fun X W C => ⟨_, ps_retN, fun ad O H σ sv Dn S r h => h ad H _ .refl S rfl⟩
theorem RepE.set {ad : List Addr} {H : Hp} {σ : Env} {sv : L2.St} {d : D} {v : V} (i : Nat) (r : RepE U ad H σ sv) (q : Rep U ad H d v) : RepE U ad H (σ.set i (some d)) (sv.set i (some v)) := by
  refine ⟨by simp [r.len], fun j e h => ?_⟩
  by_cases hj : i = j
  · subst hj
    by_cases hl : i < σ.length
    · rw [List.getElem?_set_self hl] at h
      cases h
      exact ⟨v, List.getElem?_set_self (by rw [← r.len]; exact hl), q⟩
    · rw [List.getElem?_eq_none (by simpa using hl)] at h; cases h
  · rw [List.getElem?_set_ne hj] at h
    rw [List.getElem?_set_ne hj]
    exact r.at_ j e h
theorem fn_or {X : Cx} {W : WX} {x : Str} (C : CtxOk U c k X W) (h : c.sc.names.lookup x = some .local ∨ c.osc.names.lookup x = some .cell) : X.fn x = true ∨ X.env.scope.names.lookup x = some .local := by
  rcases h with h | h
  · exact .inr (by rw [C.s]; exact h)
  · exact .inl (C.fn x h)
theorem sAssign {i : Nat} {x : Str} {p' : Pos} (he : SE U c k e m) (hi : c.N[i]? = some x) (hx : Loc c.sc x) (hf : c.sc.names.lookup x = some .local ∨ c.osc.names.lookup x = some .cell)
    (hs : ∀ env : PySem.Env, swapsWith e (some (.Name x p')) pos.line env = pure false := by intro _; rfl) : SS U c k (.Assign [.Name x p'] e pos) (sSet i m) := by
  intro X W C
  obtain ⟨t, p, f⟩ := he X W C
  refine ⟨_, ps_set (i := i) (by rw [C.n]; exact C.nd) (by rw [C.n]; exact hi) (by rw [C.s]; exact hx) p (hs _) (fn_or C hf), fun ad O H σ sv Dn S r h => f ad O H σ sv _ S r (Post.mono (PostS.of r h) ?_)⟩
  rintro v H1 ⟨ad1, O1, d, s1, S1, r1, h1⟩
  exact h1 ad1 H1 _ .refl S1 ((r.keep s1).set i r1)
theorem sExpr (he : SE U c k e m) (hs : ∀ env : PySem.Env, swapsWith e none pos.line env = pure false := by intro _; rfl) : SS U c k (.Expr e pos) (sDrop m) := by
  intro X W C
  obtain ⟨t, p, f⟩ := he X W C
  refine ⟨_, ps_expr p (hs _), fun ad O H σ sv Dn S r h => f ad O H σ sv _ S r (Post.mono (PostS.of r h) ?_)⟩
  rintro v H1 ⟨ad1, O1, d, s1, S1, r1, h1⟩
  exact h1 ad1 H1 _ .refl S1 (r.keep s1)
theorem sDoc {x : Str} {j : Nat} {p' : Pos} : SS U c k (.Expr (.Constant (.str x) j p') pos) sSkip := fun X W C => ⟨_, ps_doc, fun ad O H σ sv Dn S r h => h ad H sv .refl S r⟩
theorem sIfElse {a b : List Stmt} (ht : ST U c k e t) (ha : SB U c k a ma) (hb : SB U c k b mb) : SS U c k (.If e a b pos) (sIfS t ma mb) := by
  intro X W C
  obtain ⟨tt, p, f⟩ := ht X W C
  obtain ⟨t1, p1, f1⟩ := ha X W C
  obtain ⟨t2, p2, f2⟩ := hb X W C
  refine ⟨_, ps_if p p1 p2, fun ad O H σ sv Dn S r h => f ad O H σ sv _ S r (PostT.mono (PostS.ofT r h) ?_)⟩
  rintro v H1 ⟨ad1, O1, s1, S1, h1⟩
  cases v with
  | true => exact f1 ad1 O1 H1 σ sv Dn S1 (r.keep s1) h1
  | false => exact f2 ad1 O1 H1 σ sv Dn S1 (r.keep s1) h1
theorem sNev : SS U c k st sNever := fun X W C => ⟨_, ps_never, fun ad O H σ sv Dn S r h => h⟩
end

mutual
def okD (n : Nat) : D → Bool
  | .ptr k => decide (k < n)
  | .tup l => okDs n l
  | .rot l => okDs n l
  | .lst l => okDs n l
  | .rol l => okDs n l
  | .dic _ _ vs => okDs n vs
  | .ins _ _ vs => okDs n vs
  | .exc _ _ _ vs => okDs n vs
  | .fdc _ vs => okDs n vs
  | .non => true
  | .bl _ => true
  | .int _ => true
  | .str _ => true
  | .ty _ => true
  | .glo _ => true
def okDs (n : Nat) : List D → Bool
  | [] => true
  | d :: r => okD n d && okDs n r
end
mutual
/-- things of the store that are new stand for good from now on -/
def frz (O : Store) (n : Nat) : D → Option D
  | .ptr k => if k < n then some (.ptr k) else match O[k]? with
    | some (.lst l) => if okDs n l = true then some (.lst l) else none
    | some (.dic t ks vs) => if okDs n vs = true then some (.dic t ks vs) else none
    | some (.ins c ns vs) => if okDs n vs = true then some (.ins c ns vs) else none
    | _ => none
  | .tup l => (frzs O n l).map .tup
  | .lst l => (frzs O n l).map .lst
  | .rot l => if okDs n l = true then some (.rot l) else none
  | .rol l => if okDs n l = true then some (.rol l) else none
  | .dic t ks vs => if okDs n vs = true then some (.dic t ks vs) else none
  | .ins c ns vs => if okDs n vs = true then some (.ins c ns vs) else none
  | .exc o c ns vs => if okDs n vs = true then some (.exc o c ns vs) else none
  | .fdc ks vs => if okDs n vs = true then some (.fdc ks vs) else none
  | .non => some .non
  | .bl b => some (.bl b)
  | .int i => some (.int i)
  | .str x => some (.str x)
  | .ty x => some (.ty x)
  | .glo x => some (.glo x)
def frzs (O : Store) (n : Nat) : List D → Option (List D)
  | [] => some []
  | d :: r => match frz O n d, frzs O n r with
    | some a, some b => some (a :: b)
    | _, _ => none
end
/-- what has changed of a store names only what stood in it -/
def okCh (O O' : Store) : Prop := ∀ (i : Nat) (d : D), O'[i]? = some d → O[i]? = some d ∨ okD O.length d = true
/-- .. decided -/
def okChB (n : Nat) : Store → Store → Bool
  | _, [] => true
  | [], d :: r => okD n d && okChB n [] r
  | e :: t, d :: r => (D.beq e d || okD n d) && okChB n t r
theorem okChB_iff (n : Nat) : ∀ O O' : Store, okChB n O O' = true ↔ ∀ (i : Nat) (d : D), O'[i]? = some d → O[i]? = some d ∨ okD n d = true
  | O, [] => ⟨fun _ i d h => by simp at h, fun _ => by cases O <;> rfl⟩
  | [], d :: r => by
    show (okD n d && okChB n [] r) = true ↔ _
    rw [Bool.and_eq_true, okChB_iff n [] r]
    constructor
    · rintro ⟨h1, h2⟩ i e h
      cases i with
      | zero => simp at h; subst h; exact .inr h1
      | succ i => simpa using h2 i e (by simpa using h)
    · intro h
      exact ⟨(h 0 d (by simp)).elim (fun z => by simp at z) id, fun i e q => by simpa using h (i + 1) e (by simpa using q)⟩
  | e :: t, d :: r => by
    show ((D.beq e d || okD n d) && okChB n t r) = true ↔ _
    rw [Bool.and_eq_true, Bool.or_eq_true, okChB_iff n t r]
    constructor
    · rintro ⟨h1, h2⟩ i f h
      cases i with
      | zero =>
        simp at h; subst h
        exact h1.imp (fun z => by simp [D.eq_of_beq z]) id
      | succ i => simpa using h2 i f (by simpa using h)
    · intro h
      refine ⟨(h 0 d (by simp)).imp (fun z => ?_) id, fun i f q => by simpa using h (i + 1) f (by simpa using q)⟩
      simp at z
      rw [z]; exact D.beq_self d
instance (O O' : Store) : Decidable (okCh O O') := decidable_of_iff (okChB O.length O O' = true) (okChB_iff O.length O O')
/-- the end of a def: with drop, the store is cut back to what it was -/
noncomputable def fin (drop : Bool) (O0 : Store) (d : D) (O : Store) : R D := if drop = true then (match frz O O0.length d with
    | some d' => if okCh O0 (O.take O0.length) then .ok d' (O.take O0.length) else .stuck
    | none => .stuck)
  else .ok d O
noncomputable def finX (drop : Bool) (O0 : Store) (x : Exn) (O : Store) : R D := if drop = true then (match frzs O O0.length x.vs with
    | some vs => if okCh O0 (O.take O0.length) then .err { x with vs := vs } (O.take O0.length) else .stuck
    | none => .stuck)
  else .err x O
noncomputable def exitF (drop : Bool) (O0 : Store) : Fl → R D
  | .nx _ O => fin drop O0 .non O
  | .rt d O => fin drop O0 d O
  | .er x _ O => finX drop O0 x O
  | .bk _ _ => .stuck
  | .ct _ _ => .stuck
  | .stuck => .stuck
abbrev DF := List D → Store → R D
/-- a def: its number of names, its body -/
noncomputable def fnD (drop : Bool) (n : Nat) (m : DS) : DF := fun ds O => exitF drop O (m (ds.map some ++ List.replicate (n - ds.length) none) O)

section
variable {U : Univ} {ad l : List Addr} {H : Hp}
mutual
theorem Rep.cutad : ∀ {d : D} {v : V}, okD ad.length d = true → Rep U (ad ++ l) H d v → Rep U ad H d v
  | .ptr k, _, o, h => by
    obtain ⟨a, e, q⟩ := h
    have hk : k < ad.length := of_decide_eq_true o
    rw [List.getElem?_append_left hk] at q
    exact ⟨a, e, q⟩
  | .tup _, _, o, h => by
    obtain ⟨a, xs, e, h1, n, r⟩ := h
    exact ⟨a, xs, e, h1, fun z => n (List.mem_append_left _ z), Reps.cutad (show okDs ad.length _ = true from o) r⟩
  | .rot _, _, o, h => by
    obtain ⟨a, xs, e, h1, r⟩ := h
    exact ⟨a, xs, e, h1.elim .inl fun ⟨u, q1, q2, q3⟩ => .inr ⟨u, q1, q2, fun z => q3 (List.mem_append_left _ z)⟩, Reps.cutad (show okDs ad.length _ = true from o) r⟩
  | .lst _, _, o, h => by
    obtain ⟨a, xs, e, h1, n, r⟩ := h
    exact ⟨a, xs, e, h1, fun z => n (List.mem_append_left _ z), Reps.cutad (show okDs ad.length _ = true from o) r⟩
  | .rol _, _, o, h => by
    obtain ⟨a, xs, e, h1, r⟩ := h
    exact ⟨a, xs, e, h1.elim .inl fun q => .inr ⟨q.1, fun z => q.2 (List.mem_append_left _ z)⟩, Reps.cutad (show okDs ad.length _ = true from o) r⟩
  | .dic false _ _, _, o, h => by
    obtain ⟨a, e, n, kvs, h1, k, r⟩ := h
    exact ⟨a, e, fun z => n (List.mem_append_left _ z), kvs, h1, k, Reps.cutad (show okDs ad.length _ = true from o) r⟩
  | .dic true _ _, _, o, h => by
    obtain ⟨a, e, n, kvs, h1, k, r⟩ := h
    exact ⟨a, e, fun z => n (List.mem_append_left _ z), kvs, h1, k, Reps.cutad (show okDs ad.length _ = true from o) r⟩
  | .ins _ _ _, _, o, h => by
    obtain ⟨a, C, dx, fs, e, n, h1, m, k, r⟩ := h
    exact ⟨a, C, dx, fs, e, fun z => n (List.mem_append_left _ z), h1, m, k, Reps.cutad (show okDs ad.length _ = true from o) r⟩
  | .fdc _ _, _, o, h => by
    obtain ⟨a, e, n, kvs, ob, h1, k, r⟩ := h
    exact ⟨a, e, fun z => n (List.mem_append_left _ z), kvs, ob, h1, k, Reps.cutad (show okDs ad.length _ = true from o) r⟩
  | .exc _ _ _ _, _, o, h => by
    obtain ⟨a, cl, dx, fs, e, n, h1, m, k, hd, r⟩ := h
    exact ⟨a, cl, dx, fs, e, fun z => n (List.mem_append_left _ z), h1, m, k, hd.imp id fun ⟨d, q1, q2, q3⟩ => ⟨d, q1, q2, fun z => q3 (List.mem_append_left _ z)⟩, Reps.cutad (show okDs ad.length _ = true from o) r⟩
  | .non, _, _, h => h
  | .bl _, _, _, h => h
  | .int _, _, _, h => h
  | .str _, _, _, h => h
  | .ty _, _, _, h => h
  | .glo _, _, _, h => h
theorem Reps.cutad : ∀ {ds : List D} {vs : List V}, okDs ad.length ds = true → Reps U (ad ++ l) H ds vs → Reps U ad H ds vs
  | [], _, _, h => h
  | d :: ds, _, o, h => by
    obtain ⟨v, r, e, q, t⟩ := h
    have o' := Bool.and_eq_true_iff.mp (show (okD ad.length d && okDs ad.length ds) = true from o)
    exact ⟨v, r, e, Rep.cutad o'.1 q, Reps.cutad o'.2 t⟩
end
theorem Cell.cutad : ∀ {d : D} {a : Addr}, okD ad.length d = true → Cell U (ad ++ l) H d a → Cell U ad H d a
  | .lst _, _, o, h => let ⟨xs, e, r⟩ := h; ⟨xs, e, Reps.cutad (show okDs ad.length _ = true from o) r⟩
  | .dic false _ _, _, o, h => let ⟨xs, e, q, r⟩ := h; ⟨xs, e, q, Reps.cutad (show okDs ad.length _ = true from o) r⟩
  | .dic true _ _, _, o, h => let ⟨xs, e, q, r⟩ := h; ⟨xs, e, q, Reps.cutad (show okDs ad.length _ = true from o) r⟩
  | .ins _ _ _, _, o, h => let ⟨C, dx, fs, e, m, q, r⟩ := h; ⟨C, dx, fs, e, m, q, Reps.cutad (show okDs ad.length _ = true from o) r⟩
  | .non, _, _, h => h.elim
  | .bl _, _, _, h => h.elim
  | .int _, _, _, h => h.elim
  | .str _, _, _, h => h.elim
  | .ty _, _, _, h => h.elim
  | .tup _, _, _, h => h.elim
  | .rol _, _, _, h => h.elim
  | .rot _, _, _, h => h.elim
  | .glo _, _, _, h => h.elim
  | .ptr _, _, _, h => h.elim
  | .exc _ _ _ _, _, _, h => h.elim
  | .fdc _ _, _, _, h => h.elim
theorem okDs_get : ∀ {n : Nat} {ds : List D} {i : Nat} {d : D}, okDs n ds = true → ds[i]? = some d → okD n d = true
  | _, [], _, _, _, e => by simp at e
  | _, d :: _, 0, _, o, e => by
    simp at e; subst e
    exact (Bool.and_eq_true_iff.mp o).1
  | _, _ :: _, i + 1, _, o, e => okDs_get (Bool.and_eq_true_iff.mp o).2 (by simpa using e)
mutual
theorem Rep.okD : ∀ {d : D} {v : V}, Rep U ad H d v → CP.okD ad.length d = true
  | .ptr k, _, h => let ⟨_, _, q⟩ := h; decide_eq_true (List.getElem?_eq_some_iff.mp q).1
  | .tup _, _, h => let ⟨_, _, _, _, _, r⟩ := h; Reps.okDs r
  | .rot _, _, h => let ⟨_, _, _, _, r⟩ := h; Reps.okDs r
  | .lst _, _, h => let ⟨_, _, _, _, _, r⟩ := h; Reps.okDs r
  | .rol _, _, h => let ⟨_, _, _, _, r⟩ := h; Reps.okDs r
  | .dic false _ _, _, h => let ⟨_, _, _, _, _, _, r⟩ := h; Reps.okDs r
  | .dic true _ _, _, h => let ⟨_, _, _, _, _, _, r⟩ := h; Reps.okDs r
  | .ins _ _ _, _, h => let ⟨_, _, _, _, _, _, _, _, _, r⟩ := h; Reps.okDs r
  | .exc _ _ _ _, _, h => let ⟨_, _, _, _, _, _, _, _, _, _, r⟩ := h; Reps.okDs r
  | .fdc _ _, _, h => let ⟨_, _, _, _, _, _, _, r⟩ := h; Reps.okDs r
  | .non, _, _ => rfl
  | .bl _, _, _ => rfl
  | .int _, _, _ => rfl
  | .str _, _, _ => rfl
  | .ty _, _, _ => rfl
  | .glo _, _, _ => rfl
theorem Reps.okDs : ∀ {ds : List D} {vs : List V}, Reps U ad H ds vs → CP.okDs ad.length ds = true
  | [], _, _ => rfl
  | d :: ds, _, h => let ⟨_, _, _, q, t⟩ := h; Bool.and_eq_true_iff.mpr ⟨Rep.okD q, Reps.okDs t⟩
end
theorem Cell.okD : ∀ {d : D} {a : Addr}, Cell U ad H d a → CP.okD ad.length d = true
  | .lst _, _, h => let ⟨_, _, r⟩ := h; r.okDs
  | .dic false _ _, _, h => let ⟨_, _, _, r⟩ := h; r.okDs
  | .dic true _ _, _, h => let ⟨_, _, _, r⟩ := h; r.okDs
  | .ins _ _ _, _, h => let ⟨_, _, _, _, _, _, r⟩ := h; r.okDs
  | .non, _, h => h.elim
  | .bl _, _, h => h.elim
  | .int _, _, h => h.elim
  | .str _, _, h => h.elim
  | .ty _, _, h => h.elim
  | .tup _, _, h => h.elim
  | .rol _, _, h => h.elim
  | .rot _, _, h => h.elim
  | .glo _, _, h => h.elim
  | .ptr _, _, h => h.elim
  | .exc _ _ _ _, _, h => h.elim
  | .fdc _ _, _, h => h.elim
theorem Sim.okGet {O : Store} (S : Sim U ad O H) {i : Nat} {d : D} (h : O[i]? = some d) : CP.okD ad.length d = true := by
  have hi : i < ad.length := by rw [S.len]; exact (List.getElem?_eq_some_iff.mp h).1
  exact (S.at_ i _ d (List.getElem?_eq_getElem hi) h).okD
theorem okCh.refl (O : Store) : okCh O O := fun _ _ h => .inl h
theorem okCh.all {H0 : Hp} {O O' : Store} (S : Sim U ad O H0) (h : okCh O O') : ∀ (i : Nat) (d : D), O'[i]? = some d → CP.okD ad.length d = true := fun i d e => by
  rcases h i d e with z | z
  · exact S.okGet z
  · rw [S.len]; exact z
theorem Sim.cutad {O : Store} (S : Sim U (ad ++ l) O H) (o : ∀ (i : Nat) (d : D), (O.take ad.length)[i]? = some d → CP.okD ad.length d = true) : Sim U ad (O.take ad.length) H := by
  have hl := S.len
  rw [List.length_append] at hl
  refine ⟨(List.nodup_append.mp S.nd).1, by rw [List.length_take]; omega, fun k a d h1 h2 => ?_, S.tb⟩
  have hk := (List.getElem?_eq_some_iff.mp h1).1
  have h3 := h2
  rw [List.getElem?_take_of_lt hk] at h3
  exact (S.at_ k a d (by rw [List.getElem?_append_left hk]; exact h1) h3).cutad (o k d h2)
theorem Sim.new_out {O : Store} (S : Sim U (ad ++ l) O H) {k : Nat} {a : Addr} (hk : ¬ k < ad.length) (h : (ad ++ l)[k]? = some a) : a ∉ ad := fun z => by
  rw [List.getElem?_append_right (by omega)] at h
  have := (List.nodup_append.mp S.nd).2.2 a z a (List.mem_of_getElem? h)
  exact this rfl
mutual
theorem Rep.frz {O : Store} (S : Sim U (ad ++ l) O H) : ∀ {d d' : D} {v : V}, CP.frz O ad.length d = some d' → Rep U (ad ++ l) H d v → Rep U ad H d' v
  | .ptr k, d', v, e, h => by
    by_cases hk : k < ad.length
    · have e' : CP.frz O ad.length (.ptr k) = some (.ptr k) := by unfold CP.frz; rw [if_pos hk]
      rw [e'] at e
      cases e
      exact Rep.cutad (show okD ad.length (.ptr k) = true from decide_eq_true hk) h
    · obtain ⟨a, rfl, ha⟩ := h
      have hn := S.new_out hk ha
      have hko : k < O.length := by rw [← S.len]; exact (List.getElem?_eq_some_iff.mp ha).1
      have hO : O[k]? = some O[k] := List.getElem?_eq_getElem hko
      have cc := S.at_ k a _ ha hO
      unfold CP.frz at e
      rw [if_neg hk, hO] at e
      revert cc e
      generalize O[k] = dd
      cases dd with
      | lst l' =>
        intro cc e
        simp only at e
        split at e
        · rename_i o
          cases e
          obtain ⟨xs, h1, r⟩ := cc
          exact ⟨a, xs, rfl, h1, hn, Reps.cutad o r⟩
        · cases e
      | dic t ks vs =>
        intro cc e
        simp only at e
        split at e
        · rename_i o
          cases e
          cases t with
          | false =>
            obtain ⟨kvs, h1, q, r⟩ := cc
            exact ⟨a, rfl, hn, kvs, h1, q, Reps.cutad o r⟩
          | true =>
            obtain ⟨kvs, h1, q, r⟩ := cc
            exact ⟨a, rfl, hn, kvs, h1, q, Reps.cutad o r⟩
        · cases e
      | ins c ns vs =>
        intro cc e
        simp only at e
        split at e
        · rename_i o
          cases e
          obtain ⟨C, dx, fs, h1, m, q, r⟩ := cc
          exact ⟨a, C, dx, fs, rfl, hn, h1, m, q, Reps.cutad o r⟩
        · cases e
      | _ => intro cc e; cases e
  | .tup l', d', v, e, h => by
    obtain ⟨l2, e1, rfl⟩ := Option.map_eq_some_iff.mp (show (frzs O ad.length l').map D.tup = some d' from e)
    obtain ⟨a, xs, e, h1, n, r⟩ := h
    exact ⟨a, xs, e, h1, fun z => n (List.mem_append_left _ z), Reps.frz S e1 r⟩
  | .lst l', d', v, e, h => by
    obtain ⟨l2, e1, rfl⟩ := Option.map_eq_some_iff.mp (show (frzs O ad.length l').map D.lst = some d' from e)
    obtain ⟨a, xs, e, h1, n, r⟩ := h
    exact ⟨a, xs, e, h1, fun z => n (List.mem_append_left _ z), Reps.frz S e1 r⟩
  | .rot l', d', v, e, h => by
    unfold CP.frz at e
    split at e
    · rename_i o
      cases e
      exact Rep.cutad (d := .rot l') o h
    · cases e
  | .rol l', d', v, e, h => by
    unfold CP.frz at e
    split at e
    · rename_i o
      cases e
      exact Rep.cutad (d := .rol l') o h
    · cases e
  | .dic t ks vs, d', v, e, h => by
    unfold CP.frz at e
    split at e
    · rename_i o
      cases e
      exact Rep.cutad (d := .dic t ks vs) o h
    · cases e
  | .ins c ns vs, d', v, e, h => by
    unfold CP.frz at e
    split at e
    · rename_i o
      cases e
      exact Rep.cutad (d := .ins c ns vs) o h
    · cases e
  | .fdc ks vs, d', v, e, h => by
    unfold CP.frz at e
    split at e
    · rename_i o
      cases e
      exact Rep.cutad (d := .fdc ks vs) o h
    · cases e
  | .exc b c ns vs, d', v, e, h => by
    unfold CP.frz at e
    split at e
    · rename_i o
      cases e
      exact Rep.cutad (d := .exc b c ns vs) o h
    · cases e
  | .non, _, _, e, h => by cases e; exact h
  | .bl _, _, _, e, h => by cases e; exact h
  | .int _, _, _, e, h => by cases e; exact h
  | .str _, _, _, e, h => by cases e; exact h
  | .ty _, _, _, e, h => by cases e; exact h
  | .glo _, _, _, e, h => by cases e; exact h
theorem Reps.frz {O : Store} (S : Sim U (ad ++ l) O H) : ∀ {ds ds' : List D} {vs : List V}, CP.frzs O ad.length ds = some ds' → Reps U (ad ++ l) H ds vs → Reps U ad H ds' vs
  | [], _, _, e, h => by cases e; exact h
  | d :: ds, _, _, e, h => by
    obtain ⟨v, r, e', q, t⟩ := h
    unfold CP.frzs at e
    split at e
    · rename_i a b e1 e2
      cases e
      exact ⟨v, r, e', Rep.frz S e1 q, Reps.frz S e2 t⟩
    · cases e
end
end
end CP
namespace CP
open PySem PySem.Spec PyProof.Rows L2

/-- the def at f, called: it does what m says (where m is not stuck), given room and nothing shown around -/
structure SF (U : Univ) (k : Nat) (f : Addr) (fd : FuncData) (ps : List Str) (m : DF) : Prop where
  run : ∀ (A : Around) (outer : List PySem.Env) (s : Shared) (H : Hp) (args : Args) (us : List Value) (vs : List V) (Q : VK) (E : XK) (ad : List Addr) (O : Store) (ds : List D),
    Room k A → A.guards = some [] → Env0 U.P U.w U.K U.mg U.base A outer s H → BindsTo s fd args (ps.zip us) → Vals vs us →
    Sim U ad O H → Reps U ad H ds vs → ds.length = ps.length → Post U ad H Q E (m ds O) →
    codeAny (model U.P U.w) A (.call (.ref f) args) (CR (L2.CX U.P U.w) outer U.P U.w H s Q E) s
theorem SF.mono {U : Univ} {j k : Nat} {f : Addr} {fd : FuncData} {ps : List Str} {m : DF} (F : SF U j f fd ps m) (h : j ≤ k) : SF U k f fd ps m :=
  ⟨fun A outer s H args us vs Q E ad O ds hr => F.run A outer s H args us vs Q E ad O ds (hr.mono h)⟩

section
variable {U : Univ} {ad : List Addr} {H : Hp} {O : Store} {Q : VK} {E : XK}
theorem post_fin {drop : Bool} {d : D} {ad' : List Addr} {H' : Hp} {v : V} {O' : Store} (h : Post U ad H Q E (fin drop O d O')) (S0 : Sim U ad O H) (s : Step ad H ad' H') (S : Sim U ad' O' H') (r : Rep U ad' H' d v) : Q v H' := by
  unfold fin at h
  cases drop with
  | false => exact h ad' H' v s S r
  | true =>
    rw [if_pos rfl] at h
    obtain ⟨l, rfl⟩ := s.pre
    rw [← S0.len] at h
    cases e : frz O' ad.length d with
    | none => rw [e] at h; exact h.elim
    | some d' =>
      rw [e] at h
      simp only at h
      split at h
      · rename_i ok
        exact h ad H' v s.cut (S.cutad (okCh.all S0 ok)) (Rep.frz S e r)
      · exact h.elim
theorem post_finX {drop : Bool} {x : Exn} {ad' : List Addr} {H' : Hp} {c : Value} {dx : Option Addr} {O' : Store} (h : Post U ad H Q E (finX drop O x O')) (S0 : Sim U ad O H) (s : Step ad H ad' H') (S : Sim U ad' O' H') (r : RepX U ad' H' x c dx) : E c dx H' := by
  unfold finX at h
  cases drop with
  | false => exact h ad' H' c dx s S r
  | true =>
    rw [if_pos rfl] at h
    obtain ⟨l, rfl⟩ := s.pre
    rw [← S0.len] at h
    cases e : frzs O' ad.length x.vs with
    | none => rw [e] at h; exact h.elim
    | some d' =>
      rw [e] at h
      simp only at h
      split at h
      · rename_i ok
        refine h ad H' c dx s.cut (S.cutad (okCh.all S0 ok)) ⟨r.1, ?_⟩
        rcases r.2 with z | ⟨a, fs, h1, h2, h3, h4⟩
        · exact .inl z
        · exact .inr ⟨a, fs, h1, h2, h3, Reps.frz S e h4⟩
      · exact h.elim
theorem repE_start {N : List Str} {ds : List D} {vs : List V} (r : Reps U ad H ds vs) : RepE U ad H (ds.map some ++ List.replicate (N.length - ds.length) none) (L2.start N vs) := by
  have hl := r.length
  refine ⟨by unfold L2.start; simp [hl], fun i d e => ?_⟩
  unfold L2.start
  by_cases hi : i < ds.length
  · rw [List.getElem?_append_left (by simpa using hi), List.getElem?_map] at e
    rw [List.getElem?_append_left (by simpa using (hl ▸ hi)), List.getElem?_map]
    cases q : ds[i]? with
    | none => rw [q] at e; cases e
    | some d' =>
      rw [q] at e
      cases e
      obtain ⟨v, ev, rv⟩ := r.get q
      exact ⟨v, by rw [ev]; rfl, rv⟩
  · rw [List.getElem?_append_right (by simpa using hi), List.getElem?_replicate] at e
    split at e <;> cases e
end

/-- a def by its body -/
theorem defOk {U : Univ} {x qual : Str} {st : Stmt} {f : Addr} {fd : FuncData} {N ps : List Str} {k : Nat} {m : DS} {mk : Option (Addr × Str)} (drop : Bool) (F : Fun U.K x qual st f fd) (S : FnScope N ps (defScope st)) (hb : SB U ⟨N, defScope st, defScope st, mk, false⟩ k (defBody st) m)
    (hz : ∀ z, mk = some z → fd.code = .ref z.1 ∧ ∀ L, (envOfC qual (defScope st) L f fd.code).qual = z.2 := by intro z e; cases e) :
    SF U (k + 1) f fd ps (fnD drop N.length m) := by
  obtain ⟨oc, od, kV, doc, pm, an, cdv, ct, osl, rfl, lk, hcd⟩ := F.ex
  constructor
  intro A outer s H args us vs Q E ad O ds hr hg e0 bt rv Sm rd hl hp
  have inK : U.K.In s.heap := e0.mod.kin.keeps fun b o e => (e0.bs b o e).1
  have noLim : s.heap.NoLimit := e0.mod.nolimit.keeps fun b o e => (e0.bs b o e).1
  have hvl : vs.length = ps.length := rd.length ▸ hl
  refine codeAny_call_function hr.depth (inK _ _ lk) rfl S.co S.gen rfl (PySem.W.codeRec_of inK hcd) (bt _ _ _ _ ?_)
  refine wpAny_newFunctionEnv_cells S.kind (fun y hy => ?_) fun env he s1 ic => ?_
  · obtain ⟨n, v⟩ := y
    rcases S.par n (List.of_mem_zip hy).1 with q | q
    · exact .inl q
    · exact .inr ⟨q, PySem.W.cellsFrom_some _ _ _ (.inl q)⟩
  subst he
  refine ⟨noLim.keeps ic.toInCall.keep, codeAny_func ?_⟩
  have hr2 : Room k (A.deeper (envOfC qual (defScope st) s.heap.objs.size f cdv)) := hr.deeper _
  have I0 : Inv (cxOf (L2.CX U.P U.w) U.P U.w U.K U.mg U.base N qual (defScope st) f cdv A outer s H E) [] (L2.start N vs) H s1 := inv_start S hr.hd e0 hvl rv ic
  obtain ⟨t, pt, rt⟩ := hb (cxOf (L2.CX U.P U.w) U.P U.w U.K U.mg U.base N qual (defScope st) f cdv A outer s H E) (fun cl d _ H' => E cl d H')
    ⟨⟨U.T, rfl⟩, rfl, rfl, S.nd, fun _ => rfl, takes_of rfl rfl rfl rfl, passes_of rfl, rmH_of hr2, fun _ => hr2.hd, hg, fun _ _ => rfl, fun z e => ⟨(hz z e).1, (hz z e).2 _⟩⟩
  have goal : t { nx := fun _ H' => Q .non H', rt := Q } (L2.start N vs) H := by
    refine rt ad O H _ _ _ Sm (repE_start rd) ?_
    have h2 : Post U ad H Q E (exitF drop O (m (ds.map some ++ List.replicate (N.length - ds.length) none) O)) := hp
    revert h2
    generalize m (ds.map some ++ List.replicate (N.length - ds.length) none) O = fl
    intro h2
    cases fl with
    | nx σ O' => exact fun ad' H' sv st' Sm' r' => post_fin (d := .non) h2 Sm st' Sm' rfl
    | rt d O' => exact fun ad' H' v st' Sm' r' => post_fin h2 Sm st' Sm' r'
    | er x σ O' => exact fun ad' H' sv c dx st' Sm' _ r' => post_finX h2 Sm st' Sm' r'
    | bk σ O' => exact h2.elim
    | ct σ O' => exact h2.elim
    | stuck => exact h2.elim
  refine wpAny_mono (pt.run [] s1 (L2.start N vs) H _ I0 goal) (fun fl s' hs => ?_) fun e s' hs => hs
  cases fl with
  | ret u => exact let ⟨v, σ', H', J, rv', q⟩ := hs; ⟨v, H', J.os, J.bare, J.base, J.hok, rv', q⟩
  | next => exact let ⟨σ', H', J, q⟩ := hs; ⟨V.non, H', J.os, J.bare, J.base, J.hok, rfl, q⟩
  | brk => exact let ⟨_, _, _, q⟩ := hs; q.elim
  | cont => exact let ⟨_, _, _, q⟩ := hs; q.elim

section
variable {U : Univ} {c : Cs} {k j : Nat} {X : Cx} {W : WX} {f : Addr} {fd : FuncData} {ps : List Str} {m : DF}
/-- such a def, called from a body -/
theorem callAt (C : CtxOk U c k X W) (hh : c.hot = false) (F : SF U j f fd ps m) (hj : j ≤ k) {pins : List (Addr × Obj)} {sv : L2.St} {H : Hp} {s : Shared} {Q : VK} {us : List Value} {vs : List V} {args : Args} {ad : List Addr} {O : Store} {ds : List D}
    (hb : BindsTo s fd args (ps.zip us)) (I : Inv X pins sv H s) (r : Vals vs us) (S : Sim U ad O H) (rd : Reps U ad H ds vs) (hl : ds.length = ps.length) (h : Post U ad H Q (fun cl d H' => W cl d sv H') (m ds O)) :
    codeAny (model X.prog X.w) X.A (.call (.ref f) args) (fun z s' => match z with
      | .ok (.ret u) => EP X pins sv Q u s'
      | .ok _ => False
      | .error e => X.xe e s') s := by
  obtain ⟨_, eu⟩ := C.u
  subst eu
  refine codeAny_mono (F.run X.A X.stack s H args us vs Q (fun cl d H' => W cl d sv H') ad O ds ((C.rm hh).mono hj) C.gd I.env0 hb r S rd hl h) fun z s' hq => ?_
  cases z with
  | error e => exact C.tk e s' (XE.of_call I (fun _ _ _ w => w) hq)
  | ok fl =>
    cases fl with
    | ret u => exact I.after hq
    | next => exact hq
    | brk => exact hq
    | cont => exact hq
theorem callAt' (C : CtxOk U c k X W) (hh : c.hot = false) (F : SF U j f fd ps m) (hj : j ≤ k) (hb : Binds U.K fd ps []) {pins : List (Addr × Obj)} {sv : L2.St} {H : Hp} {s : Shared} {Q : VK} {us : List Value} {vs : List V} {ad : List Addr} {O : Store} {ds : List D}
    (I : Inv X pins sv H s) (r : Vals vs us) (S : Sim U ad O H) (rd : Reps U ad H ds vs) (hl : ds.length = ps.length) (h : Post U ad H Q (fun cl d H' => W cl d sv H') (m ds O)) :
    wpAny (model X.prog X.w) X.A (call (.ref f) us) (EP X pins sv Q) X.xe s := by
  have hul : us.length = ps.length := by rw [← r.length, ← rd.length]; exact hl
  have kin : U.K.In s.heap := by
    obtain ⟨_, eu⟩ := C.u
    subst eu
    exact I.kIn
  have hb' := hb s us kin (by rw [List.append_nil]; exact hul)
  rw [List.append_nil] at hb'
  refine wpAny_call (codeAny_mono (callAt C hh F hj hb' I r S rd hl h) fun z s' hq => ?_)
  cases z with
  | error e => exact hq
  | ok fl =>
    cases fl with
    | ret u => exact hq
    | next => exact hq
    | brk => exact hq
    | cont => exact hq
end

/-- a def of the module by its name -/
structure DefAt (U : Univ) (x : Str) (k : Nat) (ps : List Str) (m : DF) : Prop where
  ex : ∃ f fd, U.mg x = some (.ref f) ∧ PySem.W.keepIn U.K (.ref f) = true ∧ Binds U.K fd ps [] ∧ SF U k f fd ps m
/-- a method of a class of the module -/
structure MethAt (U : Univ) (cl x : Str) (k : Nat) (ps : List Str) (m : DF) : Prop where
  ex : ∃ C f fd, U.mg cl = some (.ref C) ∧ Cls U.K C ∧ Meth U.K C x f ∧ Binds U.K fd ps [] ∧ SF U k f fd ps m

def eCall (n : Nat) (m : DF) (ms : DA) : DE := fun σ O => (ms σ O).bind fun ds O1 => if ds.length = n then m ds O1 else .stuck
section
variable {U : Univ} {c : Cs} {k j : Nat} {x : Str} {ps : List Str} {m : DF} {p pos : Pos} {e : Expr} {es : List Expr} {ms : DA}
/-- f(..) -/
theorem sCall (F : DefAt U x j ps m) (hj : j ≤ k) (hg : c.sc.names.lookup x = some .globalImplicit) (ha : SA U c k (e :: es) ms) (hdb : (x == ("__debug__" : Str)) = false)
    (he : ∀ env, starEach (e :: es) env = (false, eval e env) :: starEach es env := by intro _; rfl) (hpl : ∀ env, (backTo pos (starEach es env)).any (·.1) = false := by intro _; rfl) (hh : c.hot = false := by rfl) :
    SE U c k (.Call (.Name x p) (e :: es) [] pos) (eCall ps.length m ms) := by
  intro X W C
  obtain ⟨f, fd, hm, hk, hb, hF⟩ := F.ex
  obtain ⟨t, pa, fa⟩ := ha X W C
  refine ⟨fun sv H Q => t sv H fun vs H1 => ∃ ad O ds, Sim U ad O H1 ∧ Reps U ad H1 ds vs ∧ ds.length = ps.length ∧ Post U ad H1 Q (fun cl d H' => W cl d sv H') (m ds O), ⟨fun pins s sv H Q I h => ?_⟩, ?_⟩
  · obtain ⟨_, eu⟩ := C.u
    refine wpAny_Call_Name_kw (ld_glob I (u := .ref f) (by show X.env.scope.names.lookup x = _; rw [C.s]; exact hg) (by subst eu; exact hm) ?_ hdb)
    refine PySem.W.callWith_K (h₀ := X.base) I.ok.mod.kin (by subst eu; exact hk) (thn (pa.run pos pins s sv H _ I h) fun us s1 ⟨vs, H1, I1, r, ad, O, ds, S, rd, hl, hp⟩ => ⟨I1.kIn, ?_⟩) (he _) (hpl _)
    exact callAt' C hh hF hj hb I1 r S rd hl hp
  · intro ad O H σ sv Q S rr h
    refine fa ad O H σ sv _ S rr (PostL.mono (PostL.bind h) ?_)
    rintro vs H1 ⟨ad1, O1, ds, s1, S1, r1, h1⟩
    split at h1
    · rename_i hl
      exact ⟨ad1, O1, ds, S1, r1, hl, h1⟩
    · exact h1.elim
/-- f() -/
theorem sCall0 (F : DefAt U x j ps m) (hj : j ≤ k) (hg : c.sc.names.lookup x = some .globalImplicit) (hdb : (x == ("__debug__" : Str)) = false) (hh : c.hot = false := by rfl) :
    SE U c k (.Call (.Name x p) [] [] pos) (eCall ps.length m aNil) := by
  intro X W C
  obtain ⟨f, fd, hm, hk, hb, hF⟩ := F.ex
  refine ⟨fun sv H Q => ∃ ad O ds, Sim U ad O H ∧ Reps U ad H ds [] ∧ ds.length = ps.length ∧ Post U ad H Q (fun cl d H' => W cl d sv H') (m ds O), ⟨fun pins s sv H Q I h => ?_⟩, ?_⟩
  · obtain ⟨_, eu⟩ := C.u
    obtain ⟨ad, O, ds, S, rd, hl, hp⟩ := h
    refine wpAny_Call_Name_kw (ld_glob I (u := .ref f) (by show X.env.scope.names.lookup x = _; rw [C.s]; exact hg) (by subst eu; exact hm) ?_ hdb)
    exact PySem.W.callWith_K0 I.kIn (by subst eu; exact hk) (callAt' C hh hF hj hb I (us := []) .nil S rd hl hp)
  · intro ad O H σ sv Q S rr h
    have h' : Post U ad H Q (fun cl d H' => W cl d sv H') (if ([] : List D).length = ps.length then m [] O else .stuck) := h
    split at h'
    · rename_i hl
      exact ⟨ad, O, [], S, rfl, hl, h'⟩
    · exact h'.elim
end

def fldOf : List Str → List D → Str → Option D
  | n :: ns, d :: ds, f => if f = n then some d else fldOf ns ds f
  | _, _, _ => none
def dAttr (cs : List Str) (f : Str) : D → Store → Option D := fun x O => match der x O with
  | .ins c ns vs => if c ∈ cs then fldOf ns vs f else none
  | _ => none
def eAttr (cs : List Str) (f : Str) (m : DE) : DE := fun σ O => (m σ O).bind fun d O1 => lift (dAttr cs f d O1) O1
section
variable {U : Univ} {ad : List Addr} {H : Hp} {O : Store}
theorem fld_at : ∀ {ns : List Str} {vs : List D} {fs : List (Str × V)} {f : Str} {d : D}, fs.map (·.1) = ns → Reps U ad H vs (fs.map (·.2)) → fldOf ns vs f = some d → ∃ v, fs.lookup f = some v ∧ Rep U ad H d v
  | [], _, _, _, _, _, _, e => by cases e
  | _ :: _, [], _, _, _, _, _, e => by cases e
  | n :: ns, d0 :: vs, [], _, _, h, _, _ => by cases h
  | n :: ns, d0 :: vs, (n', v') :: fs, f, d, h, r, e => by
    simp only [List.map_cons, List.cons.injEq] at h
    obtain ⟨rfl, h⟩ := h
    obtain ⟨v, rr, e1, q, t⟩ := r
    simp only [List.map_cons, List.cons.injEq] at e1
    obtain ⟨rfl, rfl⟩ := e1
    unfold fldOf at e
    by_cases hf : f = n'
    · rw [if_pos hf] at e
      cases e
      exact ⟨v', by simp [List.lookup, hf], q⟩
    · rw [if_neg hf] at e
      obtain ⟨v2, h1, h2⟩ := fld_at h t e
      refine ⟨v2, ?_, h2⟩
      have : (f == n') = false := beq_eq_false_iff_ne.mpr hf
      simp only [List.lookup, this]
      exact h1
theorem der_ins (S : Sim U ad O H) {d : D} {v : V} {c : Str} {ns : List Str} {vs : List D} (r : Rep U ad H d v) (e : der d O = .ins c ns vs) :
    ∃ a C dx fs, v = .ref a ∧ H a = some (.ins C dx fs) ∧ U.mg c = some (.ref C) ∧ fs.map (·.1) = ns ∧ Reps U ad H vs (fs.map (·.2)) := by
  cases d with
  | ptr k =>
    obtain ⟨a, rfl, ha, cc⟩ := der_get S r e
    obtain ⟨C, dx, fs, h, m, q, t⟩ := cc
    exact ⟨a, C, dx, fs, rfl, h, m, q, t⟩
  | ins c' ns' vs' =>
    have e' : D.ins c' ns' vs' = .ins c ns vs := e
    cases e'
    obtain ⟨a, C, dx, fs, rfl, _, h, m, q, t⟩ := r
    exact ⟨a, C, dx, fs, rfl, h, m, q, t⟩
  | _ => cases e
end
section
variable {U : Univ} {c : Cs} {k j : Nat} {pos : Pos} {e : Expr} {f : Str} {m : DE}
theorem sAttr {cs : List Str} (he : SE U c k e m) (hf : ∀ cl ∈ cs, ∃ C, U.mg cl = some (.ref C) ∧ Cls U.K C ∧ NoAttr U.K C f) (hb : ∀ env : PySem.Env, attributeBase e f env (eval e env) = eval e env := by intro _; rfl) :
    SE U c k (.Attribute e f pos) (eAttr cs f m) := by
  intro X W C
  obtain ⟨t, p, g⟩ := he X W C
  obtain ⟨_, eu⟩ := C.u
  subst eu
  refine ⟨_, pe_fld p (hb _), fun ad O H σ sv Q S r h => g ad O H σ sv _ S r (Post.mono (Post.bind h) ?_)⟩
  rintro v H1 ⟨ad1, O1, d, s1, S1, r1, h1⟩
  cases e0 : dAttr cs f d O1 with
  | none => rw [e0] at h1; exact h1.elim
  | some z =>
    rw [e0] at h1
    unfold dAttr at e0
    split at e0
    · rename_i c' ns vs e1
      split at e0
      · rename_i hc
        obtain ⟨a, C', dx, fs, rfl, hH, hm, hn, ht⟩ := der_ins S1 r1 e1
        obtain ⟨C2, hm2, hcl, hno⟩ := hf c' hc
        have : C' = C2 := by
          have := hm.symm.trans hm2
          cases this; rfl
        subst this
        obtain ⟨v, hl, rv⟩ := fld_at hn ht e0
        exact ⟨a, C', dx, fs, v, rfl, hH, hcl, hno, hl, h1 ad1 H1 v .refl S1 rv⟩
      · cases e0
    · cases e0

def eMeth (cl : Str) (x : Str) (n : Nat) (m : DF) (o : DE) (ms : DA) : DE := fun σ O => (o σ O).bind fun d O1 => match der d O1 with
  | .ins c ns vs => if c = cl ∧ ¬ x ∈ ns then (ms σ O1).bind fun ds O2 => if ds.length + 1 = n then m (d :: ds) O2 else .stuck else .stuck
  | _ => .stuck
theorem no_fld {fs : List (Str × V)} {x : Str} (h : ¬ x ∈ fs.map (·.1)) : fs.lookup x = none := by
  induction fs with
  | nil => rfl
  | cons p r ih =>
    simp only [List.map_cons, List.mem_cons, not_or] at h
    have : (x == p.1) = false := beq_eq_false_iff_ne.mpr h.1
    simp only [List.lookup, this]
    exact ih h.2
theorem sMeth {cl x : Str} {ps : List Str} {mf : DF} {o a0 : Expr} {es : List Expr} {mo : DE} {ms : DA} {apos : Pos} {pl : PySem.Env → Sem Bool} (F : MethAt U cl x j ps mf) (hj : j ≤ k) (ho : SE U c k o mo) (ha : SA U c k (a0 :: es) ms)
    (hst : ∀ env, starEach (a0 :: es) env = (false, eval a0 env) :: starEach es env) (hpl : ∀ env, (backTo pos (starEach es env)).any (·.1) = false)
    (ht : ∀ env : PySem.Env, eval (.Call (.Attribute o x apos) (a0 :: es) [] pos) env = (do
      let ov ← eval o env
      standAt apos.atName
      let (f, first) ← holding [ov] (getMethod ov x (pl env))
      callWith pos f first (backTo pos (starEach (a0 :: es) env)) (backToKw pos (keywordEach [] env)))) (hh : c.hot = false := by rfl) :
    SE U c k (.Call (.Attribute o x apos) (a0 :: es) [] pos) (eMeth cl x ps.length mf mo ms) := by
  intro X W C
  obtain ⟨Ca, f, fd, hm, hcl, hmt, hb, hF⟩ := F.ex
  obtain ⟨t, po, fo⟩ := ho X W C
  obtain ⟨t', pa, fa⟩ := ha X W C
  obtain ⟨_, eu⟩ := C.u
  refine ⟨fun sv H Q => t sv H fun v H1 => ∃ a dx fs, v = .ref a ∧ H1 a = some (.ins Ca dx fs) ∧ fs.lookup x = none ∧ t' sv H1 fun vs H2 => ∃ ad O ds, Sim U ad O H2 ∧ Reps U ad H2 ds (.ref a :: vs) ∧ ds.length = ps.length ∧ Post U ad H2 Q (fun cl d H' => W cl d sv H') (mf ds O), ⟨fun pins s sv H Q I h => ?_⟩, ?_⟩
  · refine PySem.W.methodCall_KW (pl := pl X.env) (thn (po.run pins s sv H _ I h) fun u s1 ⟨v, H1, I1, rx, a, dx, fs, ex, ea, l, q⟩ => ?_) (ht _)
    subst ex
    obtain rfl : u = Value.ref a := rx
    refine getmeth_ok I1 ea (by subst eu; exact hcl) (show Meth X.K Ca x f by subst eu; exact hmt) l ?_
    refine PySem.W.callWith_K (first := [.ref a]) (h₀ := X.base) I.ok.mod.kin (by subst eu; exact hmt.kp) (thn (pa.run pos pins s1 sv H1 _ I1 q) fun us s2 ⟨vs, H2, I2, r, ad, O, ds, S, rd, hl, hp⟩ => ⟨I2.kIn, ?_⟩) (hst _) (hpl _)
    exact callAt' C hh hF hj hb I2 (us := .ref a :: us) (vs := .ref a :: vs) (.cons rfl r) S rd hl hp
  · intro ad O H σ sv Q S rr h
    refine fo ad O H σ sv _ S rr (Post.mono (Post.bind h) ?_)
    rintro v H1 ⟨ad1, O1, d, s1, S1, r1, h1⟩
    split at h1
    · rename_i c' ns vs e1
      split at h1
      · rename_i hc
        obtain ⟨a, C', dx, fs, rfl, hH, hm', hn, _⟩ := der_ins S1 r1 e1
        have : C' = Ca := by
          rw [hc.1, hm] at hm'
          cases hm'; rfl
        subst this
        refine ⟨a, dx, fs, rfl, hH, no_fld (by rw [hn]; exact hc.2), fa ad1 O1 H1 σ sv _ S1 (rr.keep s1) (PostL.mono (PostL.bind h1) ?_)⟩
        rintro us H2 ⟨ad2, O2, ds, s2, S2, r2, h2⟩
        split at h2
        · rename_i hl
          exact ⟨ad2, O2, d :: ds, S2, .cons (r1.keep s2) r2, by simpa using hl, h2⟩
        · exact h2.elim
      · exact h1.elim
    · exact h1.elim
theorem sMeth0 {cl x : Str} {ps : List Str} {mf : DF} {o : Expr} {mo : DE} {apos : Pos} {pl : PySem.Env → Sem Bool} (F : MethAt U cl x j ps mf) (hj : j ≤ k) (ho : SE U c k o mo)
    (ht : ∀ env : PySem.Env, eval (.Call (.Attribute o x apos) [] [] pos) env = (do
      let ov ← eval o env
      standAt apos.atName
      let (f, first) ← holding [ov] (getMethod ov x (pl env))
      callWith pos f first (backTo pos (starEach [] env)) (backToKw pos (keywordEach [] env)))) (hh : c.hot = false := by rfl) :
    SE U c k (.Call (.Attribute o x apos) [] [] pos) (eMeth cl x ps.length mf mo aNil) := by
  intro X W C
  obtain ⟨Ca, f, fd, hm, hcl, hmt, hb, hF⟩ := F.ex
  obtain ⟨t, po, fo⟩ := ho X W C
  obtain ⟨_, eu⟩ := C.u
  refine ⟨fun sv H Q => t sv H fun v H1 => ∃ a dx fs, v = .ref a ∧ H1 a = some (.ins Ca dx fs) ∧ fs.lookup x = none ∧ ∃ ad O ds, Sim U ad O H1 ∧ Reps U ad H1 ds [.ref a] ∧ ds.length = ps.length ∧ Post U ad H1 Q (fun cl d H' => W cl d sv H') (mf ds O), ⟨fun pins s sv H Q I h => ?_⟩, ?_⟩
  · refine PySem.W.methodCall_KW (pl := pl X.env) (thn (po.run pins s sv H _ I h) fun u s1 ⟨v, H1, I1, rx, a, dx, fs, ex, ea, l, ad, O, ds, S, rd, hl, hp⟩ => ?_) (ht _)
    subst ex
    obtain rfl : u = Value.ref a := rx
    refine getmeth_ok I1 ea (by subst eu; exact hcl) (show Meth X.K Ca x f by subst eu; exact hmt) l ?_
    exact PySem.W.callWith_K0 (first := [.ref a]) I1.kIn (by subst eu; exact hmt.kp) (callAt' C hh hF hj hb I1 (us := [.ref a]) (vs := [.ref a]) (.cons rfl .nil) S rd hl hp)
  · intro ad O H σ sv Q S rr h
    refine fo ad O H σ sv _ S rr (Post.mono (Post.bind h) ?_)
    rintro v H1 ⟨ad1, O1, d, s1, S1, r1, h1⟩
    split at h1
    · rename_i c' ns vs e1
      split at h1
      · rename_i hc
        obtain ⟨a, C', dx, fs, rfl, hH, hm', hn, _⟩ := der_ins S1 r1 e1
        have : C' = Ca := by
          rw [hc.1, hm] at hm'
          cases hm'; rfl
        subst this
        refine ⟨a, dx, fs, rfl, hH, no_fld (by rw [hn]; exact hc.2), ?_⟩
        have h2 : Post U ad1 H1 Q (fun cl d H' => W cl d sv H') (if ([] : List D).length + 1 = ps.length then mf [d] O1 else .stuck) := h1
        split at h2
        · rename_i hl
          exact ⟨ad1, O1, [d], S1, .cons r1 .nil, by simpa using hl, h2⟩
        · exact h2.elim
      · exact h1.elim
    · exact h1.elim
end
end CP
namespace CP
open PySem PySem.Spec PyProof.Rows L2

inductive Tg where
  | nm (i : Nat)
  | tp (js : List Nat)
  | tl (js : List Nat)
  | tn (js : List Nat) (k : Nat)
def Tg.slots : Tg → List Nat
  | .nm i => [i]
  | .tp js => js
  | .tl js => js
  | .tn js k => js ++ [k]
def setAll {α : Type} (σ : List (Option α)) : List Nat → List α → List (Option α)
  | i :: js, d :: ds => setAll (σ.set i (some d)) js ds
  | _, _ => σ
def seqT (d : D) (O : Store) : Option (List D) := match der d O with
  | .tup l => some l
  | .rot l => some l
  | _ => none
def tgt (g : Tg) (d : D) (O : Store) (σ : Env) : Option Env := match g with
  | .nm i => some (σ.set i (some d))
  | .tp js => (seqT d O).bind fun l => if l.length = js.length then some (setAll σ js l) else none
  | .tl js => (lstR d O).bind fun l => if l.length = js.length then some (setAll σ js l) else none
  | .tn js k => (seqT d O).bind fun l => match l with
    | [x, y] => (seqT x O).bind fun l2 => if l2.length = js.length then some ((setAll σ js l2).set k (some y)) else none
    | _ => none
def gsOf : List Nat → TGs
  | [] => gNil
  | i :: js => gCons (gName i) (gsOf js)
def gOf (K : PySem.W.Frag) : Tg → TG
  | .nm i => gName i
  | .tp js => gTup K js.length (gsOf js)
  | .tl js => gUnl K js.length (gsOf js)
  | .tn js k => gTup K 2 (gCons (gTup K js.length (gsOf js)) (gCons (gName k) gNil))
/-- a target's rule -/
def SG (U : Univ) (c : Cs) (tg : Expr) (g : Tg) : Prop := ∀ (X : Cx) (W : WX) (k : Nat), CtxOk U c k X W → PG X tg (gOf U.K g)
def SGs (U : Univ) (c : Cs) (tg : List Expr) (js : List Nat) : Prop := ∀ (X : Cx) (W : WX) (k : Nat), CtxOk U c k X W → PGs X tg (gsOf js)
section
variable {U : Univ} {c : Cs} {pos : Pos}
theorem pgName {X : Cx} {W : WX} {k i : Nat} {x : Str} (C : CtxOk U c k X W) (hi : c.N[i]? = some x) (hx : Loc c.sc x) (hf : c.sc.names.lookup x = some .local ∨ c.osc.names.lookup x = some .cell) : PG X (.Name x pos) (gName i) :=
  pg_name (i := i) (by rw [C.n]; exact C.nd) (by rw [C.n]; exact hi) (by rw [C.s]; exact hx) (fn_or C hf)
theorem sgName {i : Nat} {x : Str} (hi : c.N[i]? = some x) (hx : Loc c.sc x) (hf : c.sc.names.lookup x = some .local ∨ c.osc.names.lookup x = some .cell) : SG U c (.Name x pos) (.nm i) :=
  fun X W k C => pgName C hi hx hf
theorem sgsNil : SGs U c [] [] := fun X W k C => pgs_nil
theorem sgsCons {i : Nat} {x : Str} {es : List Expr} {js : List Nat} (hi : c.N[i]? = some x) (hx : Loc c.sc x) (hf : c.sc.names.lookup x = some .local ∨ c.osc.names.lookup x = some .cell) (ht : SGs U c es js) : SGs U c (.Name x pos :: es) (i :: js) :=
  fun X W k C => pgs_cons (pgName C hi hx hf) (ht X W k C)
theorem sgTup {es : List Expr} {js : List Nat} {n : Nat} (h : SGs U c es js) (hn : es.length = js.length) (hl : ∀ env : PySem.Env, (assignEach es env).length = es.length := by intro _; rfl)
    (hst : ∀ env : PySem.Env, (assignEach es env).findIdx? (·.1) = none := by intro _; rfl) (hh : c.hot = false := by rfl) : SG U c (.Tuple es n pos) (.tp js) := by
  intro X W k C
  obtain ⟨_, eu⟩ := C.u
  subst eu
  show PG X _ (gTup X.K js.length (gsOf js))
  rw [← hn]
  exact pg_tup (n := es.length) (C.calm hh) (h X W k C) (hl _) (hst _)
theorem sgUnl {es : List Expr} {js : List Nat} {n : Nat} (h : SGs U c es js) (hn : es.length = js.length) (hl : ∀ env : PySem.Env, (assignEach es env).length = es.length := by intro _; rfl)
    (hst : ∀ env : PySem.Env, (assignEach es env).findIdx? (·.1) = none := by intro _; rfl) (hh : c.hot = false := by rfl) : SG U c (.Tuple es n pos) (.tl js) := by
  intro X W k C
  obtain ⟨_, eu⟩ := C.u
  subst eu
  show PG X _ (gUnl X.K js.length (gsOf js))
  rw [← hn]
  exact pg_unl (n := es.length) (C.calm hh) (h X W k C) (hl _) (hst _)
theorem sgNst {es : List Expr} {js : List Nat} {n n2 i : Nat} {x : Str} {p2 p3 : Pos} (h : SGs U c es js) (hn : es.length = js.length) (hi : c.N[i]? = some x) (hx : Loc c.sc x) (hf : c.sc.names.lookup x = some .local ∨ c.osc.names.lookup x = some .cell)
    (hl : ∀ env : PySem.Env, (assignEach es env).length = es.length := by intro _; rfl) (hst : ∀ env : PySem.Env, (assignEach es env).findIdx? (·.1) = none := by intro _; rfl)
    (hl2 : ∀ env : PySem.Env, (assignEach [.Tuple es n p2, .Name x p3] env).length = 2 := by intro _; rfl) (hst2 : ∀ env : PySem.Env, (assignEach [.Tuple es n p2, .Name x p3] env).findIdx? (·.1) = none := by intro _; rfl) (hh : c.hot = false := by rfl) :
    SG U c (.Tuple [.Tuple es n p2, .Name x p3] n2 pos) (.tn js i) := by
  intro X W k C
  obtain ⟨_, eu⟩ := C.u
  subst eu
  show PG X _ (gTup X.K 2 (gCons (gTup X.K js.length (gsOf js)) (gCons (gName i) gNil)))
  have p1 : PG X (.Tuple es n p2) (gTup X.K js.length (gsOf js)) := by
    rw [← hn]
    exact pg_tup (n := es.length) (C.calm hh) (h X W k C) (hl _) (hst _)
  exact pg_tup (n := 2) (C.calm hh) (pgs_cons p1 (pgs_cons (pgName C hi hx hf) pgs_nil)) (hl2 _) (hst2 _)
end
theorem gs_run : ∀ {js : List Nat} {xs : List V} {σ : L2.St} {H : Hp} {Q : L2.St → Hp → Prop}, xs.length = js.length → Q (setAll σ js xs) H → gsOf js xs σ H Q
  | [], [], _, _, _, _, h => ⟨rfl, h⟩
  | _ :: _, x :: xs, _, _, _, hl, h => ⟨x, xs, rfl, gs_run (by simpa using hl) h⟩
  | [], _ :: _, _, _, _, hl, _ => by simp at hl
  | _ :: _, [], _, _, _, hl, _ => by simp at hl
section
variable {U : Univ} {ad : List Addr} {H : Hp} {O : Store}
theorem repE_setAll : ∀ (js : List Nat) {ds : List D} {xs : List V} {σ : Env} {sv : L2.St}, RepE U ad H σ sv → Reps U ad H ds xs → RepE U ad H (setAll σ js ds) (setAll sv js xs) := by
  intro js
  induction js with
  | nil => intro ds xs σ sv r _; exact r
  | cons i js ih =>
    intro ds xs σ sv r h
    cases ds with
    | nil => cases h; exact r
    | cons d ds =>
      obtain ⟨v, t, rfl, q, h'⟩ := h
      exact ih (r.set i q) h'
theorem seqT_at (S : Sim U ad O H) {d : D} {v : V} {l : List D} (r : Rep U ad H d v) (e : seqT d O = some l) : ∃ a xs, v = .ref a ∧ SqT U.K H a xs ∧ Reps U ad H l xs := by
  unfold seqT at e
  split at e
  · rename_i l' e1
    cases e
    obtain ⟨a, xs, h, q, _, z⟩ := der_tup S r e1
    exact ⟨a, xs, h, .of q, z⟩
  · rename_i l' e1
    cases e
    obtain ⟨a, xs, h, q, z⟩ := der_rot S r e1
    exact ⟨a, xs, h, q.sq, z⟩
  · cases e
theorem setAll_snoc {α : Type} {k : Nat} {y : α} : ∀ {js : List Nat} {xs : List α} {σ : List (Option α)}, xs.length = js.length → setAll σ (js ++ [k]) (xs ++ [y]) = (setAll σ js xs).set k (some y)
  | [], [], _, _ => rfl
  | i :: js, x :: xs, σ, h => setAll_snoc (js := js) (xs := xs) (σ := σ.set i (some x)) (by simpa using h)
  | [], _ :: _, _, h => by simp at h
  | _ :: _, [], _, h => by simp at h
/-- an assignment to names: what is then in the slots -/
theorem tgt_run (S : Sim U ad O H) {g : Tg} {d : D} {v : V} {σ σ' : Env} {sv : L2.St} {Q : L2.St → Hp → Prop} (r : RepE U ad H σ sv) (q : Rep U ad H d v) (e : tgt g d O σ = some σ')
    (h : ∀ vs : List V, RepE U ad H σ' (setAll sv g.slots vs) → Q (setAll sv g.slots vs) H) : gOf U.K g v sv H Q := by
  cases g with
  | nm i =>
    have e' : some (σ.set i (some d)) = some σ' := e
    cases e'
    exact h [v] (r.set i q)
  | tp js =>
    obtain ⟨l, e1, e2⟩ := Option.bind_eq_some_iff.mp (show ((seqT d O).bind fun l => if l.length = js.length then some (setAll σ js l) else none) = some σ' from e)
    split at e2
    · rename_i hl
      cases e2
      obtain ⟨a, xs, rfl, hs, t⟩ := seqT_at S q e1
      have hx : xs.length = js.length := by rw [← t.length]; exact hl
      exact ⟨a, xs, rfl, hs, hx, gs_run hx (h xs (repE_setAll js r t))⟩
    · cases e2
  | tl js =>
    obtain ⟨l, e1, e2⟩ := Option.bind_eq_some_iff.mp (show ((lstR d O).bind fun l => if l.length = js.length then some (setAll σ js l) else none) = some σ' from e)
    split at e2
    · rename_i hl
      cases e2
      obtain ⟨a, xs, rfl, hs, t⟩ := lstR_at S q e1
      have hx : xs.length = js.length := by rw [← t.length]; exact hl
      exact ⟨a, xs, rfl, hs, hx, gs_run hx (h xs (repE_setAll js r t))⟩
    · cases e2
  | tn js k =>
    obtain ⟨l, e1, e2⟩ := Option.bind_eq_some_iff.mp (show ((seqT d O).bind fun l => match l with
      | [x, y] => (seqT x O).bind fun l2 => if l2.length = js.length then some ((setAll σ js l2).set k (some y)) else none
      | _ => none) = some σ' from e)
    split at e2
    · rename_i x y
      obtain ⟨l2, e3, e4⟩ := Option.bind_eq_some_iff.mp e2
      split at e4
      · rename_i hl
        cases e4
        obtain ⟨a, xs, rfl, hs, t⟩ := seqT_at S q e1
        obtain ⟨vx, r1, rfl, qx, t1⟩ := t
        obtain ⟨vy, r2, rfl, qy, t2⟩ := t1
        have e5 : r2 = [] := t2
        subst e5
        obtain ⟨a2, xs2, rfl, hs2, t3⟩ := seqT_at S qx e3
        have hx : xs2.length = js.length := by rw [← t3.length]; exact hl
        have key := h (xs2 ++ [vy]) (by
          show RepE U ad H _ (setAll sv (js ++ [k]) (xs2 ++ [vy]))
          rw [setAll_snoc hx]
          exact (repE_setAll js r t3).set k qy)
        have key : Q (setAll sv (js ++ [k]) (xs2 ++ [vy])) H := key
        rw [setAll_snoc hx] at key
        exact ⟨a, [.ref a2, vy], rfl, hs, rfl, .ref a2, [vy], rfl, a2, xs2, rfl, hs2, hx, gs_run hx ⟨vy, [], rfl, rfl, key⟩⟩
      · cases e4
    · cases e2
end

/-- the list that is walked stands in the store as it stood -/
def watchOk (w : Option (Nat × D)) (O : Store) : Prop := match w with
  | none => True
  | some (k, d) => O[k]? = some d
instance (w : Option (Nat × D)) (O : Store) : Decidable (watchOk w O) := match w with
  | none => .isTrue trivial
  | some (k, d) => inferInstanceAs (Decidable (O[k]? = some d))
/-- J gives the items ds, whatever happens meanwhile to the rest -/
def Yields (U : Univ) (J : It) (ad : List Addr) (H : Hp) (ds : List D) (w : Option (Nat × D)) : Prop := ∃ (G : Hp → Prop) (Y : Nat → Hp → V → Hp → Prop), Walk J ds.length G Y ∧
  (∀ ad2 O2 H2, Step ad H ad2 H2 → Sim U ad2 O2 H2 → watchOk w O2 → G H2) ∧
  ∀ i x H2 H3 ad2 O2, i < ds.length → Step ad H ad2 H2 → Sim U ad2 O2 H2 → watchOk w O2 → Y i H2 x H3 → Step ad2 H2 ad2 H3 ∧ Sim U ad2 O2 H3 ∧ ∃ d, ds[i]? = some d ∧ Rep U ad2 H3 d x
structure Itm where
  ds : List D
  w : Option (Nat × D)
abbrev DI := Env → Store → R Itm
def PostI (U : Univ) (ad : List Addr) (H : Hp) (Rr : It → Hp → Prop) (E : XK) : R Itm → Prop
  | .ok d O => ∀ ad' H' J, Step ad H ad' H' → Sim U ad' O H' → Yields U J ad' H' d.ds d.w → watchOk d.w O → Rr J H'
  | .err x O => ∀ ad' H' c dx, Step ad H ad' H' → Sim U ad' O H' → RepX U ad' H' x c dx → E c dx H'
  | .stuck => False
def RdI (U : Univ) (W : WX) (t : TI) (m : DI) : Prop := ∀ (ad : List Addr) (O : Store) (H : Hp) (σ : Env) (sv : L2.St) (Rr : It → Hp → Prop), Sim U ad O H → RepE U ad H σ sv → PostI U ad H Rr (fun cl d H' => W cl d sv H') (m σ O) → t sv H Rr
def SI (U : Univ) (c : Cs) (k : Nat) (tg iter : Expr) (m : DI) : Prop := ∀ (X : Cx) (W : WX), CtxOk U c k X W → ∃ t, PI X tg iter t ∧ RdI U W t m
theorem PI_or {X : Cx} {tg iter : Expr} {t t' : TI} (h : PI X tg iter t) (h' : PI X tg iter t') : PI X tg iter (fun σ H R => t σ H R ∨ t' σ H R) :=
  ⟨fun pins s σ H R I q => q.elim (h.run pins s σ H R I) (h'.run pins s σ H R I)⟩
/-- the text's signs -/
def signsOf (z : Str) : List D := z.cps.toList.map fun n => D.str ⟨#[n]⟩
/-- a value's items -/
def itemsPtr (k : Nat) (o : Option D) : Option Itm := match o with
  | some (.lst l) => some ⟨l, some (k, .lst l)⟩
  | _ => none
def itemsOf (d : D) (O : Store) : Option Itm := match d with
  | .ptr k => itemsPtr k O[k]?
  | .lst l => some ⟨l, none⟩
  | .rol l => some ⟨l, none⟩
  | .tup l => some ⟨l, none⟩
  | .rot l => some ⟨l, none⟩
  | .str z => some ⟨signsOf z, none⟩
  | _ => none
def iAny (m : DE) : DI := fun σ O => (m σ O).bind fun d O1 => lift (itemsOf d O1) O1
section
variable {U : Univ} {ad : List Addr} {H : Hp} {O : Store}
theorem yields_list {a : Addr} {xs : List V} {ds : List D} {w : Option (Nat × D)} (r : Reps U ad H ds xs) (hk : ∀ ad2 O2 H2, Step ad H ad2 H2 → Sim U ad2 O2 H2 → watchOk w O2 → SqL U.K H2 a xs) : Yields U (Itl U.K a) ad H ds w := by
  refine ⟨_, _, by rw [r.length]; exact walk_list (K := U.K) (a := a) (xs := xs), hk, ?_⟩
  intro i x H2 H3 ad2 O2 hi s S hw y
  obtain ⟨rfl, e⟩ := y
  obtain ⟨v, ev, rv⟩ := r.get (List.getElem?_eq_getElem hi)
  rw [e] at ev; cases ev
  exact ⟨.refl, S, ds[i], List.getElem?_eq_getElem hi, rv.keep s⟩
theorem yields_ptr {a : Addr} {kk : Nat} {ds : List D} (ha : ad[kk]? = some a) : Yields U (Itl U.K a) ad H ds (some (kk, .lst ds)) := by
  refine ⟨fun H2 => ∃ ys, SqL U.K H2 a ys ∧ ys.length = ds.length, fun i H2 x H3 => H3 = H2 ∧ ∀ ys, SqL U.K H2 a ys → ys[i]? = some x, ⟨fun i H2 hi ⟨ys, hy, hl⟩ => ⟨ys, ys[i]'(by omega), hy, by simp⟩, fun H2 ⟨ys, hy, hl⟩ => ⟨ys, hy, by omega⟩, fun i H2 x H3 hi _ y => y⟩, fun ad2 O2 H2 s2 S2 hw => ?_, ?_⟩
  · obtain ⟨ys, hy, hyr⟩ := S2.at_ kk a _ (s2.ix ha) hw
    exact ⟨ys, .of hy, hyr.length.symm⟩
  · intro i x H2 H3 ad2 O2 hi s S hw y
    obtain ⟨rfl, e⟩ := y
    obtain ⟨ys, hy, hyr⟩ := S.at_ kk a _ (s.ix ha) hw
    obtain ⟨v, ev, rv⟩ := hyr.get (List.getElem?_eq_getElem hi)
    rw [e ys (.of hy)] at ev; cases ev
    exact ⟨.refl, S, ds[i], List.getElem?_eq_getElem hi, rv⟩
theorem yields_tup {a : Addr} {xs : List V} {ds : List D} (r : Reps U ad H ds xs) (hk : ∀ ad2 O2 H2, Step ad H ad2 H2 → Sim U ad2 O2 H2 → SqT U.K H2 a xs) : Yields U (Itt U.K a) ad H ds none := by
  refine ⟨_, _, by rw [r.length]; exact walk_tup (K := U.K) (a := a) (xs := xs), fun ad2 O2 H2 s S _ => hk ad2 O2 H2 s S, ?_⟩
  intro i x H2 H3 ad2 O2 hi s S hw y
  obtain ⟨rfl, e⟩ := y
  obtain ⟨v, ev, rv⟩ := r.get (List.getElem?_eq_getElem hi)
  rw [e] at ev; cases ev
  exact ⟨.refl, S, ds[i], List.getElem?_eq_getElem hi, rv.keep s⟩
theorem yields_str {z : Str} : Yields U (Its z) ad H (signsOf z) none := by
  refine ⟨_, _, by unfold signsOf; rw [List.length_map, Array.length_toList]; exact walk_str (z := z), fun _ _ _ _ _ _ => trivial, ?_⟩
  intro i x H2 H3 ad2 O2 hi s S hw y
  obtain ⟨rfl, cc, e, rfl⟩ := y
  refine ⟨.refl, S, .str ⟨#[cc]⟩, ?_, rfl⟩
  unfold signsOf
  rw [List.getElem?_map]
  have : z.cps.toList[i]? = some cc := by simpa using e
  rw [this]; rfl
theorem reps_range (lo : Int) (n : Nat) : ∀ i, i < n → Rep U ad H (.int (lo + (i : Nat))) (.int (lo + (i : Nat))) := fun _ _ => rfl
theorem yields_range {lo : Int} {n : Nat} : Yields U (Itr lo n) ad H ((List.range n).map fun i => D.int (lo + (i : Nat))) none := by
  refine ⟨_, _, by rw [List.length_map, List.length_range]; exact walk_range (lo := lo) (n := n), fun _ _ _ _ _ _ => trivial, ?_⟩
  intro i x H2 H3 ad2 O2 hi s S hw y
  obtain ⟨rfl, rfl⟩ := y
  refine ⟨.refl, S, .int (lo + (i : Nat)), ?_, rfl⟩
  rw [List.length_map, List.length_range] at hi
  simp [hi]
end
theorem PostI.of {U : Univ} {ad : List Addr} {H : Hp} {Rr : It → Hp → Prop} {E : XK} {r : R D} {f : D → Store → Option Itm} (h : PostI U ad H Rr E (r.bind fun d O => lift (f d O) O)) :
    Post U ad H (fun v H1 => ∃ ad1 O1 d it, Step ad H ad1 H1 ∧ Sim U ad1 O1 H1 ∧ Rep U ad1 H1 d v ∧ f d O1 = some it ∧ ∀ ad' H' J, Step ad1 H1 ad' H' → Sim U ad' O1 H' → Yields U J ad' H' it.ds it.w → watchOk it.w O1 → Rr J H') E r := by
  cases r with
  | ok d O =>
    intro ad' H' v s S r
    have h' : PostI U ad H Rr E (lift (f d O) O) := h
    cases e : f d O with
    | none => rw [e] at h'; exact h'.elim
    | some it =>
      rw [e] at h'
      exact ⟨ad', O, d, it, s, S, r, rfl.trans e, fun ad2 H2 J s2 S2 y w => h' ad2 H2 J (s.trans s2) S2 y w⟩
  | err x O => exact h
  | stuck => exact h
section
variable {U : Univ} {c : Cs} {k : Nat} {p pos : Pos} {tg e e2' : Expr} {m m2 : DE}
theorem siAny (he : SE U c k e m) : SI U c k tg e (iAny m) := by
  intro X W C
  obtain ⟨t, pt, f⟩ := he X W C
  obtain ⟨_, eu⟩ := C.u
  subst eu
  refine ⟨_, PI_or (pi_list pt) (PI_or (pi_tup pt) (pi_str pt)), fun ad O H σ sv Rr S r h => ?_⟩
  cases hm : m σ O with
  | stuck => rw [show iAny m σ O = (m σ O).bind fun d O1 => lift (itemsOf d O1) O1 from rfl, hm] at h; exact h.elim
  | err x O1 =>
    refine .inl (f ad O H σ sv _ S r ?_)
    rw [hm]
    have h' := h
    rw [show iAny m σ O = (m σ O).bind fun d O1 => lift (itemsOf d O1) O1 from rfl, hm] at h'
    exact h'
  | ok d O1 =>
    have h' := h
    rw [show iAny m σ O = (m σ O).bind fun d O1 => lift (itemsOf d O1) O1 from rfl, hm] at h'
    have h2 : PostI _ ad H Rr (fun cl d H' => W cl d sv H') (lift (itemsOf d O1) O1) := h'
    have fl : (∀ Q : VK, (∀ ad' H' v, Step ad H ad' H' → Sim _ ad' O1 H' → Rep _ ad' H' d v → Q v H') → t sv H Q) := fun Q hq => f ad O H σ sv Q S r (by rw [hm]; exact hq)
    cases d with
    | ptr kk =>
      have h3 : PostI _ ad H Rr (fun cl d H' => W cl d sv H') (lift (itemsPtr kk O1[kk]?) O1) := h2
      clear h2 h' h
      cases hO : O1[kk]? with
      | none => rw [hO] at h3; exact h3.elim
      | some dd =>
        rw [hO] at h3
        cases dd with
        | lst l =>
          refine .inl (fl _ fun ad' H' v s S' rv => ?_)
          obtain ⟨a, rfl, ha⟩ := rv
          obtain ⟨xs, hx, hr⟩ := S'.at_ kk a _ ha hO
          exact ⟨a, rfl, ⟨xs, .of hx⟩, h3 ad' H' _ s S' (yields_ptr ha) hO⟩
        | _ => exact h3.elim
    | lst l =>
      refine .inl (fl _ fun ad' H' v s S' rv => ?_)
      obtain ⟨a, xs, rfl, hx, hn, hr⟩ := rv
      exact ⟨a, rfl, ⟨xs, .of hx⟩, h2 ad' H' _ s S' (yields_list hr fun ad2 O2 H2 s2 S2 hw => .of (s2.keep a _ hx (fun _ z => nomatch z) hn).1) trivial⟩
    | rol l =>
      refine .inl (fl _ fun ad' H' v s S' rv => ?_)
      obtain ⟨a, xs, rfl, hx, hr⟩ := rv
      exact ⟨a, rfl, ⟨xs, hx.sq⟩, h2 ad' H' _ s S' (yields_list hr fun ad2 O2 H2 s2 S2 hw => (hx.keep s2).sq) trivial⟩
    | tup l =>
      refine .inr (.inl (fl _ fun ad' H' v s S' rv => ?_))
      obtain ⟨a, xs, rfl, hx, hn, hr⟩ := rv
      exact ⟨a, rfl, ⟨xs, .of hx⟩, h2 ad' H' _ s S' (yields_tup hr fun ad2 O2 H2 s2 S2 => .of (s2.keep a _ hx (fun _ z => nomatch z) hn).1) trivial⟩
    | rot l =>
      refine .inr (.inl (fl _ fun ad' H' v s S' rv => ?_))
      obtain ⟨a, xs, rfl, hx, hr⟩ := rv
      exact ⟨a, rfl, ⟨xs, hx.sq⟩, h2 ad' H' _ s S' (yields_tup hr fun ad2 O2 H2 s2 S2 => (hx.keep s2).sq) trivial⟩
    | str z =>
      refine .inr (.inr (fl _ fun ad' H' v s S' rv => ?_))
      cases rv
      exact ⟨z, rfl, h2 ad' H' _ s S' yields_str trivial⟩
    | _ => exact h2.elim
end
end CP
namespace CP
open PySem PySem.Spec PyProof.Rows L2

def rngItm (lo hi : Int) : Option Itm := if -(2 ^ 62) ≤ lo ∧ lo < 2 ^ 62 ∧ -(2 ^ 62) ≤ hi ∧ hi < 2 ^ 62 then some ⟨(List.range (hi - lo).toNat).map fun i => D.int (lo + (i : Nat)), none⟩ else none
def iRg1 (m : DE) : DI := fun σ O => (m σ O).bind fun d O1 => match d with
  | .int j => lift (rngItm 0 j) O1
  | _ => .stuck
def iRg2 (m m2 : DE) : DI := fun σ O => (m σ O).bind fun d O1 => (m2 σ O1).bind fun d2 O2 => match d, d2 with
  | .int i, .int j => lift (rngItm i j) O2
  | _, _ => .stuck
theorem PostI.bind {U : Univ} {ad : List Addr} {H : Hp} {Rr : It → Hp → Prop} {E : XK} {r : R D} {f : D → Store → R Itm} (hf : ∀ d O O' x, f d O ≠ .err x O' ∨ True) (h : PostI U ad H Rr E (r.bind f)) :
    Post U ad H (fun v H1 => ∃ ad1 O1 d, Step ad H ad1 H1 ∧ Sim U ad1 O1 H1 ∧ Rep U ad1 H1 d v ∧ PostI U ad1 H1 Rr E (f d O1)) E r := by
  cases r with
  | ok d O =>
    intro ad' H' v s S r
    refine ⟨ad', O, d, s, S, r, ?_⟩
    have h' : PostI U ad H Rr E (f d O) := h
    revert h'
    cases f d O with
    | ok it O2 => exact fun z ad2 H2 J s2 S2 y w => z ad2 H2 J (s.trans s2) S2 y w
    | err x O2 => exact fun z ad2 H2 c dx s2 => z ad2 H2 c dx (s.trans s2)
    | stuck => exact fun z => z
  | err x O => exact h
  | stuck => exact h
section
variable {U : Univ} {c : Cs} {k : Nat} {p pos : Pos} {tg e e2 : Expr} {m m2 : DE}
theorem siRange1 (hg : c.sc.names.lookup ("range" : Str) = some .globalImplicit) (hm : U.mg "range" = none) (he : SE U c k e m) (hs : ∀ env : PySem.Env, starEach [e] env = [(false, eval e env)] := by intro _; rfl) : SI U c k tg (.Call (.Name "range" p) [e] [] pos) (iRg1 m) := by
  intro X W C
  obtain ⟨t, pt, f⟩ := he X W C
  obtain ⟨_, eu⟩ := C.u
  subst eu
  refine ⟨_, pi_range1 (by show X.env.scope.names.lookup ("range" : Str) = _; rw [C.s]; exact hg) hm (pa_cons pt pa_nil (hs _)) (hs _), fun ad O H σ sv Rr S r h => ?_⟩
  refine f ad O H σ sv _ S r (Post.mono (PostI.bind (fun _ _ _ _ => .inr trivial) h) ?_)
  rintro v H1 ⟨ad1, O1, d, s1, S1, r1, h1⟩
  cases d with
  | int j =>
    have h1' : PostI _ ad1 H1 Rr (fun cl d H' => W cl d sv H') (lift (rngItm 0 j) O1) := h1
    unfold rngItm at h1'
    split at h1'
    · rename_i hb
      cases r1
      refine ⟨j, rfl, hb.2.2.1, hb.2.2.2, ?_⟩
      have e : (j - 0).toNat = j.toNat := by omega
      rw [e] at h1'
      exact h1' ad1 H1 _ .refl S1 yields_range trivial
    · exact h1'.elim
  | _ => exact h1.elim
theorem siRange2 (hg : c.sc.names.lookup ("range" : Str) = some .globalImplicit) (hm : U.mg "range" = none) (he : SE U c k e m) (he2 : SE U c k e2 m2) (hs : ∀ env : PySem.Env, starEach [e, e2] env = [(false, eval e env), (false, eval e2 env)] := by intro _; rfl) (hs2 : ∀ env : PySem.Env, starEach [e2] env = [(false, eval e2 env)] := by intro _; rfl) :
    SI U c k tg (.Call (.Name "range" p) [e, e2] [] pos) (iRg2 m m2) := by
  intro X W C
  obtain ⟨t, pt, f⟩ := he X W C
  obtain ⟨t', pt', f'⟩ := he2 X W C
  obtain ⟨_, eu⟩ := C.u
  subst eu
  refine ⟨_, pi_range2 (by show X.env.scope.names.lookup ("range" : Str) = _; rw [C.s]; exact hg) hm (pa_cons pt (pa_cons pt' pa_nil (hs2 _)) (by rw [hs, hs2])) (hs _) (hs2 _), fun ad O H σ sv Rr S r h => ?_⟩
  refine f ad O H σ sv _ S r (Post.mono (PostI.bind (fun _ _ _ _ => .inr trivial) h) ?_)
  rintro v H1 ⟨ad1, O1, d, s1, S1, r1, h1⟩
  refine f' ad1 O1 H1 σ sv _ S1 (r.keep s1) (Post.mono (PostI.bind (fun _ _ _ _ => .inr trivial) h1) ?_)
  rintro v2 H2 ⟨ad2, O2, d2, s2, S2, r2, h2⟩
  have r1' := r1.keep s2
  cases d with
  | int i =>
    cases d2 with
    | int j =>
      have h2' : PostI _ ad2 H2 Rr (fun cl d H' => W cl d sv H') (lift (rngItm i j) O2) := h2
      unfold rngItm at h2'
      split at h2'
      · rename_i hb
        cases r1'; cases r2
        exact ⟨i, j, rfl, hb, h2' ad2 H2 _ .refl S2 yields_range trivial⟩
      · exact h2'.elim
    | _ => exact h2.elim
  | _ => exact h2.elim
end

def Fl.loop (r : Fl) (f : Env → Store → Fl) : Fl := match r with
  | .nx σ O => f σ O
  | .ct σ O => f σ O
  | .bk σ O => .nx σ O
  | .rt d O => .rt d O
  | .er x σ O => .er x σ O
  | .stuck => .stuck
@[simp] theorem Fl.loop_nx (σ : Env) (O : Store) (f : Env → Store → Fl) : (Fl.nx σ O).loop f = f σ O := id rfl
@[simp] theorem Fl.loop_ct (σ : Env) (O : Store) (f : Env → Store → Fl) : (Fl.ct σ O).loop f = f σ O := id rfl
@[simp] theorem Fl.loop_bk (σ : Env) (O : Store) (f : Env → Store → Fl) : (Fl.bk σ O).loop f = .nx σ O := id rfl
@[simp] theorem Fl.loop_rt (d : D) (O : Store) (f : Env → Store → Fl) : (Fl.rt d O).loop f = .rt d O := id rfl
@[simp] theorem Fl.loop_er (x : Exn) (σ : Env) (O : Store) (f : Env → Store → Fl) : (Fl.er x σ O).loop f = .er x σ O := id rfl
@[simp] theorem Fl.loop_stuck (f : Env → Store → Fl) : Fl.stuck.loop f = .stuck := id rfl
noncomputable def forL (w : Option (Nat × D)) (g : Tg) (body : DS) : List D → Env → Store → Fl
  | [], σ, O => if watchOk w O then .nx σ O else .stuck
  | d :: r, σ, O => if watchOk w O then (match tgt g d O σ with
    | some σ1 => (body σ1 O).loop (forL w g body r)
    | none => .stuck) else .stuck
noncomputable def sFor (mi : DI) (g : Tg) (body : DS) : DS := fun σ O => (mi σ O).st σ fun it O1 => forL it.w g body it.ds σ O1
section
variable {U : Univ} {ad : List Addr} {H : Hp} {O : Store} {Dn : Ends} {W : WX}
theorem PostS.loop {r : Fl} {f : Env → Store → Fl} {N : L2.St → Hp → Prop} (h : PostS U ad H Dn W (r.loop f))
    (hn : ∀ sv1 H1 ad1 O1 σ1, Step ad H ad1 H1 → Sim U ad1 O1 H1 → RepE U ad1 H1 σ1 sv1 → PostS U ad1 H1 Dn W (f σ1 O1) → N sv1 H1) : PostS U ad H { Dn with nx := N, ct := N, bk := Dn.nx } W r := by
  cases r with
  | nx σ O => exact fun ad' H' sv s S r => hn sv H' ad' O σ s S r (PostS.step s h)
  | ct σ O => exact fun ad' H' sv s S r => hn sv H' ad' O σ s S r (PostS.step s h)
  | bk σ O => exact h
  | rt d O => exact h
  | er x σ O => exact h
  | stuck => exact h
theorem PostS.ofI {σ : Env} {sv : L2.St} (hr : RepE U ad H σ sv) {r : R Itm} {f : Itm → Store → Fl} {Rr : It → Hp → Prop} (h : PostS U ad H Dn W (r.st σ f))
    (hq : ∀ ad1 H1 O1 it J, Step ad H ad1 H1 → Sim U ad1 O1 H1 → Yields U J ad1 H1 it.ds it.w → watchOk it.w O1 → PostS U ad1 H1 Dn W (f it O1) → Rr J H1) : PostI U ad H Rr (fun cl d H' => W cl d sv H') r := by
  cases r with
  | ok it O => exact fun ad' H' J s S y w => hq ad' H' O it J s S y w (PostS.step s h)
  | err x O => exact fun ad' H' c dx s S r => h ad' H' sv c dx s S (hr.keep s) r
  | stuck => exact h
end
section
variable {U : Univ} {c : Cs} {k : Nat} {pos : Pos} {tg iter : Expr} {body : List Stmt} {mi : DI} {g : Tg} {mb : DS}
theorem sForIn (hi : SI U c k tg iter mi) (hg : SG U c tg g) (hb : SB U c k body mb) (hs : ∀ (env : PySem.Env) x, foldedSetIterable iter env x = pure x := by intro _ _; rfl) (hh : c.hot = false := by rfl) : SS U c k (.For tg iter body [] pos) (sFor mi g mb) := by
  intro X W C
  obtain ⟨t, pi, fi⟩ := hi X W C
  obtain ⟨tb, pb, fb⟩ := hb X W C
  refine ⟨_, ps_for C.po (C.calm hh) pi (hg X W k C) pb (hs _), fun ad O H σ sv Dn S r h => ?_⟩
  refine fi ad O H σ sv _ S r (PostS.ofI r h ?_)
  intro ad1 H1 O1 it J s1 S1 ⟨G, Y, w, hG, hY⟩ hw h1
  refine for_it w (fun i sv2 H2 => ∃ ad2 O2 σ2, Step ad1 H1 ad2 H2 ∧ Sim U ad2 O2 H2 ∧ RepE U ad2 H2 σ2 sv2 ∧ watchOk it.w O2 ∧ PostS U ad2 H2 Dn W (forL it.w g mb (it.ds.drop i) σ2 O2)) ⟨ad1, O1, σ, .refl, S1, r.keep s1, hw, h1⟩ ?_ ?_ ?_
  · rintro i sv2 H2 hi ⟨ad2, O2, σ2, s2, S2, r2, w2, h2⟩
    exact hG ad2 O2 H2 s2 S2 w2
  · rintro i x sv2 H2 H3 hi ⟨ad2, O2, σ2, s2, S2, r2, w2, h2⟩ y
    obtain ⟨s3, S3, d, ed, rd⟩ := hY i x H2 H3 ad2 O2 hi s2 S2 w2 y
    have hdrop : it.ds.drop i = d :: it.ds.drop (i + 1) := by
      rw [List.drop_eq_getElem_cons hi]
      rw [List.getElem?_eq_getElem hi] at ed
      cases ed; rfl
    rw [hdrop] at h2
    unfold forL at h2
    rw [if_pos w2] at h2
    cases et : tgt g d O2 σ2 with
    | none => rw [et] at h2; exact h2.elim
    | some σ3 =>
      rw [et] at h2
      refine tgt_run S3 (r2.keep s3) rd et fun vs r3 => ?_
      have h3 := PostS.step s3 h2
      refine fb ad2 O2 H3 σ3 _ _ S3 r3 (PostS.loop h3 ?_)
      intro sv4 H4 ad4 O4 σ4 s4 S4 r4 h4
      refine ⟨ad4, O4, σ4, (s2.trans s3).trans s4, S4, r4, ?_, h4⟩
      revert h4
      cases it.ds.drop (i + 1) with
      | nil =>
        intro h4
        unfold forL at h4
        split at h4
        · assumption
        · exact h4.elim
      | cons d' r' =>
        intro h4
        unfold forL at h4
        split at h4
        · assumption
        · exact h4.elim
  · rintro sv2 H2 ⟨ad2, O2, σ2, s2, S2, r2, w2, h2⟩
    rw [List.drop_length] at h2
    unfold forL at h2
    rw [if_pos w2] at h2
    exact h2 ad2 H2 sv2 .refl S2 r2
end

def whL (t : DT) (body : DS) : Nat → Env → Store → Fl
  | 0, _, _ => .stuck
  | n + 1, σ, O => (t σ O).st σ fun b O1 => if b = true then (body σ O1).loop (whL t body n) else .nx σ O1
/-- turns enough -/
def fuel : Nat := 10 ^ 9
def sWhile (t : DT) (body : DS) : DS := whL t body fuel
section
variable {U : Univ} {c : Cs} {k : Nat} {pos : Pos} {e : Expr} {body : List Stmt} {t : DT} {mb : DS}
theorem sWhileDo (ht : ST U c k e t) (hb : SB U c k body mb) : SS U c k (.While e body [] pos) (sWhile t mb) := by
  intro X W C
  obtain ⟨tt, pt, ft⟩ := ht X W C
  obtain ⟨tb, pb, fb⟩ := hb X W C
  refine ⟨_, ps_while C.po pt pb, fun ad O H σ sv Dn S r h => ?_⟩
  refine ⟨fun n sv2 H2 => ∃ ad2 O2 σ2, Step ad H ad2 H2 ∧ Sim U ad2 O2 H2 ∧ RepE U ad2 H2 σ2 sv2 ∧ PostS U ad2 H2 Dn W (whL t mb n σ2 O2), ⟨fuel, ad, O, σ, .refl, S, r, h⟩, ?_⟩
  rintro n sv2 H2 ⟨ad2, O2, σ2, s2, S2, r2, h2⟩
  cases n with
  | zero => exact h2.elim
  | succ n =>
    refine ft ad2 O2 H2 σ2 sv2 _ S2 r2 (PostT.mono (PostS.ofT r2 h2) ?_)
    rintro b H3 ⟨ad3, O3, s3, S3, h3⟩
    cases b with
    | false => exact h3 ad3 H3 sv2 .refl S3 (r2.keep s3)
    | true =>
      rw [if_pos rfl]
      refine ⟨fun sv4 H4 => ∃ ad4 O4 σ4, Step ad H ad4 H4 ∧ Sim U ad4 O4 H4 ∧ RepE U ad4 H4 σ4 sv4 ∧ PostS U ad4 H4 Dn W (whL t mb n σ4 O4), fun sv4 H4 q => ⟨n, Nat.lt_succ_self n, q⟩, ?_⟩
      refine fb ad3 O3 H3 σ2 sv2 _ S3 (r2.keep s3) (PostS.loop h3 ?_)
      intro sv4 H4 ad4 O4 σ4 s4 S4 r4 h4
      exact ⟨ad4, O4, σ4, (s2.trans s3).trans s4, S4, r4, h4⟩
end

section
variable (U : Univ) (W : WX)
def tG (m : DE) : TE := fun sv H Q => ∃ ad O σ, Sim U ad O H ∧ RepE U ad H σ sv ∧ Post U ad H Q (fun cl d H' => W cl d sv H') (m σ O)
def tGT (m : DT) : TT := fun sv H Q => ∃ ad O σ, Sim U ad O H ∧ RepE U ad H σ sv ∧ PostT U ad H Q (fun cl d H' => W cl d sv H') (m σ O)
def tGI (m : DI) : TI := fun sv H Rr => ∃ ad O σ, Sim U ad O H ∧ RepE U ad H σ sv ∧ PostI U ad H Rr (fun cl d H' => W cl d sv H') (m σ O)
end
section
variable {U : Univ} {c : Cs} {k : Nat} {e tg : Expr} {X : Cx} {W : WX}
theorem SE.pe {m : DE} (h : SE U c k e m) (C : CtxOk U c k X W) : PE X e (tG U W m) := by
  obtain ⟨t, p, f⟩ := h X W C
  exact ⟨fun pins s sv H Q I ⟨ad, O, σ, S, r, q⟩ => p.run pins s sv H Q I (f ad O H σ sv Q S r q)⟩
theorem ST.pt {m : DT} (h : ST U c k e m) (C : CtxOk U c k X W) : PT X e (tGT U W m) := by
  obtain ⟨t, p, f⟩ := h X W C
  exact ⟨fun pins s sv H Q I ⟨ad, O, σ, S, r, q⟩ => p.run pins s sv H Q I (f ad O H σ sv Q S r q)⟩
theorem SI.pi {m : DI} (h : SI U c k tg e m) (C : CtxOk U c k X W) : PI X tg e (tGI U W m) := by
  obtain ⟨t, p, f⟩ := h X W C
  exact ⟨fun pins s sv H Rr I ⟨ad, O, σ, S, r, q⟩ => p.run pins s sv H Rr I (f ad O H σ sv Rr S r q)⟩
/-- the tests of a clause: none or one -/
def SIfs (U : Univ) (c : Cs) (k : Nat) (ifs : List Expr) (m : DT) : Prop := ∀ (X : Cx) (W : WX), CtxOk U c k X W → PTs X ifs (tGT U W m)
def tTrue : DT := fun _ O => .ok true O
theorem ifsNil : SIfs U c k [] tTrue := fun X W C => ⟨fun pins s sv H Q I ⟨ad, O, σ, S, r, q⟩ => pts_nil.run pins s sv H Q I (q ad H .refl S)⟩
theorem ifsOne {m : DT} (h : ST U c k e m) : SIfs U c k [e] m := fun X W C => pts_one (h.pt C)
end

def wipeE (σ : Env) : List Nat → Env
  | [] => σ
  | v :: vs => (wipeE σ vs).set v none
/-- what a part of a comprehension gives, the store cut back to what it was but for its first n + 1 things -/
noncomputable def snip {α : Type} (O0 : Store) (acc : List D) (ok : α → Bool) (r : R α) : Option (α × Store) := match r with
  | .ok a O => if O.take (O0.length + 1) = O.take O0.length ++ [.lst acc] ∧ ok a = true ∧ okCh O0 (O.take O0.length) then some (a, O.take O0.length) else none
  | _ => none
/-- one item: the target, the test, the element -/
noncomputable def lcTurn (g : Tg) (vs : List Nat) (tt : DT) (el : DE) (σ : Env) (d : D) (acc : List D) (O : Store) : Option (List D × Store) :=
  (tgt g d (O ++ [.lst acc]) (wipeE σ vs)).bind fun σ1 => (snip O acc (fun _ => true) (tt σ1 (O ++ [.lst acc]))).bind fun bO => if bO.1 = true then
    (snip bO.2 acc (okD bO.2.length) (el σ1 (bO.2 ++ [.lst acc]))).bind fun yO => if acc.length < sizeLine then some (acc ++ [yO.1], yO.2) else none
    else some (acc, bO.2)
noncomputable def lcL (w : Option (Nat × D)) (turn : D → List D → Store → Option (List D × Store)) : List D → List D → Store → R (List D)
  | [], acc, O => if watchOk w O then .ok acc O else .stuck
  | d :: r, acc, O => if watchOk w O then (match turn d acc O with
    | some q => lcL w turn r q.1 q.2
    | none => .stuck) else .stuck
noncomputable def eLc (mi : DI) (g : Tg) (vs : List Nat) (tt : DT) (el : DE) : DE := fun σ O => match mi σ O with
  | .ok it O1 => (lcL it.w (lcTurn g vs tt el σ) it.ds [] O1).bind fun acc O2 => .ok (.lst acc) O2
  | .err x O1 => .err x O1
  | .stuck => .stuck
section
variable {U : Univ} {ad : List Addr} {H : Hp} {O : Store}
theorem wipeE_len (σ : Env) : ∀ vs : List Nat, (wipeE σ vs).length = σ.length
  | [] => rfl
  | v :: vs => by unfold wipeE; rw [List.length_set]; exact wipeE_len σ vs
theorem RepE.wipe {σ : Env} {sv : L2.St} (r : RepE U ad H σ sv) : ∀ vs : List Nat, RepE U ad H (wipeE σ vs) (L2.wipe sv vs)
  | [] => r
  | v :: vs => by
    have ih := RepE.wipe r vs
    refine ⟨by unfold wipeE L2.wipe; rw [List.length_set, List.length_set]; exact ih.len, fun i d e => ?_⟩
    unfold wipeE at e
    unfold L2.wipe
    by_cases hi : v = i
    · subst hi
      by_cases hl : v < (wipeE σ vs).length
      · rw [List.getElem?_set_self hl] at e; cases e
      · rw [List.getElem?_eq_none (by simpa using hl)] at e; cases e
    · rw [List.getElem?_set_ne hi] at e ⊢
      exact ih.at_ i d e
theorem wipe_at (sv : L2.St) : ∀ (vs : List Nat) (i : Nat), (L2.wipe sv vs)[i]? = if i ∈ vs ∧ i < sv.length then some none else sv[i]?
  | [], i => by simp [L2.wipe]
  | v :: vs, i => by
    unfold L2.wipe
    have ih := wipe_at sv vs i
    by_cases hv : v = i
    · subst hv
      by_cases hl : v < sv.length
      · rw [List.getElem?_set_self (by rw [wipe_length]; exact hl), if_pos ⟨List.mem_cons_self, hl⟩]
      · rw [List.getElem?_eq_none (by rw [List.length_set, wipe_length]; omega), if_neg (fun z => hl z.2), List.getElem?_eq_none (by omega)]
    · rw [List.getElem?_set_ne hv, ih]
      by_cases hm : i ∈ vs
      · by_cases hl : i < sv.length
        · rw [if_pos ⟨hm, hl⟩, if_pos ⟨List.mem_cons_of_mem _ hm, hl⟩]
        · rw [if_neg (fun z => hl z.2), if_neg (fun z => hl z.2)]
      · rw [if_neg (fun z => hm z.1), if_neg (fun z => by
          rcases List.mem_cons.mp z.1 with e | e
          · exact hv e.symm
          · exact hm e)]
theorem setAll_len : ∀ (js : List Nat) (xs : List V) (sv : L2.St), (setAll sv js xs).length = sv.length
  | [], _, _ => by unfold setAll; rfl
  | _ :: _, [], _ => by unfold setAll; rfl
  | i :: js, x :: xs, sv => by unfold setAll; rw [setAll_len js xs]; simp
theorem setAll_out : ∀ (js : List Nat) (xs : List V) (sv : L2.St) (i : Nat), i ∉ js → (setAll sv js xs)[i]? = sv[i]?
  | [], _, _, _, _ => by unfold setAll; rfl
  | _ :: _, [], _, _, _ => by unfold setAll; rfl
  | j :: js, x :: xs, sv, i, h => by
    unfold setAll
    rw [setAll_out js xs _ i (fun z => h (List.mem_cons_of_mem _ z)), List.getElem?_set_ne (fun e => h (by rw [e]; exact List.mem_cons_self))]
theorem wipe_set {sv : L2.St} {vs js : List Nat} {xs : List V} (h : ∀ i ∈ js, i ∈ vs) : L2.wipe (setAll (L2.wipe sv vs) js xs) vs = L2.wipe sv vs := by
  refine List.ext_getElem? fun i => ?_
  rw [wipe_at, setAll_len, wipe_length]
  by_cases hi : i ∈ vs
  · by_cases hl : i < sv.length
    · rw [if_pos ⟨hi, hl⟩, wipe_at, if_pos ⟨hi, hl⟩]
    · rw [if_neg (fun z => hl z.2), List.getElem?_eq_none (by rw [setAll_len, wipe_length]; omega), List.getElem?_eq_none (by rw [wipe_length]; omega)]
  · rw [if_neg (fun z => hi z.1), setAll_out _ _ _ _ (fun z => hi (h i z))]
mutual
theorem okD_mono {n m : Nat} (h : n ≤ m) : ∀ {d : D}, okD n d = true → okD m d = true
  | .ptr k, q => decide_eq_true (Nat.lt_of_lt_of_le (of_decide_eq_true q) h)
  | .tup _, q => okDs_mono h (ds := _) q
  | .rot _, q => okDs_mono h (ds := _) q
  | .lst _, q => okDs_mono h (ds := _) q
  | .rol _, q => okDs_mono h (ds := _) q
  | .dic _ _ _, q => okDs_mono h (ds := _) q
  | .ins _ _ _, q => okDs_mono h (ds := _) q
  | .exc _ _ _ _, q => okDs_mono h (ds := _) q
  | .fdc _ _, q => okDs_mono h (ds := _) q
  | .non, _ => rfl
  | .bl _, _ => rfl
  | .int _, _ => rfl
  | .str _, _ => rfl
  | .ty _, _ => rfl
  | .glo _, _ => rfl
theorem okDs_mono {n m : Nat} (h : n ≤ m) : ∀ {ds : List D}, okDs n ds = true → okDs m ds = true
  | [], _ => rfl
  | _ :: _, q => Bool.and_eq_true_iff.mpr ⟨okD_mono h (Bool.and_eq_true_iff.mp q).1, okDs_mono h (Bool.and_eq_true_iff.mp q).2⟩
end
theorem okDs_app {n : Nat} : ∀ {a b : List D}, okDs n a = true → okDs n b = true → okDs n (a ++ b) = true
  | [], _, _, h => h
  | _ :: _, _, q, h => Bool.and_eq_true_iff.mpr ⟨(Bool.and_eq_true_iff.mp q).1, okDs_app (Bool.and_eq_true_iff.mp q).2 h⟩
/-- behind a part of a comprehension: what was laid in the store is let go -/
theorem snip_at {p : Addr} {O2 O3 : Store} {acc : List D} {ad' : List Addr} {H2 H3 : Hp} (S2 : Sim U (ad ++ [p]) (O2 ++ [.lst acc]) H2) (s : Step (ad ++ [p]) H2 ad' H3) (S3 : Sim U ad' O3 H3)
    (c1 : O3.take (O2.length + 1) = O3.take O2.length ++ [.lst acc]) (c3 : okCh O2 (O3.take O2.length)) : Sim U (ad ++ [p]) (O3.take O2.length ++ [.lst acc]) H3 := by
  have hn : ad.length = O2.length := by have := S2.len; simpa using this
  obtain ⟨l, rfl⟩ := s.pre
  have e : (ad ++ [p]).length = O2.length + 1 := by simp [hn]
  have key := S3.cutad (ad := ad ++ [p]) (l := l) (fun i d h => ?_)
  · rw [e, c1] at key
    exact key
  · rw [e, c1] at h
    rw [e]
    have hl : (O3.take O2.length).length = O2.length := by
      have := congrArg List.length c1
      rw [List.length_append, List.length_take, List.length_take] at this
      rw [List.length_take]
      simp at this
      omega
    by_cases hi : i < O2.length
    · rw [List.getElem?_append_left (by rw [hl]; exact hi)] at h
      rcases c3 i d h with z | z
      · have := S2.okGet (i := i) (d := d) (by rw [List.getElem?_append_left hi]; exact z)
        rw [e] at this
        exact this
      · exact okD_mono (Nat.le_succ _) z
    · rw [List.getElem?_append_right (by rw [hl]; omega)] at h
      have h0 : i - (O3.take O2.length).length = 0 := by
        have := (List.getElem?_eq_some_iff.mp h).1
        simp at this
        rw [List.length_take]
        omega
      rw [h0] at h
      simp at h
      subst h
      have := S2.okGet (i := O2.length) (d := .lst acc) (by rw [List.getElem?_append_right (Nat.le_refl _)]; simp)
      rw [e] at this
      exact this
theorem snip_some {α : Type} {O0 : Store} {acc : List D} {ok : α → Bool} {r : R α} {a : α} {O' : Store} (h : snip O0 acc ok r = some (a, O')) :
    ∃ O, r = .ok a O ∧ O.take (O0.length + 1) = O.take O0.length ++ [.lst acc] ∧ ok a = true ∧ okCh O0 (O.take O0.length) ∧ O' = O.take O0.length := by
  unfold snip at h
  split at h
  · rename_i a' O
    split at h
    · rename_i hc
      cases h
      exact ⟨O, rfl, hc.1, hc.2.1, hc.2.2, rfl⟩
    · cases h
  · cases h
end
/-- the names of a comprehension's block -/
def blkCs (c : Cs) (scope : Scope) : Cs := ⟨c.N, relS scope c.sc, scope, c.own, c.hot⟩
theorem CtxOk.blk {U : Univ} {c : Cs} {k : Nat} {X : Cx} {W : WX} (C : CtxOk U c k X W) (scope : Scope) (s : Shared) (H : Hp) (cl : List (Str × Addr)) (Ca : Addr) (fp : List Addr) :
    CtxOk U (blkCs c scope) k (X.blk s H scope (compEnvC scope cl Ca X.env) fp) (fun _ _ _ _ => False) where
  u := C.u
  n := C.n
  s := by
    show relS scope X.env.scope = relS scope c.sc
    rw [C.s]
  nd := C.nd
  calm := C.calm
  tk := takes0
  po := PassesOwn.never
  room := C.room
  hd := C.hd
  gd := C.gd
  fn := fun x h => by
    have h' : scope.names.lookup x = some .cell := h
    show (scope.names.lookup x == some .cell) = true
    rw [h']; rfl
  code := fun z e => C.code z e
section
variable {U : Univ} {c : Cs} {k : Nat} {pos : Pos} {tg iter elt : Expr} {ifs : List Expr} {scope : Scope} {own : List (Str × Nat)} {mi : DI} {g : Tg} {tt : DT} {el : DE}
/-- what holds between two turns of a comprehension: D the new list -/
def LcInv (U : Univ) (ad1 : List Addr) (B : Hp) (D : Addr) (w : Option (Nat × CP.D)) (H : Hp) (O : Store) (acc : List CP.D) : Prop :=
  Sim U (ad1 ++ [D]) (O ++ [.lst acc]) H ∧ Step (ad1 ++ [D]) B (ad1 ++ [D]) H ∧ okDs ad1.length acc = true ∧ (∀ (i : Nat) (d : CP.D), O[i]? = some d → okD ad1.length d = true) ∧ watchOk w O
theorem watch_app {w : Option (Nat × D)} {O : Store} {d : D} (h : watchOk w O) : watchOk w (O ++ [d]) := by
  cases w with
  | none => trivial
  | some p =>
    have h' : O[p.1]? = some p.2 := h
    show (O ++ [d])[p.1]? = some p.2
    rw [List.getElem?_append_left (List.getElem?_eq_some_iff.mp h').1]
    exact h'
/-- one turn of a comprehension -/
theorem lc_turn {ad1 : List Addr} {H1 : Hp} {D : Addr} {w : Option (Nat × CP.D)} {σ : Env} {sv : L2.St} {vs : List Nat} {H2 : Hp} {O2 : Store} {acc : List CP.D} {x : V} {d : CP.D} {acc' : List CP.D} {O' : Store} {N : Hp → Prop}
    (I : LcInv U ad1 H1 D w H2 O2 acc) (rσ : RepE U (ad1 ++ [D]) H2 σ sv) (rd : Rep U (ad1 ++ [D]) H2 d x) (hsl : ∀ i ∈ g.slots, i ∈ vs) (e : lcTurn g vs tt el σ d acc O2 = some (acc', O'))
    (hN : ∀ H', LcInv U ad1 H1 D none H' O' acc' → N H') :
    gOf U.K g x (L2.wipe sv vs) H2 fun σ2 H3 => L2.wipe σ2 vs = L2.wipe sv vs ∧ tGT U (fun _ _ _ _ => False) tt σ2 H3 fun b H4 =>
      if b = true then tG U (fun _ _ _ _ => False) el σ2 H4 fun y H5 => ∃ ac, H5 D = some (.lst ac) ∧ ac.length < sizeLine ∧ N (upd H5 D (.lst (ac ++ [y]))) else N H4 := by
  obtain ⟨S2, s2, oa, oO, hw⟩ := I
  have hn : ad1.length = O2.length := by have := S2.len; simpa using this
  obtain ⟨σ1, e1, e⟩ := Option.bind_eq_some_iff.mp (show (tgt g d (O2 ++ [.lst acc]) (wipeE σ vs)).bind _ = some (acc', O') from e)
  refine tgt_run S2 (rσ.wipe vs) rd e1 fun xs r1 => ⟨wipe_set hsl, ad1 ++ [D], O2 ++ [.lst acc], σ1, S2, r1, ?_⟩
  obtain ⟨⟨b, O3⟩, e2, e⟩ := Option.bind_eq_some_iff.mp e
  obtain ⟨Oa, ha, c1, _, c3, rfl⟩ := snip_some e2
  rw [ha]
  intro ad' H3 s3 S3
  have S3' := snip_at S2 s3 S3 c1 c3
  have s23 := s2.trans s3.cut
  have oO3 : ∀ (i : Nat) (d : CP.D), (Oa.take O2.length)[i]? = some d → okD ad1.length d = true := fun i d h => by
    rcases c3 i d h with z | z
    · exact oO i d z
    · rw [hn]; exact z
  cases b with
  | false =>
    rw [if_neg Bool.false_ne_true]
    have e' : some (acc, Oa.take O2.length) = some (acc', O') := e
    cases e'
    exact hN H3 ⟨S3', s23, oa, oO3, trivial⟩
  | true =>
    rw [if_pos rfl]
    rw [if_pos rfl] at e
    obtain ⟨⟨y, O4⟩, e3, e⟩ := Option.bind_eq_some_iff.mp e
    obtain ⟨Ob, hb, d1, d2, d3, rfl⟩ := snip_some e3
    refine ⟨ad1 ++ [D], Oa.take O2.length ++ [.lst acc], σ1, S3', r1.keep s3.cut, ?_⟩
    have e' : (if acc.length < sizeLine then some (acc ++ [y], Ob.take (Oa.take O2.length).length) else none) = some (acc', O') := e
    split at e'
    · rename_i hz
      cases e'
      have hb' : el σ1 (Oa.take O2.length ++ [.lst acc]) = .ok y Ob := hb
      rw [hb']
      intro ad4 H4 v s4 S4 r4
      have hl3 : (Oa.take O2.length).length = ad1.length := by have := S3'.len; simp at this; rw [List.length_take]; omega
      have S4' := snip_at S3' s4 S4 d1 d3
      obtain ⟨l, rfl⟩ := s4.pre
      have rv : Rep U (ad1 ++ [D]) H4 y v := Rep.cutad (okD_mono (by simp) (hl3 ▸ d2)) r4
      have hD : (ad1 ++ [D])[ad1.length]? = some D := by simp
      have hl4 : (Ob.take (Oa.take O2.length).length).length = ad1.length := by have := S4'.len; simp at this; rw [List.length_take]; omega
      obtain ⟨ac, hac, rac⟩ := S4'.at_ ad1.length D (.lst acc) hD (by rw [List.getElem?_append_right (by omega), hl4]; simp)
      refine ⟨ac, hac, by rw [← rac.length]; exact hz, hN _ ⟨?_, ?_, ?_, ?_, trivial⟩⟩
      · have hs := S4'.put (o := .lst (ac ++ [v])) (d := .lst (acc ++ [y])) hD ⟨_, upd_same, (rac.append (.cons rv .nil)).keep (Step.put hD)⟩
        have el : (Ob.take (Oa.take O2.length).length ++ [CP.D.lst acc]).set ad1.length (.lst (acc ++ [y])) = Ob.take (Oa.take O2.length).length ++ [.lst (acc ++ [y])] := by
          rw [List.set_append_right _ _ (by omega), hl4]
          simp
        rw [el] at hs
        exact hs
      · exact (s23.trans s4.cut).trans (Step.put hD)
      · exact okDs_app oa (Bool.and_eq_true_iff.mpr ⟨hl3 ▸ d2, rfl⟩)
      · intro i d h
        rcases d3 i d h with z | z
        · exact oO3 i d z
        · rw [← hl3]; exact z
    · cases e'
theorem lcL_watch {ad : List Addr} {H : Hp} {Q : VK} {E : XK} {w : Option (Nat × CP.D)} {turn : CP.D → List CP.D → Store → Option (List CP.D × Store)} {l acc : List CP.D} {O : Store} {f : List CP.D → Store → R CP.D} (h : Post U ad H Q E ((lcL w turn l acc O).bind f)) : watchOk w O := by
  by_cases hw : watchOk w O
  · exact hw
  · cases l with
    | nil => unfold lcL at h; rw [if_neg hw] at h; exact h.elim
    | cons d r => unfold lcL at h; rw [if_neg hw] at h; exact h.elim
/-- the turns of a comprehension and their end -/
theorem lc_run {ad1 : List Addr} {H1 : Hp} {O1 : Store} {J : It} {it : Itm} {σ : Env} {sv : L2.St} {vs : List Nat} {Qd : V → Hp → Prop} {E : XK} {D : Addr} (S1 : Sim U ad1 O1 H1) (r1 : RepE U ad1 H1 σ sv) (y : Yields U J ad1 H1 it.ds it.w) (hw : watchOk it.w O1) (hD : H1 D = none)
    (hsl : ∀ i ∈ g.slots, i ∈ vs) (h : Post U ad1 H1 Qd E ((lcL it.w (lcTurn g vs tt el σ) it.ds [] O1).bind fun acc O2 => .ok (.lst acc) O2)) :
    ∃ W : Nat → Nat → Hp → Prop, (∃ m, W 0 m (upd H1 D (.lst []))) ∧ ∀ i m H, W i m H →
      (J.stop i H ∧ Qd (.ref D) H) ∨ (J.go i H ∧ ∃ Nx : Hp → Prop, (∀ H', Nx H' → ∃ m', m' < m ∧ W (i + 1) m' H') ∧ ∀ x H', J.yld i H x H' → gOf U.K g x (L2.wipe sv vs) H' fun σ2 H2 => L2.wipe σ2 vs = L2.wipe sv vs ∧ tGT U (fun _ _ _ _ => False) tt σ2 H2 fun b H3 =>
        if b = true then tG U (fun _ _ _ _ => False) el σ2 H3 fun y H4 => ∃ acc, H4 D = some (.lst acc) ∧ acc.length < sizeLine ∧ Nx (upd H4 D (.lst (acc ++ [y]))) else Nx H3) := by
  obtain ⟨G, Y, w, hG, hY⟩ := y
  have al : Step ad1 H1 (ad1 ++ [D]) (upd H1 D (.lst [])) := Step.alloc hD
  refine lc_it w (fun i H2 => ∃ O2 acc, LcInv U ad1 (upd H1 D (.lst [])) D it.w H2 O2 acc ∧ Post U ad1 H1 Qd E ((lcL it.w (lcTurn g vs tt el σ) (it.ds.drop i) acc O2).bind fun acc O2 => .ok (.lst acc) O2))
    ⟨O1, [], ⟨cell_alloc S1 hD .nil, .refl, rfl, fun i d e => S1.okGet e, hw⟩, h⟩ ?_ ?_ ?_
  · rintro i H2 hi ⟨O2, acc, I, h2⟩
    exact hG _ _ H2 (al.trans I.2.1) I.1 (watch_app I.2.2.2.2)
  · rintro i x H2 H3 hi ⟨O2, acc, I, h2⟩ yy
    obtain ⟨s3, S3, d, ed, rd⟩ := hY i x H2 H3 _ _ hi (al.trans I.2.1) I.1 (watch_app I.2.2.2.2) yy
    have hdrop : it.ds.drop i = d :: it.ds.drop (i + 1) := by
      rw [List.drop_eq_getElem_cons hi]
      rw [List.getElem?_eq_getElem hi] at ed
      cases ed; rfl
    rw [hdrop] at h2
    unfold lcL at h2
    rw [if_pos I.2.2.2.2] at h2
    cases et : lcTurn g vs tt el σ d acc O2 with
    | none => rw [et] at h2; exact h2.elim
    | some q =>
      rw [et] at h2
      have I3 : LcInv U ad1 (upd H1 D (.lst [])) D it.w H3 O2 acc := ⟨S3, I.2.1.trans s3, I.2.2.1, I.2.2.2.1, I.2.2.2.2⟩
      refine lc_turn (acc' := q.1) (O' := q.2) I3 ((r1.keep al).keep I3.2.1) rd hsl et fun H' I' => ⟨q.2, q.1, ⟨I'.1, I'.2.1, I'.2.2.1, I'.2.2.2.1, ?_⟩, h2⟩
      exact lcL_watch h2
  · rintro H2 ⟨O2, acc, I, h2⟩
    rw [List.drop_length] at h2
    unfold lcL at h2
    rw [if_pos I.2.2.2.2] at h2
    have hn : ad1.length = O2.length := by have := I.1.len; simpa using this
    have hDx : (ad1 ++ [D])[ad1.length]? = some D := by simp
    obtain ⟨xs, hx, rx⟩ := I.1.at_ ad1.length D (.lst acc) hDx (by rw [List.getElem?_append_right (by omega), hn]; simp)
    have Sc := I.1.cutad (ad := ad1) (l := [D]) (fun i d e => by
      rw [hn, List.take_left] at e
      exact I.2.2.2.1 i d e)
    rw [hn, List.take_left] at Sc
    exact h2 ad1 H2 _ (al.trans I.2.1).cut Sc ⟨D, xs, rfl, hx, S1.out hD, Reps.cutad I.2.2.1 rx⟩
theorem postI_of {ad : List Addr} {H : Hp} {Q : VK} {E : XK} {r : R Itm} {f : Itm → Store → R CP.D} {Rr : It → Hp → Prop}
    (h : Post U ad H Q E (match r with
      | .ok it O1 => f it O1
      | .err x O1 => .err x O1
      | .stuck => .stuck)) (hq : ∀ ad1 H1 O1 it J, Step ad H ad1 H1 → Sim U ad1 O1 H1 → Yields U J ad1 H1 it.ds it.w → watchOk it.w O1 → Post U ad1 H1 Q E (f it O1) → Rr J H1) : PostI U ad H Rr E r := by
  cases r with
  | ok it O => exact fun ad' H' J s S y w => hq ad' H' O it J s S y w (Post.step s h)
  | err x O => exact h
  | stuck => exact h
theorem sLc (hi : SI U c k tg iter mi) (hg : SG U (blkCs c scope) tg g) (ht : SIfs U (blkCs c scope) k ifs tt) (he : SE U (blkCs c scope) k elt el) (ok : blkC c.N c.sc scope own = true) (hsl : ∀ i ∈ g.slots, i ∈ own.map (·.2))
    (hs : ∀ (env : PySem.Env) x, foldedSetIterable iter env x = pure x := by intro _ _; rfl) (hh : c.hot = false := by rfl) : SE U c k (.ListComp elt [⟨tg, iter, ifs, 0⟩] scope pos) (eLc mi g (own.map (·.2)) tt el) := by
  intro X W C
  obtain ⟨ti, pi, fi⟩ := hi X W C
  refine ⟨_, pe_lc (own := own) (C.calm hh) (by rw [C.n]; exact C.nd) pi (by rw [C.n, C.s]; exact blkOk_by ok) (fun s H Ca cl fp => hg _ _ k (C.blk scope s H cl Ca fp)) (fun s H Ca cl fp => ht _ _ (C.blk scope s H cl Ca fp)) (fun s H Ca cl fp => he.pe (C.blk scope s H cl Ca fp)) (hs _), ?_⟩
  intro ad O H σ sv Q S r h
  refine fi ad O H σ sv _ S r (postI_of h fun ad1 H1 O1 it J s1 S1 y hw h1 => ?_)
  intro D hD
  exact lc_run S1 (r.keep s1) y hw hD hsl h1
/-- name = [..] on one line -/
theorem sSetLc {i : Nat} {y : Str} {py spos : Pos} (hi : SI U c k tg iter mi) (hg : SG U (blkCs c scope) tg g) (ht : SIfs U (blkCs c scope) k ifs tt) (he : SE U (blkCs c scope) k elt el) (ok : blkC c.N c.sc scope own = true) (hsl : ∀ i ∈ g.slots, i ∈ own.map (·.2))
    (hy : c.N[i]? = some y) (hyl : c.sc.names.lookup y = some .local) (hk : c.sc.kind = .function) (hl : (py.line == pos.line) = true) (ha : (scope.names.any fun (n, k) => n == y && (k == .local || k == .cell)) = false) (hln : spos.line = spos.line)
    (hs : ∀ (env : PySem.Env) x, foldedSetIterable iter env x = pure x := by intro _ _; rfl) (hh : c.hot = false := by rfl) : SS U c k (.Assign [.Name y py] (.ListComp elt [⟨tg, iter, ifs, 0⟩] scope pos) spos) (sSet i (eLc mi g (own.map (·.2)) tt el)) := by
  intro X W C
  obtain ⟨ti, pi, fi⟩ := hi X W C
  refine ⟨_, ps_setLc (i := i) (own := own) (C.calm hh) (by rw [C.n]; exact C.nd) (by rw [C.n]; exact hy) (by rw [C.s]; exact hyl) (sw_true (by rw [C.s]; exact hk) (by rw [C.s]; exact hyl) hl ha) pi (by rw [C.n, C.s]; exact blkOk_by ok) (fun s H Ca cl fp => hg _ _ k (C.blk scope s H cl Ca fp)) (fun s H Ca cl fp => ht _ _ (C.blk scope s H cl Ca fp)) (fun s H Ca cl fp => he.pe (C.blk scope s H cl Ca fp)) (hs _), ?_⟩
  intro ad O H σ sv Dn S r h
  have h' := PostS.of r h
  refine fi ad O H σ sv _ S r (postI_of h' fun ad1 H1 O1 it J s1 S1 y hw h1 => ?_)
  intro D hD
  refine lc_run (Qd := fun x H1 => gName i x sv H1 Dn.nx) (E := fun cl d H' => W cl d sv H') S1 (r.keep s1) y hw hD hsl (Post.mono h1 ?_)
  rintro v H2 ⟨ad2, O2, d, s2, S2, r2, h2⟩
  exact h2 ad2 H2 _ .refl S2 ((r.keep s2).set i r2)
end
end CP
namespace CP
open PySem PySem.Spec PyProof.Rows L2
open AutoSeq1 (wpAny_loadPart')

inductive Src where
  | lst (a : Addr)
  | tup (a : Addr)
  | str (x : Str)
def Src.val : Src → V
  | .lst a => .ref a
  | .tup a => .ref a
  | .str x => .str x
def Src.fp : Src → List Addr
  | .lst a => [a]
  | .tup a => [a]
  | .str _ => []
def Src.on (K : PySem.W.Frag) (H : Hp) : Src → List V → Prop
  | .lst a, xs => SqL K H a xs
  | .tup a, xs => SqT K H a xs
  | .str x, xs => xs = x.cps.toList.map fun n => V.str ⟨#[n]⟩
def Src.it (t : Tok) (h : Heap) (p : Addr) (i : Nat) : Src → Prop
  | .lst a => h.IsListIter p a i
  | .tup a => h.IsTupleIter p a i
  | .str x => h.IsStrIter p (strIterType x) x t i
theorem Src.it_keep {t : Tok} {h h' : Heap} {p : Addr} {i : Nat} : ∀ {s : Src}, s.it t h p i → (∀ o, h.get? p = some o → h'.get? p = some o) → s.it t h' p i
  | .lst _, x, e => Heap.IsListIter.at x e
  | .tup _, x, e => Heap.IsTupleIter.at x e
  | .str _, x, e => let ⟨o, ho, r⟩ := x; ⟨o, e o ho, r⟩
theorem Src.it_obj {t : Tok} {h : Heap} {p : Addr} {i : Nat} : ∀ {s : Src}, s.it t h p i → ∃ o, h.get? p = some o ∧ ∀ v, o.data ≠ .cell v
  | .lst _, ⟨o, e, _, d⟩ => ⟨o, e, fun v z => by rw [d] at z; cases z⟩
  | .tup _, ⟨o, e, _, d⟩ => ⟨o, e, fun v z => by rw [d] at z; cases z⟩
  | .str _, ⟨o, e, _, d⟩ => ⟨o, e, fun v z => by rw [d] at z; cases z⟩
section
variable {X : Cx} {pins : List (Addr × Obj)} {σ : L2.St} {H : Hp} {s : Shared}
theorem Src.on_inj (I : Inv X pins σ H s) {c : Src} {xs ys : List V} (h : c.on X.K H xs) (h' : c.on X.K H ys) : xs = ys := by
  cases c with
  | lst a => exact I.list_inj h h'
  | tup a => exact I.tuple_inj h h'
  | str x => exact h.trans h'.symm
theorem Src.lt (I : Inv X pins σ H s) {c : Src} {xs : List V} (h : c.on X.K H xs) : ∀ b ∈ c.fp, b < s.heap.objs.size := by
  cases c with
  | lst a =>
    obtain ⟨its, rv, p, hz⟩ := I.list h
    intro b hb
    rw [List.mem_singleton.mp hb]
    exact p.lt
  | tup a =>
    obtain ⟨its, rv, p, hz⟩ := I.tuple h
    obtain ⟨o, e, _⟩ := (show s.heap.IsTuple a its.toArray from p)
    intro b hb
    rw [List.mem_singleton.mp hb]
    exact Heap.lt_size e
  | str x => intro b hb; cases hb
theorem signs_get {x : Str} {j c : Nat} (e : x.cps[j]? = some c) : (x.cps.toList.map fun n => V.str ⟨#[n]⟩)[j]? = some (.str ⟨#[c]⟩) := by
  rw [List.getElem?_map]
  have : x.cps.toList[j]? = some c := by simpa using e
  rw [this]; rfl
theorem vals_get2 {xs : List V} {its : List Value} (r : Vals xs its) : ∀ {j : Nat} {u : Value}, its[j]? = some u → ∃ v, xs[j]? = some v ∧ RelV v u := by
  induction r with
  | nil => intro j u e; simp at e
  | cons h t ih =>
    intro j u e
    cases j with
    | zero => simp at e; subst e; exact ⟨_, rfl, h⟩
    | succ j => exact ih (by simpa using e)
/-- a turn of an iterator, as it draws -/
theorem Src.draws (I : Inv X pins σ H s) {A : Around} (hh : A.handled = none) {c : Src} {xs : List V} {t : Tok} {p : Addr} {i : Nat} (h : c.on X.K H xs) (hit : c.it t s.heap p i) (hp : ∀ b ∈ c.fp, b ≠ p) :
    ∃ (P : Nat → Value → Prop) (St : Nat → Heap → Prop), Draws X.prog X.w A p (p :: c.fp) xs.length P St ∧ St i s.heap ∧ (∀ j u, P j u → ∃ v, xs[j]? = some v ∧ RelV v u) ∧ ∀ j h', St j h' → c.it t h' p j := by
  cases c with
  | lst a =>
    obtain ⟨its, rv, q, hz⟩ := I.list h
    have hl : its.toArray.size = xs.length := by simp [rv.length]
    refine ⟨_, _, hl ▸ Draws.list hh p a (hp a (by simp [Src.fp])) its.toArray, ⟨hit, q.isList⟩, fun j u e => vals_get2 rv (by simpa using e), fun j h' st => st.1⟩
  | tup a =>
    obtain ⟨its, rv, q, hz⟩ := I.tuple h
    have hl : its.toArray.size = xs.length := by simp [rv.length]
    refine ⟨_, _, hl ▸ Draws.tuple hh p a (hp a (by simp [Src.fp])) its.toArray, ⟨hit, q⟩, fun j u e => vals_get2 rv (by simpa using e), fun j h' st => st.1⟩
  | str x =>
    have hx : xs = x.cps.toList.map fun n => V.str ⟨#[n]⟩ := h
    subst hx
    have hl : x.cps.size = (x.cps.toList.map fun n => V.str ⟨#[n]⟩).length := by simp
    refine ⟨_, _, hl ▸ Draws.text hh p x t, hit, fun j u e => ?_, fun j h' st => st⟩
    obtain ⟨cc, tt, e1, rfl⟩ := e
    exact ⟨_, signs_get e1, _, rfl⟩
/-- how such an iterator begins -/
theorem Src.begins (I : Inv X pins σ H s) {c : Src} {xs : List V} {u : Value} (h : c.on X.K H xs) (r : RelV c.val u) :
    ∃ (t : Tok) (o : Obj) (G : Heap → Prop), Begins u o G ∧ G s.heap ∧ ∀ h' p, h'.get? p = some o → c.it t h' p 0 := by
  cases c with
  | lst a =>
    obtain rfl : u = Value.ref a := r
    obtain ⟨its, rv, q, hz⟩ := I.list h
    exact ⟨0, _, _, begins_list a its.toArray, q.isList, fun h' p e => ⟨_, e, rfl, rfl⟩⟩
  | tup a =>
    obtain rfl : u = Value.ref a := r
    obtain ⟨its, rv, q, hz⟩ := I.tuple h
    exact ⟨0, _, _, begins_tuple a its.toArray, q, fun h' p e => ⟨_, e, rfl, rfl⟩⟩
  | str x =>
    obtain ⟨t, rfl⟩ := r
    exact ⟨t, _, _, begins_text x t, trivial, fun h' p e => ⟨_, e, rfl, rfl⟩⟩
end

set_option maxHeartbeats 4000000 in
theorem meets_enum1 {v : Value} {o : Obj} {G : Heap → Prop} (B : Begins v o G) :
    Meets (Builtin.«enumerate.__new__» ⟨[.type "enumerate", v], []⟩) (fun _ R s => G s.heap ∧
      R (.ok (.ret (.ref (s.heap.push o).objs.size))) { s with heap := (s.heap.push o).push { cls := .type "enumerate", data := .fields #[.none, .bool false, .ref s.heap.objs.size, rawInt 0, .none, .none] } }) := by
  refine .of_wp fun prog w A R s h => ?_
  obtain ⟨hp, g, d, tk, os⟩ := s
  obtain ⟨h1, h⟩ := h
  have hsub := sub_enumerate
  have q1 : ∀ {A' : Around} {E Q : Value → Shared → Prop}, Q (.ref hp.objs.size) ⟨hp.push o, g, d, tk, os⟩ → wpAny (model prog w) A' (pyIter v) Q E ⟨hp, g, d, tk, os⟩ := fun q => B.iter prog w _ _ ⟨hp, g, d, tk, os⟩ _ h1 q
  wp_walk using q1
  refine wpAny_stack_any fun st => wpAny_pure ?_
  split
  · rename_i c _ _ _ _ _
    cases (c == Value.type "enumerate") <;> (wp_walk using q1; exact ⟨_, rfl, h⟩)
  · wp_walk using q1
    exact ⟨_, rfl, h⟩
theorem enum_new {prog : Program} {w : World} {A : Around} {E : Value → Shared → Prop} {s : Shared} {v : Value} {o : Obj} {G : Heap → Prop} {Q : Value → Shared → Prop} (B : Begins v o G) (h1 : G s.heap)
    (h : ∀ h', IsEnum h' (s.heap.objs.size + 1) s.heap.objs.size 0 .none → h'.get? s.heap.objs.size = some o → (∀ b u, s.heap.get? b = some u → h'.get? b = some u) → Q (.ref (s.heap.objs.size + 1)) { s with heap := h' }) :
    wpAny (model prog w) A (call (.type "enumerate") [v]) Q E s := by
  refine callType_new F.called_enumerate (by decide) (F.typeCall_enumerate_1 _) (F.newCall_enumerate_1 _) (fun obj => F.args_object_init_2 obj _) F.entry_enumerate_new (meets_enum1 B) ⟨h1, ?_⟩
  have hz : (s.heap.push o).objs.size = s.heap.objs.size + 1 := Heap.size_push ..
  show _ ∧ _
  rw [hz]
  have he := Heap.get?_push_size (s.heap.push o) (o := { cls := .type "enumerate", data := .fields #[.none, .bool false, .ref s.heap.objs.size, rawInt 0, .none, .none] }) rfl
  rw [hz] at he
  exact ⟨⟨_, he, rfl⟩, h _ he (Heap.get?_push_of_some _ (Heap.get?_push_size _ B.free)) fun b u x => Heap.get?_push_of_some _ (Heap.get?_push_of_some _ x)⟩
/-- the things as they stand at each turn, each in a new pair -/
def ItE (K : PySem.W.Frag) (c : Src) : It where
  go := fun i H => ∃ xs x, c.on K H xs ∧ xs[i]? = some x
  yld := fun i H v H' => ∃ T x, v = .ref T ∧ H T = none ∧ H' = upd H T (.tup [.int (i : Nat), x]) ∧ ∀ xs, c.on K H xs → xs[i]? = some x
  stop := fun i H => ∃ xs, c.on K H xs ∧ i = xs.length
theorem turn_enumE {P : Program} {w : World} {K : PySem.W.Frag} {elts : List Expr} {kk : Nat} {tpos : Pos} (c : Src) (t : Tok) (N : Nat) (hN : ∀ b ∈ c.fp, b < N) :
    Turn P w K (.Tuple elts kk tpos) (ItE K c) [N + 1, N] (N + 1) (fun i h => (∃ old, IsEnum h (N + 1) N ((i : Nat) : Int) old) ∧ c.it t h N i) where
  mem := by simp
  obj := fun i h st b hb => by
    obtain ⟨⟨old, he⟩, hi⟩ := st
    rcases List.mem_cons.mp hb with rfl | hb
    · exact ⟨_, he, fun v q => nomatch q⟩
    · rw [List.mem_singleton.mp hb]; exact Src.it_obj hi
  keep := fun i h h' st k => by
    obtain ⟨⟨old, he⟩, hi⟩ := st
    exact ⟨⟨old, k (N + 1) (by simp) _ he⟩, Src.it_keep hi fun o q => k N (by simp) o q⟩
  item := by
    intro X hP hw hK hc i pins s σ H E I hf st hg
    subst hP hw hK
    obtain ⟨⟨old, he⟩, hit⟩ := st
    obtain ⟨xs, x, hq, hx⟩ := hg
    have hdl : X.A.in1.handled = none := by first | exact I.ok.hd hc | (show X.A.handled = none; exact I.ok.hd hc)
    obtain ⟨Pd, St, D, hst, hP, hit2⟩ := Src.draws I hdl hq hit (fun b hb => Nat.ne_of_lt (hN b hb))
    have hi : i < xs.length := (List.getElem?_eq_some_iff.mp hx).1
    have hel : N + 1 < s.heap.objs.size := Heap.lt_size he
    have hne : (N + 1 : Nat) ≠ N := Nat.succ_ne_self _
    have hef : (N + 1 : Nat) ∉ N :: c.fp := fun z => by
      rcases List.mem_cons.mp z with z | z
      · exact hne z
      · have z' : (N + 1 : Nat) < N := hN _ z
        omega
    refine wpAny_pyNext_enum_itemC D he hst hi hne hef fun u h' tk hp ho hs' hT hsz hk => ?_
    obtain ⟨v, hv, ru⟩ := hP i u hp
    refine ⟨_, rfl, wpAny_letOwnedTupleGo_enum (s := { s with heap := h', toks := tk + 1 }) ho fun h'' he' sb => ?_⟩
    have hT2 : h''.get? s.heap.objs.size = some { cls := .type "tuple", data := .seq #[.int i tk, u] } := (sb.2 _ (Nat.ne_of_gt hel)).trans hT
    have new : ObjOk X.prog X.w (upd H s.heap.objs.size (.tup [.int (i : Nat), v])) h'' s.heap.objs.size (.tup [.int (i : Nat), v]) :=
      ⟨by show 2 ≤ sizeLine; decide, [.int i tk, u], .cons ⟨_, rfl⟩ (.cons ru .nil), ⟨_, hT2, rfl, _, rfl⟩⟩
    have I1 : Inv X pins σ (upd H s.heap.objs.size (.tup [.int (i : Nat), v])) { s with heap := h'', toks := tk + 1 } :=
      I.turnedNew (ch := [N + 1, N]) (fun b ob hb q => (sb.2 b (fun z => hb (by simp [z]))).trans (hk b ob (fun z => hb (by simp [z])) (fun z => hb (by simp [z])) q)) hf (Nat.le_refl _) new
    refine ⟨.ref s.heap.objs.size, _, I1, rfl, ⟨_, v, rfl, I.hok.fresh (Nat.le_refl _), rfl, fun ys hy => by rw [Src.on_inj I hy hq]; exact hv⟩, ⟨⟨u, ?_⟩, Src.it_keep (hit2 _ _ hs') fun o q => (sb.2 N (Ne.symm hne)).trans q⟩, fun b hb => ?_⟩
    · have e1 : ((i + 1 : Nat) : Int) = (i : Int) + 1 := by omega
      rw [e1]; exact he'
    · have hb' : b < s.heap.objs.size := by
        rcases List.mem_cons.mp hb with rfl | hb
        · exact hel
        · rw [List.mem_singleton.mp hb]; exact Nat.lt_trans (Nat.lt_succ_self _) hel
      rw [upd_ne (Nat.ne_of_lt hb')]
      exact (hf b hb).1
  done := by
    intro X hP hw hK hc i pins s σ H E I hf st hg
    subst hP hw hK
    obtain ⟨⟨old, he⟩, hit⟩ := st
    obtain ⟨xs, hq, rfl⟩ := hg
    have hdl : X.A.in1.handled = none := by first | exact I.ok.hd hc | (show X.A.handled = none; exact I.ok.hd hc)
    obtain ⟨Pd, St, D, hst, hP, hit2⟩ := Src.draws I hdl hq hit (fun b hb => Nat.ne_of_lt (hN b hb))
    obtain ⟨f0, f1, f2, f3, f4, f5⟩ := hf N (by simp)
    exact wpAny_pyNext_enum_endD D he hst fun h' eb => ⟨rfl, I.turned (t' := s.toks) (fun b o hb q => eb b o hb q) f0 f1 f3 f4 f5⟩
  self := fun A i s Q E st h => let ⟨⟨_, he⟩, _⟩ := st; wpAny_pyIter_enum he h
def iEnumE (K : PySem.W.Frag) (ta : TA) : TI := fun σ H R => ta σ H fun vs H1 => ∃ (c : Src) (xs : List V), vs = [c.val] ∧ c.on K H1 xs ∧ R (ItE K c) H1
theorem pi_enumE {X : Cx} {e : Expr} {ta : TA} {p pos tpos : Pos} {elts : List Expr} {kk : Nat} (hg : Gl X "enumerate") (hm : X.mg "enumerate" = none) (ha : PA X [e] ta) (hs : starEach [e] X.env = [(false, eval e X.env)]) :
    PI X (.Tuple elts kk tpos) (.Call (.Name "enumerate" p) [e] [] pos) (iEnumE X.K ta) := by
  refine ⟨fun pins s σ H R I h => ?_⟩
  refine Call_ (ld_blt I hg hm boot_enumerate (PyProof.Rows.callWith_type1 (thn (ha.run pos pins s σ H _ I h) fun us s1 ⟨vs, H1, I1, r1, q1⟩ => ?_) hs rfl))
  obtain ⟨c, xs, ex, hq, q⟩ := q1
  subst ex
  cases r1 with
  | cons r rr =>
    cases rr
    obtain ⟨t, o, G, B, hG, hit⟩ := Src.begins I1 hq r
    refine enum_new B hG fun h' he ho hk => wpAny_pyIter_enum he ?_
    have I2 : Inv X pins σ H1 { s1 with heap := h' } := I1.kept (t' := s1.toks) hk
    refine ⟨s1.heap.objs.size + 1, [s1.heap.objs.size + 1, s1.heap.objs.size], _, _, H1, rfl, I2, turn_enumE c t s1.heap.objs.size (Src.lt I1 hq), ⟨⟨.none, he⟩, hit _ _ ho⟩, fun b hb => ?_, q⟩
    have hle : s1.heap.objs.size ≤ b := by
      rcases List.mem_cons.mp hb with rfl | hb
      · exact Nat.le_add_right _ _
      · rw [List.mem_singleton.mp hb]; exact Nat.le_refl _
    exact I1.fpOk hle (I1.hok.fresh hle)

def ItZ (K : PySem.W.Frag) (c d : Src) : It where
  go := fun i H => ∃ xs ys x y, c.on K H xs ∧ d.on K H ys ∧ xs[i]? = some x ∧ ys[i]? = some y
  yld := fun i H v H' => ∃ T x y, v = .ref T ∧ H T = none ∧ H' = upd H T (.tup [x, y]) ∧ (∀ xs, c.on K H xs → xs[i]? = some x) ∧ ∀ ys, d.on K H ys → ys[i]? = some y
  stop := fun i H => ∃ xs ys, c.on K H xs ∧ d.on K H ys ∧ i ≤ xs.length ∧ i ≤ ys.length ∧ (i = xs.length ∨ i = ys.length)
theorem turn_zipE {P : Program} {w : World} {K : PySem.W.Frag} {elts : List Expr} {kk : Nat} {tpos : Pos} (c d : Src) (t t' : Tok) (N : Nat) (hN : ∀ b ∈ c.fp, b < N) (hM : ∀ b ∈ d.fp, b < N) :
    Turn P w K (.Tuple elts kk tpos) (ItZ K c d) [N + 4, N + 2, N + 3, N, N + 1] (N + 4) (fun i h => IsZip h (N + 4) (N + 2) (N + 3) .none ∧ IsTupOf2 h (N + 2) (.ref N) (.ref (N + 1 : Nat)) ∧ (∃ x y, IsTupOf2 h (N + 3) x y) ∧ c.it t h N i ∧ d.it t' h (N + 1) i) where
  mem := by simp
  obj := fun i h st b hb => by
    obtain ⟨hz, hTI, ⟨x, y, hTO⟩, h1, h2⟩ := st
    rcases List.mem_cons.mp hb with rfl | hb
    · exact ⟨_, hz, fun v q => nomatch q⟩
    rcases List.mem_cons.mp hb with rfl | hb
    · exact ⟨_, hTI, fun v q => nomatch q⟩
    rcases List.mem_cons.mp hb with rfl | hb
    · exact ⟨_, hTO, fun v q => nomatch q⟩
    rcases List.mem_cons.mp hb with rfl | hb
    · exact Src.it_obj h1
    · rw [List.mem_singleton.mp hb]; exact Src.it_obj h2
  keep := fun i h h' st k => by
    obtain ⟨hz, hTI, ⟨x, y, hTO⟩, h1, h2⟩ := st
    exact ⟨k (N + 4) (by simp) _ hz, k (N + 2) (by simp) _ hTI, ⟨x, y, k (N + 3) (by simp) _ hTO⟩, Src.it_keep h1 fun o q => k N (by simp) o q, Src.it_keep h2 fun o q => k (N + 1) (by simp) o q⟩
  item := by
    intro X hP hw hK hc i pins s σ H E I hf st hg
    subst hP hw hK
    obtain ⟨hz, hTI, ⟨x0, y0, hTO⟩, h1, h2⟩ := st
    obtain ⟨xs, ys, x, y, hqx, hqy, hx, hy⟩ := hg
    have hdl : X.A.in1.handled = none := by first | exact I.ok.hd hc | (show X.A.handled = none; exact I.ok.hd hc)
    obtain ⟨P1, S1, D1, st1, hP1, hi1⟩ := Src.draws I hdl hqx h1 (fun b hb => Nat.ne_of_lt (hN b hb))
    obtain ⟨P2, S2, D2, st2, hP2, hi2⟩ := Src.draws I hdl hqy h2 (fun b hb => Nat.ne_of_lt (Nat.lt_succ_of_lt (hM b hb)))
    have l1 : i < xs.length := (List.getElem?_eq_some_iff.mp hx).1
    have l2 : i < ys.length := (List.getElem?_eq_some_iff.mp hy).1
    have hzl : N + 4 < s.heap.objs.size := Heap.lt_size hz
    have SP := zip_sep2 (N := N) (fp1 := c.fp) (fp2 := d.fp) hN hM
    refine wpAny_pyNext_zipD2_item SP D1 D2 hz hTI hTO st1 st2 l1 l2 fun u u2 h' tk p1 p2 z' TO' s1' s2' hT hsz hk => ?_
    obtain ⟨v, hv, ru⟩ := hP1 i u p1
    obtain ⟨v2, hv2, ru2⟩ := hP2 i u2 p2
    refine ⟨_, rfl, wpAny_letOwnedTupleGo_zip (s := { s with heap := h', toks := tk }) z' fun h'' z'' sb => ?_⟩
    have hT2 : h''.get? s.heap.objs.size = some { cls := .type "tuple", data := .seq #[u, u2] } := (sb.2 _ (Nat.ne_of_gt hzl)).trans hT
    have new : ObjOk X.prog X.w (upd H s.heap.objs.size (.tup [v, v2])) h'' s.heap.objs.size (.tup [v, v2]) :=
      ⟨by show 2 ≤ sizeLine; decide, [u, u2], .cons ru (.cons ru2 .nil), ⟨_, hT2, rfl, _, rfl⟩⟩
    have I1 : Inv X pins σ (upd H s.heap.objs.size (.tup [v, v2])) { s with heap := h'', toks := tk } :=
      I.turnedNew (t' := tk) (ch := [N + 4, N + 2, N + 3, N, N + 1]) (fun b o hb q => (sb.2 b (fun q' => hb (by simp [q']))).trans (hk b o (fun q' => hb (by simp [q'])) (fun q' => hb (by simp [q'])) (fun q' => hb (by simp [q'])) (fun q' => hb (by simp [q'])) q)) hf (Nat.le_refl _) new
    refine ⟨.ref s.heap.objs.size, _, I1, rfl, ⟨_, v, v2, rfl, I.hok.fresh (Nat.le_refl _), rfl, fun l hl => by rw [Src.on_inj I hl hqx]; exact hv, fun l hl => by rw [Src.on_inj I hl hqy]; exact hv2⟩, ⟨z'', ?_, ⟨u, u2, ?_⟩, ?_, ?_⟩, fun b hb => ?_⟩
    · exact (sb.2 _ SP.TIz).trans (hk _ _ SP.TIz SP.TITO SP.TIi1 SP.TIi2 hTI)
    · exact (sb.2 _ SP.TOz).trans TO'
    · exact Src.it_keep (hi1 _ _ s1') fun o q => (sb.2 _ (Ne.symm SP.zi1)).trans q
    · exact Src.it_keep (hi2 _ _ s2') fun o q => (sb.2 _ (Ne.symm SP.zi2)).trans q
    · have hlt : b < s.heap.objs.size := by
        have hb' : b ≤ N + 4 := by
          have e' : b = N + 4 ∨ b = N + 2 ∨ b = N + 3 ∨ b = N ∨ b = N + 1 := by simpa using hb
          rcases e' with q | q | q | q | q <;> (rw [q]; simp)
        exact Nat.lt_of_le_of_lt hb' hzl
      rw [upd_ne (Nat.ne_of_lt hlt)]
      exact (hf b hb).1
  done := by
    intro X hP hw hK hc i pins s σ H E I hf st hg
    subst hP hw hK
    obtain ⟨hz, hTI, ⟨x0, y0, hTO⟩, h1, h2⟩ := st
    obtain ⟨xs, ys, hqx, hqy, l1, l2, hend⟩ := hg
    have hdl : X.A.in1.handled = none := by first | exact I.ok.hd hc | (show X.A.handled = none; exact I.ok.hd hc)
    obtain ⟨P1, S1, D1, st1, hP1, hi1⟩ := Src.draws I hdl hqx h1 (fun b hb => Nat.ne_of_lt (hN b hb))
    obtain ⟨P2, S2, D2, st2, hP2, hi2⟩ := Src.draws I hdl hqy h2 (fun b hb => Nat.ne_of_lt (Nat.lt_succ_of_lt (hM b hb)))
    have SP := zip_sep2 (N := N) (fp1 := c.fp) (fp2 := d.fp) hN hM
    exact wpAny_pyNext_zipD2_end SP D1 D2 hz hTI hTO st1 st2 l1 l2 hend fun h' tk hk => ⟨rfl, I.turnedL (t' := tk) (ch := [N + 4, N + 2, N + 3, N, N + 1]) (fun b o hb q =>
      hk b o (fun q' => hb (by simp [q'])) (fun q' => hb (by simp [q'])) (fun q' => hb (by simp [q'])) (fun q' => hb (by simp [q'])) q) hf⟩
  self := fun A i s Q E st h => wpAny_pyIter_zip st.1 h
def iZipE (K : PySem.W.Frag) (ta : TA) : TI := fun σ H R => ta σ H fun vs H1 => ∃ (c d : Src) (xs ys : List V), vs = [c.val, d.val] ∧ c.on K H1 xs ∧ d.on K H1 ys ∧ R (ItZ K c d) H1
theorem pi_zipE {X : Cx} {e e2 : Expr} {ta : TA} {p pos tpos : Pos} {elts : List Expr} {kk : Nat} (hg : Gl X "zip") (hm : X.mg "zip" = none) (ha : PA X [e, e2] ta)
    (hs : starEach [e, e2] X.env = (false, eval e X.env) :: starEach [e2] X.env) (hpl : (backTo pos (starEach [e2] X.env)).any (·.1) = false) :
    PI X (.Tuple elts kk tpos) (.Call (.Name "zip" p) [e, e2] [] pos) (iZipE X.K ta) := by
  refine ⟨fun pins s σ H R I h => ?_⟩
  refine Call_ (ld_blt I hg hm PyProof.Rows.boot_zip (PyProof.Rows.callWith_type1 (thn (ha.run pos pins s σ H _ I h) fun us s1 ⟨vs, H1, I1, r1, q1⟩ => ?_) hs hpl))
  obtain ⟨c, d, xs, ys, ex, hqx, hqy, q⟩ := q1
  subst ex
  cases r1 with
  | cons r rr =>
    cases rr with
    | cons r' rr =>
      cases rr
      obtain ⟨t, o, G, B, hG, hit⟩ := Src.begins I1 hqx r
      obtain ⟨t', o', G', B', hG', hit'⟩ := Src.begins I1 hqy r'
      refine zip_begins2 B B' hG hG' fun h' hz hTI hTO e1 e2 hsz hk => wpAny_pyIter_zip hz ?_
      have I2 : Inv X pins σ H1 { s1 with heap := h' } := I1.kept (t' := s1.toks) hk
      refine ⟨s1.heap.objs.size + 4, [s1.heap.objs.size + 4, s1.heap.objs.size + 2, s1.heap.objs.size + 3, s1.heap.objs.size, s1.heap.objs.size + 1], _, _, H1, rfl, I2, turn_zipE c d t t' s1.heap.objs.size (Src.lt I1 hqx) (Src.lt I1 hqy), ⟨hz, hTI, ⟨_, _, hTO⟩, hit _ _ e1, hit' _ _ e2⟩, fun b hb => ?_, q⟩
      have hle : s1.heap.objs.size ≤ b := by
        have e' : b = s1.heap.objs.size + 4 ∨ b = s1.heap.objs.size + 2 ∨ b = s1.heap.objs.size + 3 ∨ b = s1.heap.objs.size ∨ b = s1.heap.objs.size + 1 := by simpa using hb
        rcases e' with z | z | z | z | z <;> (rw [z]; simp)
      exact I1.fpOk hle (I1.hok.fresh hle)

section
variable {U : Univ} {ad : List Addr} {H : Hp} {O : Store}
/-- what is walked, as an iterator has it -/
theorem src_at (S : Sim U ad O H) {d : D} {v : V} {it : Itm} (r : Rep U ad H d v) (e : itemsOf d O = some it) :
    ∃ c : Src, v = c.val ∧ watchOk it.w O ∧ ∀ ad2 O2 H2, Step ad H ad2 H2 → Sim U ad2 O2 H2 → watchOk it.w O2 → ∃ xs, c.on U.K H2 xs ∧ Reps U ad2 H2 it.ds xs := by
  cases d with
  | ptr kk =>
    have e' : itemsPtr kk O[kk]? = some it := e
    cases hO : O[kk]? with
    | none => rw [hO] at e'; cases e'
    | some dd =>
      rw [hO] at e'
      cases dd with
      | lst l =>
        cases e'
        obtain ⟨a, rfl, ha⟩ := r
        refine ⟨.lst a, rfl, hO, fun ad2 O2 H2 s2 S2 hw => ?_⟩
        obtain ⟨ys, hy, hyr⟩ := S2.at_ kk a _ (s2.ix ha) hw
        exact ⟨ys, .of hy, hyr⟩
      | _ => cases e'
  | lst l =>
    cases e
    obtain ⟨a, xs, rfl, hx, hn, hr⟩ := r
    exact ⟨.lst a, rfl, trivial, fun ad2 O2 H2 s2 S2 hw => ⟨xs, .of (s2.keep a _ hx (fun _ z => nomatch z) hn).1, hr.keep s2⟩⟩
  | rol l =>
    cases e
    obtain ⟨a, xs, rfl, hx, hr⟩ := r
    exact ⟨.lst a, rfl, trivial, fun ad2 O2 H2 s2 S2 hw => ⟨xs, (hx.keep s2).sq, hr.keep s2⟩⟩
  | tup l =>
    cases e
    obtain ⟨a, xs, rfl, hx, hn, hr⟩ := r
    exact ⟨.tup a, rfl, trivial, fun ad2 O2 H2 s2 S2 hw => ⟨xs, .of (s2.keep a _ hx (fun _ z => nomatch z) hn).1, hr.keep s2⟩⟩
  | rot l =>
    cases e
    obtain ⟨a, xs, rfl, hx, hr⟩ := r
    exact ⟨.tup a, rfl, trivial, fun ad2 O2 H2 s2 S2 hw => ⟨xs, (hx.keep s2).sq, hr.keep s2⟩⟩
  | str z =>
    cases e
    cases r
    refine ⟨.str z, rfl, trivial, fun ad2 O2 H2 s2 S2 hw => ⟨_, rfl, ?_⟩⟩
    have := reps_of_strs (U := U) (ad := ad2) (H := H2) (z.cps.toList.map fun n => (⟨#[n]⟩ : Str))
    rw [List.map_map, List.map_map] at this
    exact this
  | _ => cases e
def enumD (ds : List D) : List D := ds.mapIdx fun i d => .tup [.int (i : Nat), d]
def zipD : List D → List D → List D
  | x :: xs, y :: ys => .tup [x, y] :: zipD xs ys
  | _, _ => []
theorem zipD_len : ∀ xs ys : List D, (zipD xs ys).length = min xs.length ys.length
  | [], _ => by simp [zipD]
  | _ :: _, [] => by simp [zipD]
  | _ :: xs, _ :: ys => by simp [zipD, zipD_len xs ys]
theorem zipD_get : ∀ {xs ys : List D} {i : Nat} {x y : D}, xs[i]? = some x → ys[i]? = some y → (zipD xs ys)[i]? = some (.tup [x, y])
  | [], _, _, _, _, h, _ => by simp at h
  | _ :: _, [], _, _, _, _, h => by simp at h
  | _ :: _, _ :: _, 0, _, _, h, h' => by simp at h h'; subst h; subst h'; rfl
  | _ :: _, _ :: _, i + 1, _, _, h, h' => by simpa [zipD] using zipD_get (by simpa using h) (by simpa using h')
theorem Reps.get' : ∀ {ds : List D} {vs : List V} {i : Nat} {v : V}, Reps U ad H ds vs → vs[i]? = some v → ∃ d, ds[i]? = some d ∧ Rep U ad H d v := by
  intro ds vs i v r e
  have hi : i < ds.length := by rw [r.length]; exact (List.getElem?_eq_some_iff.mp e).1
  obtain ⟨u, e1, q⟩ := r.get (List.getElem?_eq_getElem hi)
  rw [e] at e1; cases e1
  exact ⟨_, List.getElem?_eq_getElem hi, q⟩
theorem yields_enum {c : Src} {it : Itm} (hk : ∀ ad2 O2 H2, Step ad H ad2 H2 → Sim U ad2 O2 H2 → watchOk it.w O2 → ∃ xs, c.on U.K H2 xs ∧ Reps U ad2 H2 it.ds xs) : Yields U (ItE U.K c) ad H (enumD it.ds) it.w := by
  have hl : (enumD it.ds).length = it.ds.length := by simp [enumD]
  refine ⟨fun H2 => ∃ xs, c.on U.K H2 xs ∧ xs.length = it.ds.length, fun i H2 x H3 => (∃ T x', x = .ref T ∧ H2 T = none ∧ H3 = upd H2 T (.tup [.int (i : Nat), x']) ∧ ∀ xs, c.on U.K H2 xs → xs[i]? = some x'), ⟨?_, ?_, fun i H2 x H3 hi hG y => y⟩, ?_, ?_⟩
  · rintro i H2 hi ⟨xs, h, e⟩
    rw [hl, ← e] at hi
    exact ⟨xs, xs[i], h, List.getElem?_eq_getElem hi⟩
  · rintro H2 ⟨xs, h, e⟩
    exact ⟨xs, h, by rw [hl, e]⟩
  · intro ad2 O2 H2 s2 S2 hw
    obtain ⟨xs, h, r⟩ := hk ad2 O2 H2 s2 S2 hw
    exact ⟨xs, h, r.length.symm⟩
  · rintro i x H2 H3 ad2 O2 hi s2 S2 hw ⟨T, x', rfl, hT, rfl, hx⟩
    obtain ⟨xs, h, r⟩ := hk ad2 O2 H2 s2 S2 hw
    obtain ⟨d, ed, rd⟩ := r.get' (hx xs h)
    have st := Step.new (o := .tup [.int (i : Nat), x']) hT (S2.out hT)
    exact ⟨st, S2.new hT, .tup [.int (i : Nat), d], by simp [enumD, ed], rep_tup S2 hT (.cons rfl (.cons rd .nil))⟩
theorem yields_zip {c c' : Src} {it it' : Itm} {w : Option (Nat × D)} (hk : ∀ ad2 O2 H2, Step ad H ad2 H2 → Sim U ad2 O2 H2 → watchOk w O2 → ∃ xs, c.on U.K H2 xs ∧ Reps U ad2 H2 it.ds xs)
    (hk' : ∀ ad2 O2 H2, Step ad H ad2 H2 → Sim U ad2 O2 H2 → watchOk w O2 → ∃ xs, c'.on U.K H2 xs ∧ Reps U ad2 H2 it'.ds xs) : Yields U (ItZ U.K c c') ad H (zipD it.ds it'.ds) w := by
  have hl := zipD_len it.ds it'.ds
  refine ⟨fun H2 => ∃ xs ys, c.on U.K H2 xs ∧ c'.on U.K H2 ys ∧ xs.length = it.ds.length ∧ ys.length = it'.ds.length, fun i H2 x H3 => (∃ T x' y', x = .ref T ∧ H2 T = none ∧ H3 = upd H2 T (.tup [x', y']) ∧ (∀ xs, c.on U.K H2 xs → xs[i]? = some x') ∧ ∀ ys, c'.on U.K H2 ys → ys[i]? = some y'), ⟨?_, ?_, fun i H2 x H3 hi hG y => y⟩, ?_, ?_⟩
  · rintro i H2 hi ⟨xs, ys, h, h', e, e'⟩
    rw [hl] at hi
    have h1 : i < xs.length := by omega
    have h2 : i < ys.length := by omega
    exact ⟨xs, ys, xs[i], ys[i], h, h', List.getElem?_eq_getElem h1, List.getElem?_eq_getElem h2⟩
  · rintro H2 ⟨xs, ys, h, h', e, e'⟩
    exact ⟨xs, ys, h, h', by omega, by omega, by omega⟩
  · intro ad2 O2 H2 s2 S2 hw
    obtain ⟨xs, h, r⟩ := hk ad2 O2 H2 s2 S2 hw
    obtain ⟨ys, h', r'⟩ := hk' ad2 O2 H2 s2 S2 hw
    exact ⟨xs, ys, h, h', r.length.symm, r'.length.symm⟩
  · rintro i x H2 H3 ad2 O2 hi s2 S2 hw ⟨T, x', y', rfl, hT, rfl, hx, hy⟩
    obtain ⟨xs, h, r⟩ := hk ad2 O2 H2 s2 S2 hw
    obtain ⟨ys, h', r'⟩ := hk' ad2 O2 H2 s2 S2 hw
    obtain ⟨d, ed, rd⟩ := r.get' (hx xs h)
    obtain ⟨d', ed', rd'⟩ := r'.get' (hy ys h')
    have st := Step.new (o := .tup [x', y']) hT (S2.out hT)
    exact ⟨st, S2.new hT, .tup [d, d'], zipD_get ed ed', rep_tup S2 hT (.cons rd (.cons rd' .nil))⟩
end
def iEnD (m : DE) : DI := fun σ O => (m σ O).bind fun d O1 => lift ((itemsOf d O1).map fun it => ⟨enumD it.ds, it.w⟩) O1
def zipItm (a b : Itm) : Option Itm := match a.w, b.w with
  | none, w => some ⟨zipD a.ds b.ds, w⟩
  | w, none => some ⟨zipD a.ds b.ds, w⟩
  | _, _ => none
def iZpD (m m2 : DE) : DI := fun σ O => (m σ O).bind fun d O1 => (m2 σ O1).bind fun d2 O2 => lift ((itemsOf d O2).bind fun a => (itemsOf d2 O2).bind fun b => zipItm a b) O2
section
variable {U : Univ} {c : Cs} {k : Nat} {p pos tpos : Pos} {e e' : Expr} {elts : List Expr} {kk : Nat} {m m2 : DE}
theorem siEnum (he : SE U c k e m) (hg : c.sc.names.lookup ("enumerate" : Str) = some .globalImplicit) (hm : U.mg "enumerate" = none) (hs : ∀ env : PySem.Env, starEach [e] env = [(false, eval e env)] := by intro _; rfl) :
    SI U c k (.Tuple elts kk tpos) (.Call (.Name "enumerate" p) [e] [] pos) (iEnD m) := by
  intro X W C
  obtain ⟨t, pt, f⟩ := saCons he saNil (fun env => (hs env).trans rfl) X W C
  obtain ⟨_, eu⟩ := C.u
  subst eu
  refine ⟨_, pi_enumE (by show X.env.scope.names.lookup _ = _; rw [C.s]; exact hg) hm pt (hs _), fun ad O H σ sv Rr S r h => ?_⟩
  refine f ad O H σ sv _ S r ?_
  show PostL _ ad H _ _ ((m σ O).bind fun d O1 => R.ok [d] O1)
  have h' : PostI _ ad H Rr _ ((m σ O).bind fun d O1 => lift ((itemsOf d O1).map fun it => (⟨enumD it.ds, it.w⟩ : Itm)) O1) := h
  cases hm' : m σ O with
  | stuck => rw [hm'] at h'; exact h'.elim
  | err x O1 => rw [hm'] at h'; exact h'
  | ok d O1 =>
    rw [hm'] at h'
    have h2 : PostI _ ad H Rr (fun cl d H' => W cl d sv H') (lift ((itemsOf d O1).map fun it => (⟨enumD it.ds, it.w⟩ : Itm)) O1) := h'
    cases hi : itemsOf d O1 with
    | none => rw [hi] at h2; exact h2.elim
    | some it =>
      rw [hi] at h2
      intro ad' H' vs s' S' rv
      obtain ⟨v, rfl, rv'⟩ := reps1 rv
      obtain ⟨cc, rfl, hw, hk⟩ := src_at S' rv' hi
      obtain ⟨xs, hx, _⟩ := hk ad' O1 H' .refl S' hw
      exact ⟨cc, xs, rfl, hx, h2 ad' H' _ s' S' (yields_enum hk) hw⟩
theorem siZip (he : SE U c k e m) (he' : SE U c k e' m2) (hg : c.sc.names.lookup ("zip" : Str) = some .globalImplicit) (hm : U.mg "zip" = none) (hs : ∀ env : PySem.Env, starEach [e, e'] env = (false, eval e env) :: starEach [e'] env := by intro _; rfl)
    (hs' : ∀ env : PySem.Env, starEach [e'] env = (false, eval e' env) :: starEach [] env := by intro _; rfl) (hpl : ∀ env : PySem.Env, (backTo pos (starEach [e'] env)).any (·.1) = false := by intro _; rfl) :
    SI U c k (.Tuple elts kk tpos) (.Call (.Name "zip" p) [e, e'] [] pos) (iZpD m m2) := by
  intro X W C
  obtain ⟨t, pt, f⟩ := saCons he (saCons he' saNil hs') hs X W C
  obtain ⟨_, eu⟩ := C.u
  subst eu
  refine ⟨_, pi_zipE (by show X.env.scope.names.lookup _ = _; rw [C.s]; exact hg) hm pt (hs _) (hpl _), fun ad O H σ sv Rr S r h => ?_⟩
  refine f ad O H σ sv _ S r ?_
  show PostL _ ad H _ _ ((m σ O).bind fun d O1 => ((m2 σ O1).bind fun d2 O2 => R.ok [d2] O2).bind fun ds O2 => R.ok (d :: ds) O2)
  have h' : PostI _ ad H Rr _ ((m σ O).bind fun d O1 => (m2 σ O1).bind fun d2 O2 => lift ((itemsOf d O2).bind fun a => (itemsOf d2 O2).bind fun b => zipItm a b) O2) := h
  cases hm' : m σ O with
  | stuck => rw [hm'] at h'; exact h'.elim
  | err x O1 => rw [hm'] at h'; exact h'
  | ok d O1 =>
    rw [hm'] at h'
    rw [R.bind_ok] at h' ⊢
    cases hm2 : m2 σ O1 with
    | stuck => rw [hm2] at h'; exact h'.elim
    | err x O2 => rw [hm2] at h'; exact h'
    | ok d2 O2 =>
      rw [hm2] at h'
      have h2 : PostI _ ad H Rr (fun cl d H' => W cl d sv H') (lift ((itemsOf d O2).bind fun a => (itemsOf d2 O2).bind fun b => zipItm a b) O2) := h'
      intro ad' H' vs s' S' rv
      obtain ⟨v, v2, rfl, rv1, rv2⟩ := reps2 rv
      cases hi : itemsOf d O2 with
      | none => rw [hi] at h2; exact h2.elim
      | some a =>
        rw [hi] at h2
        cases hi2 : itemsOf d2 O2 with
        | none => rw [hi2] at h2; exact h2.elim
        | some b =>
          rw [hi2] at h2
          obtain ⟨ca, rfl, hw, hk⟩ := src_at S' rv1 hi
          obtain ⟨cb, rfl, hw2, hk2⟩ := src_at S' rv2 hi2
          obtain ⟨xs, hx, _⟩ := hk ad' O2 H' .refl S' hw
          obtain ⟨ys, hy, _⟩ := hk2 ad' O2 H' .refl S' hw2
          have h3 : PostI _ ad H Rr (fun cl d H' => W cl d sv H') (lift (zipItm a b) O2) := h2
          obtain ⟨ads, aw⟩ := a
          obtain ⟨bds, bw⟩ := b
          cases aw with
          | none => exact ⟨ca, cb, xs, ys, rfl, hx, hy, h3 ad' H' _ s' S' (yields_zip (it := ⟨ads, none⟩) (it' := ⟨bds, bw⟩) (fun ad2 O2 H2 s2 S2 _ => hk ad2 O2 H2 s2 S2 trivial) hk2) hw2⟩
          | some q =>
            cases bw with
            | none => exact ⟨ca, cb, xs, ys, rfl, hx, hy, h3 ad' H' _ s' S' (yields_zip (it := ⟨ads, some q⟩) (it' := ⟨bds, none⟩) hk (fun ad2 O2 H2 s2 S2 _ => hk2 ad2 O2 H2 s2 S2 trivial)) hw⟩
            | some q' => exact h3.elim
end
end CP
namespace CP
open PySem PySem.Spec PyProof.Rows L2

abbrev DG := D → DS
abbrev DGs := List D → DS
def onlyNx (Q : L2.St → Hp → Prop) : Ends := { nx := Q, rt := fun _ _ => False, bk := fun _ _ => False, ct := fun _ _ => False }
def SG2 (U : Univ) (c : Cs) (k : Nat) (tg : Expr) (g : DG) : Prop := ∀ (X : Cx) (W : WX), CtxOk U c k X W → ∃ t, PG X tg t ∧
  ∀ (ad : List Addr) (O : Store) (H : Hp) (σ : Env) (sv : L2.St) (d : D) (v : V) (Q : L2.St → Hp → Prop), Sim U ad O H → RepE U ad H σ sv → Rep U ad H d v → PostS U ad H (onlyNx Q) W (g d σ O) → t v sv H Q
def SGs2 (U : Univ) (c : Cs) (k : Nat) (tg : List Expr) (g : DGs) : Prop := ∀ (X : Cx) (W : WX), CtxOk U c k X W → ∃ t, PGs X tg t ∧
  ∀ (ad : List Addr) (O : Store) (H : Hp) (σ : Env) (sv : L2.St) (d : List D) (v : List V) (Q : L2.St → Hp → Prop), Sim U ad O H → RepE U ad H σ sv → Reps U ad H d v → PostS U ad H (onlyNx Q) W (g d σ O) → t v sv H Q
def gtNm (i : Nat) : DG := fun d σ O => .nx (σ.set i (some d)) O
def gtNil : DGs := fun ds σ O => match ds with
  | [] => .nx σ O
  | _ => .stuck
def gtCons (g : DG) (gs : DGs) : DGs := fun ds σ O => match ds with
  | d :: r => (g d σ O).seq (gs r)
  | [] => .stuck
def gtTup (n : Nat) (gs : DGs) : DG := fun d σ O => match seqT d O with
  | some l => if l.length = n then gs l σ O else .stuck
  | none => .stuck
/-- o[i] = d in a list of the store -/
def putAt (o i d : D) (O : Store) : Option Store := match o, i with
  | .ptr k, .int j => (match O[k]? with
    | some (.lst l) => (ixN l.length j).map fun n => O.set k (.lst (l.set n d))
    | _ => none)
  | _, _ => none
def gtSub (o i : DE) : DG := fun d σ O => (o σ O).st σ fun x O1 => (i σ O1).st σ fun y O2 => match putAt x y d O2 with
  | some O3 => .nx σ O3
  | none => .stuck
def Fl.only : Fl → Fl
  | .nx σ O => .nx σ O
  | .er x σ O => .er x σ O
  | _ => .stuck
def gSet (m : DE) (g : DG) : DS := fun σ O => (m σ O).st σ fun d O1 => (g d σ O1).only
theorem PostS.only {U : Univ} {ad : List Addr} {H : Hp} {Dn : Ends} {W : WX} : ∀ {r : Fl}, PostS U ad H Dn W r.only → PostS U ad H (onlyNx Dn.nx) W r
  | .nx _ _, h => h
  | .er _ _ _, h => h
  | .rt _ _, h => h.elim
  | .bk _ _, h => h.elim
  | .ct _ _, h => h.elim
  | .stuck, h => h
section
variable {U : Univ} {c : Cs} {k : Nat} {pos : Pos} {e : Expr} {es : List Expr} {m : DE} {g : DG} {gs : DGs}
theorem g2Name {i : Nat} {x : Str} (hi : c.N[i]? = some x) (hx : Loc c.sc x) (hf : c.sc.names.lookup x = some .local ∨ c.osc.names.lookup x = some .cell) : SG2 U c k (.Name x pos) (gtNm i) :=
  fun X W C => ⟨_, pgName C hi hx hf, fun ad O H σ sv d v Q S r q h => h ad H _ .refl S (r.set i q)⟩
theorem g2Nil : SGs2 U c k [] gtNil := fun X W C => ⟨_, pgs_nil, fun ad O H σ sv d v Q S r q h => by
  cases d with
  | nil => cases q; exact ⟨rfl, h ad H sv .refl S r⟩
  | cons a b => exact h.elim⟩
theorem g2Cons (h1 : SG2 U c k e g) (h2 : SGs2 U c k es gs) (hs : ∀ env : PySem.Env, (assignEach (e :: es) env).map (·.2) = assign e env :: (assignEach es env).map (·.2) := by intro _; rfl) : SGs2 U c k (e :: es) (gtCons g gs) := by
  intro X W C
  obtain ⟨t, p, f⟩ := h1 X W C
  obtain ⟨t', p', f'⟩ := h2 X W C
  refine ⟨_, pgs_cons p p' (hs _), fun ad O H σ sv ds vs Q S r q h => ?_⟩
  cases ds with
  | nil => exact h.elim
  | cons d ds =>
    obtain ⟨v, vr, rfl, q1, q2⟩ := q
    refine ⟨v, vr, rfl, f ad O H σ sv d v _ S r q1 ?_⟩
    refine PostS.mono (Dn := { onlyNx Q with nx := fun sv1 H1 => t' vr sv1 H1 Q }) (fun _ _ z => z) (fun _ _ z => z) (fun _ _ z => z) (fun _ _ z => z) (PostS.seqTo h ?_)
    intro sv1 H1 ad1 O1 σ1 s1 S1 r1 h1
    exact f' ad1 O1 H1 σ1 sv1 ds vr Q S1 r1 (q2.keep s1) h1
theorem g2Tup {n : Nat} (h : SGs2 U c k es gs) (hl : ∀ env : PySem.Env, (assignEach es env).length = es.length := by intro _; rfl)
    (hst : ∀ env : PySem.Env, (assignEach es env).findIdx? (·.1) = none := by intro _; rfl) (hh : c.hot = false := by rfl) : SG2 U c k (.Tuple es n pos) (gtTup es.length gs) := by
  intro X W C
  obtain ⟨t, p, f⟩ := h X W C
  obtain ⟨_, eu⟩ := C.u
  subst eu
  refine ⟨_, pg_tup (n := es.length) (C.calm hh) p (hl _) (hst _), fun ad O H σ sv d v Q S r q h => ?_⟩
  unfold gtTup at h
  split at h
  · rename_i l e1
    split at h
    · rename_i hn
      obtain ⟨a, xs, rfl, hs, t'⟩ := seqT_at S q e1
      exact ⟨a, xs, rfl, hs, by rw [← t'.length]; exact hn, f ad O H σ sv l xs Q S r t' h⟩
    · exact h.elim
  · exact h.elim
theorem put_at {ad : List Addr} {O O' : Store} {H : Hp} {o i d : D} {x y v : V} {Q : Hp → Prop} (S : Sim U ad O H) (ro : Rep U ad H o x) (ri : Rep U ad H i y) (rd : Rep U ad H d v) (e : putAt o i d O = some O')
    (h : ∀ H', Step ad H ad H' → Sim U ad O' H' → Q H') : rSetL x y v H Q := by
  unfold putAt at e
  split at e
  · rename_i kk j
    split at e
    · rename_i l e1
      obtain ⟨n, e2, rfl⟩ := Option.map_eq_some_iff.mp e
      obtain ⟨a, rfl, ha⟩ := ro
      have ri' : y = .int j := ri
      obtain ⟨xs, hx, rx⟩ := S.at_ kk a _ ha e1
      refine ⟨a, xs, j, n, rfl, ri', hx, by rw [← rx.length]; exact e2, ?_⟩
      have st := Step.put (H := H) (o := .lst (xs.set n v)) ha
      exact h _ st (S.put ha ⟨_, upd_same, (rx.set n rd).keep st⟩)
    · cases e
  · cases e
theorem g2Sub {o i : Expr} {mo mi : DE} (ho : SE U c k o mo) (hi : SE U c k i mi)
    (ha : ∀ (env : PySem.Env) v, assign (.Subscript o i pos) env v = (do
      let ov ← holding [v] (eval o env)
      let iv ← holding [v, ov] (eval i env)
      standAt pos
      holding [v, ov, iv] (setItem ov iv v)
      release [v, ov, iv] []) := by intro _ _; rfl) : SG2 U c k (.Subscript o i pos) (gtSub mo mi) := by
  intro X W C
  obtain ⟨to, po, fo⟩ := ho X W C
  obtain ⟨ti, pi, fi⟩ := hi X W C
  refine ⟨_, pg_sub po pi set_list (ha _), fun ad O H σ sv d v Q S r q h => fo ad O H σ sv _ S r (Post.mono (PostS.of r h) ?_)⟩
  rintro x H1 ⟨ad1, O1, dx, s1, S1, r1, h1⟩
  refine fi ad1 O1 H1 σ sv _ S1 (r.keep s1) (Post.mono (PostS.of (r.keep s1) h1) ?_)
  rintro y H2 ⟨ad2, O2, dy, s2, S2, r2, h2⟩
  split at h2
  · rename_i O3 e
    exact put_at S2 (r1.keep s2) r2 ((q.keep s1).keep s2) e fun H' s S => h2 ad2 H' sv s S (((r.keep s1).keep s2).keep s)
  · exact h2.elim
/-- target = value -/
theorem sAsg2 {tg : Expr} (he : SE U c k e m) (hg : SG2 U c k tg g) (hs : ∀ env : PySem.Env, swapsWithSole [tg] e pos.line env = pure false := by intro _; rfl) (hw : ∀ env : PySem.Env, env.scope = c.sc → swappedStores [tg] e env = pure none := by intro _ _; rfl)
    (h1 : ∀ env : PySem.Env, (assignEach [tg] env).map (·.2) = [assign tg env] := by intro _; rfl) : SS U c k (.Assign [tg] e pos) (gSet m g) := by
  intro X W C
  obtain ⟨t, p, f⟩ := he X W C
  obtain ⟨t', p', f'⟩ := hg X W C
  refine ⟨_, ps_asg p p' (hs _) (hw _ C.s) (h1 _), fun ad O H σ sv Dn S r h => f ad O H σ sv _ S r (Post.mono (PostS.of r h) ?_)⟩
  rintro v H1 ⟨ad1, O1, d, s1, S1, r1, h2⟩
  exact f' ad1 O1 H1 σ sv d v Dn.nx S1 (r.keep s1) r1 h2.only

def putF (f : Str) (d : D) : List Str → List D → List Str × List D
  | n :: ns, v :: vs => if n = f then (n :: ns, d :: vs) else let q := putF f d ns vs; (n :: q.1, v :: q.2)
  | _, _ => ([f], [d])
def putFld (cs : List Str) (f : Str) (o d : D) (O : Store) : Option Store := match o with
  | .ptr k => (match O[k]? with
    | some (.ins c ns vs) => if c ∈ cs ∧ ns.length < 1000 then some (O.set k (.ins c (putF f d ns vs).1 (putF f d ns vs).2)) else none
    | _ => none)
  | _ => none
def sFldS (cs : List Str) (f : Str) (o v : DE) : DS := fun σ O => (v σ O).st σ fun d O1 => (o σ O1).st σ fun x O2 => match putFld cs f x d O2 with
  | some O3 => .nx σ O3
  | none => .stuck
theorem putF_at {ad : List Addr} {H : Hp} {f : Str} {d : D} {v : V} : ∀ {ns : List Str} {vs : List D} {fs : List (Str × V)}, fs.map (·.1) = ns → Reps U ad H vs (fs.map (·.2)) → Rep U ad H d v →
    (L2.putF f v fs).map (·.1) = (putF f d ns vs).1 ∧ Reps U ad H (putF f d ns vs).2 ((L2.putF f v fs).map (·.2))
  | _, vs, [], h, r, q => by
    cases h
    have e : vs = [] := List.eq_nil_of_length_eq_zero (by have := r.length; simpa using this)
    subst e
    exact ⟨rfl, .cons q .nil⟩
  | _, [], p :: fs, h, r, q => absurd r.length (by simp)
  | _, d0 :: vs, (n, v0) :: fs, h, r, q => by
    subst h
    obtain ⟨v', t, e, q0, t0⟩ := r
    simp only [List.map_cons, List.cons.injEq] at e
    obtain ⟨rfl, rfl⟩ := e
    by_cases hn : n = f
    · subst hn
      simp only [L2.putF, putF, List.map_cons, if_true]
      exact ⟨trivial, .cons q t0⟩
    · obtain ⟨h1, h2⟩ := putF_at (f := f) (ns := fs.map (·.1)) rfl t0 q
      simp only [L2.putF, putF, List.map_cons, if_neg hn]
      exact ⟨by rw [h1], .cons q0 h2⟩
theorem sFldSet {cs : List Str} {f : Str} {o value : Expr} {pos' : Pos} {mo mv : DE} (ho : SE U c k o mo) (hv : SE U c k value mv) (hf : ∀ cl ∈ cs, ∃ C, U.mg cl = some (.ref C) ∧ Cls U.K C ∧ NoAttr U.K C f)
    (hs : ∀ env : PySem.Env, swapsWith value (some (.Attribute o f pos')) pos.line env = pure false := by intro _; rfl) : SS U c k (.Assign [.Attribute o f pos'] value pos) (sFldS cs f mo mv) := by
  intro X W C
  obtain ⟨to, po, fo⟩ := ho X W C
  obtain ⟨tv, pv, fv⟩ := hv X W C
  obtain ⟨_, eu⟩ := C.u
  subst eu
  refine ⟨_, ps_fld po pv (hs _), fun ad O H σ sv Dn S r h => fv ad O H σ sv _ S r (Post.mono (PostS.of r h) ?_)⟩
  rintro y H1 ⟨ad1, O1, dy, s1, S1, r1, h1⟩
  refine fo ad1 O1 H1 σ sv _ S1 (r.keep s1) (Post.mono (PostS.of (r.keep s1) h1) ?_)
  rintro x H2 ⟨ad2, O2, dx, s2, S2, r2, h2⟩
  split at h2
  · rename_i O3 e
    unfold putFld at e
    split at e
    · rename_i kk
      split at e
      · rename_i c' ns vs e1
        split at e
        · rename_i hc
          cases e
          obtain ⟨a, rfl, ha⟩ := r2
          obtain ⟨C', dx, fs, hx, hm, hn, ht⟩ := S2.at_ kk a _ ha e1
          obtain ⟨C2, hm2, hcl, hno⟩ := hf c' hc.1
          have : C' = C2 := by
            have := hm.symm.trans hm2
            cases this; rfl
          subst this
          have hlen : fs.length < 1000 := by have := congrArg List.length hn; rw [List.length_map] at this; omega
          obtain ⟨g1, g2⟩ := putF_at (f := f) hn ht (r1.keep s2)
          have st := Step.put (H := H2) (o := .ins C' dx (L2.putF f y fs)) ha
          refine ⟨a, C', dx, fs, rfl, hx, hcl, hno, hlen, h2 ad2 _ sv st (S2.put ha ⟨C', dx, _, upd_same, hm, g1, g2.keep st⟩) (((r.keep s1).keep s2).keep st)⟩
        · cases e
      · cases e
    · cases e
  · exact h2.elim
end

def reo {α : Type} (p : List Nat) (l : List α) : List α := p.filterMap fun i => l[i]?
structure BindK (K : PySem.W.Frag) (fd : FuncData) (ps : List Str) (n : Nat) (ks : List Str) (p : List Nat) : Prop where
  to : ∀ (s : Shared) (us ws : List Value), K.In s.heap → us.length = n → ws.length = ks.length → BindsTo s fd ⟨us, ks.zip ws⟩ (ps.zip (reo p (us ++ ws)))
theorem bindK_of {K : PySem.W.Frag} {x qual : Str} {params : Arguments} {body : List Stmt} {scope : Scope} {f : Addr} {fd : FuncData} {ps ks : List Str} {n : Nat} {p : List Nat} (F : FunD K x qual params body scope [] [] f fd)
    (h : ∀ (kV doc pm : Value) (an : Option Addr) (cdv ct : Value) (us ws : List Value), us.length = n → ws.length = ks.length → bindArgs (PySem.W.fnOf x qual params body scope .none kV doc pm an cdv ct) ⟨us, ks.zip ws⟩ = pure (ps.zip (reo p (us ++ ws)))) : BindK K fd ps n ks p := by
  obtain ⟨oc, od, dV, kV, doc, pm, an, cdv, ct, osl, rfl, lk, hcd, hD, hK⟩ := F.ex
  rcases hD with ⟨_, rfl⟩ | ⟨e, _⟩
  · exact ⟨fun s us ws X l1 l2 => .of_eq (h kV doc pm an cdv ct us ws l1 l2)⟩
  · exact absurd rfl e
theorem reps_reo {U : Univ} {ad : List Addr} {H : Hp} {ds : List D} {vs : List V} (r : Reps U ad H ds vs) : ∀ p : List Nat, Reps U ad H (reo p ds) (reo p vs)
  | [] => rfl
  | i :: p => by
    unfold reo
    rw [List.filterMap_cons, List.filterMap_cons]
    cases e : ds[i]? with
    | none => rw [r.none_of e]; exact reps_reo r p
    | some d =>
      obtain ⟨v, e2, q⟩ := r.get e
      rw [e2]
      exact .cons q (reps_reo r p)
theorem vals_reo {vs : List V} {us : List Value} (r : Vals vs us) : ∀ p : List Nat, Vals (reo p vs) (reo p us)
  | [] => .nil
  | i :: p => by
    unfold reo
    rw [List.filterMap_cons, List.filterMap_cons]
    cases e : vs[i]? with
    | none =>
      have e2 : us[i]? = none := List.getElem?_eq_none (by rw [← r.length]; exact List.getElem?_eq_none_iff.mp e)
      rw [e2]; exact vals_reo r p
    | some d =>
      obtain ⟨v, e2, q⟩ := r.get e
      rw [e2]
      exact .cons q (vals_reo r p)
def SK (U : Univ) (c : Cs) (k : Nat) (kws : List Keyword) (m : DA) : Prop := ∀ (X : Cx) (W : WX), CtxOk U c k X W → ∃ t, PK X kws t ∧ RdA U W t m
structure DefAtK (U : Univ) (x : Str) (k : Nat) (ps : List Str) (n : Nat) (ks : List Str) (p : List Nat) (m : DF) : Prop where
  ex : ∃ f fd, U.mg x = some (.ref f) ∧ PySem.W.keepIn U.K (.ref f) = true ∧ BindK U.K fd ps n ks p ∧ SF U k f fd ps m
structure MethAtK (U : Univ) (cl x : Str) (k : Nat) (ps : List Str) (n : Nat) (ks : List Str) (p : List Nat) (m : DF) : Prop where
  ex : ∃ C f fd, U.mg cl = some (.ref C) ∧ Cls U.K C ∧ Meth U.K C x f ∧ BindK U.K fd ps n ks p ∧ SF U k f fd ps m
def eCallK (n nk np : Nat) (p : List Nat) (m : DF) (ms mk : DA) : DE := fun σ O => (ms σ O).bind fun ds O1 => (mk σ O1).bind fun es O2 => if ds.length = n ∧ es.length = nk ∧ (reo p (ds ++ es)).length = np then m (reo p (ds ++ es)) O2 else .stuck
section
variable {U : Univ} {c : Cs} {k j n : Nat} {x : Str} {ps ks : List Str} {pm : List Nat} {m : DF} {p pos kpos : Pos} {e : Expr} {es : List Expr} {kws : List Keyword} {me : DE} {ms mk : DA} {nm : Option Str}
theorem skNil : SK U c k [] aNil := fun X W C => ⟨_, pk_nil, fun ad O H σ sv Q S r h => h ad H [] .refl S rfl⟩
theorem skCons (he : SE U c k e me) (ht : SK U c k kws mk) : SK U c k (⟨nm, e, kpos⟩ :: kws) (aCons me mk) := by
  intro X W C
  obtain ⟨t, p, f⟩ := he X W C
  obtain ⟨t', p', f'⟩ := ht X W C
  refine ⟨_, pk_cons p p', fun ad O H σ sv Q S r h => f ad O H σ sv _ S r (Post.mono (Post.bindL h) ?_)⟩
  rintro v H1 ⟨ad1, O1, d, s1, S1, r1, h1⟩
  refine f' ad1 O1 H1 σ sv _ S1 (r.keep s1) (PostL.mono (PostL.bindL h1) ?_)
  rintro vs H2 ⟨ad2, O2, ds, s2, S2, r2, h2⟩
  exact h2 ad2 H2 (v :: vs) .refl S2 (.cons (r1.keep s2) r2)
theorem callAtK {X : Cx} {W : WX} {f : Addr} {fd : FuncData} (C : CtxOk U c k X W) (hh : c.hot = false) (F : SF U j f fd ps m) (hj : j ≤ k) (hb : BindK U.K fd ps n ks pm) {pins : List (Addr × Obj)} {sv : L2.St} {H : Hp} {s : Shared} {Q : VK} {us ws : List Value} {vs zs : List V} {ad : List Addr} {O : Store} {ds : List D}
    (I : Inv X pins sv H s) (r : Vals vs us) (rz : Vals zs ws) (l1 : vs.length = n) (l2 : zs.length = ks.length) (S : Sim U ad O H) (rd : Reps U ad H ds (vs ++ zs)) (hl : (reo pm ds).length = ps.length) (h : Post U ad H Q (fun cl d H' => W cl d sv H') (m (reo pm ds) O)) :
    wpAny (model X.prog X.w) X.A (call (.ref f) us (ks.zip ws)) (EP X pins sv Q) X.xe s := by
  have kin : U.K.In s.heap := by
    obtain ⟨_, eu⟩ := C.u
    subst eu
    exact I.kIn
  have hb' := hb.to s us ws kin (by rw [← r.length]; exact l1) (by rw [← rz.length]; exact l2)
  refine wpAny_call (codeAny_mono (callAt C hh F hj hb' I (vals_reo (r.append rz) pm) S (reps_reo rd pm) hl h) fun z s' hq => ?_)
  cases z with
  | error e => exact hq
  | ok fl =>
    cases fl with
    | ret u => exact hq
    | next => exact hq
    | brk => exact hq
    | cont => exact hq
/-- f(k = v, ..) -/
theorem sCallK0 (F : DefAtK U x j ps 0 ks pm m) (hj : j ≤ k) (hg : c.sc.names.lookup x = some .globalImplicit) (hk : SK U c k kws mk) (hdb : (x == ("__debug__" : Str)) = false)
    (hall : ∀ env : PySem.Env, (backToKw pos (keywordEach kws env)).all (·.1.isSome) = true := by intro _; rfl) (hks : ∀ env : PySem.Env, (backToKw pos (keywordEach kws env)).filterMap (·.1) = ks := by intro _; rfl)
    (hpl : ∀ env : PySem.Env, ((backTo pos (starEach [] env)).any (·.1) || (backToKw pos (keywordEach kws env)).any (·.1.isNone)) = false := by intro _; rfl) (hh : c.hot = false := by rfl) :
    SE U c k (.Call (.Name x p) [] kws pos) (eCallK 0 ks.length ps.length pm m aNil mk) := by
  intro X W C
  obtain ⟨f, fd, hm, hkp, hb, hF⟩ := F.ex
  obtain ⟨t, pk, fk⟩ := hk X W C
  refine ⟨fun sv H Q => t sv H fun zs H1 => ∃ ad O ds, Sim U ad O H1 ∧ Reps U ad H1 ds zs ∧ zs.length = ks.length ∧ (reo pm ds).length = ps.length ∧ Post U ad H1 Q (fun cl d H' => W cl d sv H') (m (reo pm ds) O), ⟨fun pins s sv H Q I h => ?_⟩, ?_⟩
  · obtain ⟨_, eu⟩ := C.u
    refine wpAny_Call_Name_kw (ld_glob I (u := .ref f) (by show X.env.scope.names.lookup x = _; rw [C.s]; exact hg) (by subst eu; exact hm) ?_ hdb)
    refine PySem.W.callWith_KW0 (h₀ := X.base) I.ok.mod.kin (by subst eu; exact hkp) (hall _) ?_ (hpl _)
    refine thn (pk.run pos pins s sv H _ I h) fun ws s2 ⟨zs, H2, I2, rz, ad, O, ds, S, rd, hz, hl, hp⟩ => ⟨I2.kIn, ?_⟩
    rw [hks]
    exact callAtK (vs := []) (us := []) C hh hF hj hb I2 .nil rz rfl hz S rd hl hp
  · intro ad O H σ sv Q S rr h
    have h0 : Post U ad H Q (fun cl d H' => W cl d sv H') ((mk σ O).bind fun es O2 => if ([] : List D).length = 0 ∧ es.length = ks.length ∧ (reo pm ([] ++ es)).length = ps.length then m (reo pm ([] ++ es)) O2 else .stuck) := h
    refine fk ad O H σ sv _ S rr (PostL.mono (PostL.bind h0) ?_)
    rintro vs H1 ⟨ad1, O1, ds, s1, S1, r1, h1⟩
    split at h1
    · rename_i hl
      exact ⟨ad1, O1, ds, S1, r1, by rw [← r1.length]; exact hl.2.1, hl.2.2, h1⟩
    · exact h1.elim
/-- f(e, .., k = v, ..) -/
theorem sCallK (F : DefAtK U x j ps n ks pm m) (hj : j ≤ k) (hg : c.sc.names.lookup x = some .globalImplicit) (ha : SA U c k (e :: es) ms) (hk : SK U c k kws mk) (hdb : (x == ("__debug__" : Str)) = false)
    (hall : ∀ env : PySem.Env, (backToKw pos (keywordEach kws env)).all (·.1.isSome) = true := by intro _; rfl) (hks : ∀ env : PySem.Env, (backToKw pos (keywordEach kws env)).filterMap (·.1) = ks := by intro _; rfl)
    (he : ∀ env : PySem.Env, starEach (e :: es) env = (false, eval e env) :: starEach es env := by intro _; rfl)
    (hpl : ∀ env : PySem.Env, ((backTo pos (starEach (e :: es) env)).any (·.1) || (backToKw pos (keywordEach kws env)).any (·.1.isNone)) = false := by intro _; rfl) (hh : c.hot = false := by rfl) :
    SE U c k (.Call (.Name x p) (e :: es) kws pos) (eCallK n ks.length ps.length pm m ms mk) := by
  intro X W C
  obtain ⟨f, fd, hm, hkp, hb, hF⟩ := F.ex
  obtain ⟨ta, pa, fa⟩ := ha X W C
  obtain ⟨t, pk, fk⟩ := hk X W C
  refine ⟨fun sv H Q => ta sv H fun vs H0 => t sv H0 fun zs H1 => ∃ ad O ds, Sim U ad O H1 ∧ Reps U ad H1 ds (vs ++ zs) ∧ vs.length = n ∧ zs.length = ks.length ∧ (reo pm ds).length = ps.length ∧ Post U ad H1 Q (fun cl d H' => W cl d sv H') (m (reo pm ds) O), ⟨fun pins s sv H Q I h => ?_⟩, ?_⟩
  · obtain ⟨_, eu⟩ := C.u
    refine wpAny_Call_Name_kw (ld_glob I (u := .ref f) (by show X.env.scope.names.lookup x = _; rw [C.s]; exact hg) (by subst eu; exact hm) ?_ hdb)
    refine PySem.W.callWith_KW (h₀ := X.base) I.ok.mod.kin (by subst eu; exact hkp) (hall _) (thn (pa.run pos pins s sv H _ I h) fun us s1 ⟨vs, H1, I1, r, q⟩ => ?_) (hpl _) (he _)
    refine thn (pk.run pos pins s1 sv H1 _ I1 q) fun ws s2 ⟨zs, H2, I2, rz, ad, O, ds, S, rd, hv, hz, hl, hp⟩ => ⟨I2.kIn, ?_⟩
    rw [hks]
    exact callAtK C hh hF hj hb I2 r rz hv hz S rd hl hp
  · intro ad O H σ sv Q S rr h
    refine fa ad O H σ sv _ S rr (PostL.mono (PostL.bind h) ?_)
    rintro us H1 ⟨ad1, O1, ds, s1, S1, r1, h1⟩
    refine fk ad1 O1 H1 σ sv _ S1 (rr.keep s1) (PostL.mono (PostL.bind h1) ?_)
    rintro vs H2 ⟨ad2, O2, es', s2, S2, r2, h2⟩
    split at h2
    · rename_i hl
      exact ⟨ad2, O2, ds ++ es', S2, (r1.keep s2).append r2, by rw [← r1.length]; exact hl.1, by rw [← r2.length]; exact hl.2.1, hl.2.2, h2⟩
    · exact h2.elim

structure MkAt (U : Univ) (cl : Str) (k : Nat) (ps : List Str) (m : DF) : Prop where
  ex : ∃ C f fd, U.mg cl = some (.ref C) ∧ Mk U.K C f ∧ Binds U.K fd ps [] ∧ SF U k f fd ps m
structure MkAtK (U : Univ) (cl : Str) (k : Nat) (ps : List Str) (n : Nat) (ks : List Str) (p : List Nat) (m : DF) : Prop where
  ex : ∃ C f fd, U.mg cl = some (.ref C) ∧ Mk U.K C f ∧ BindK U.K fd ps (n + 1) ks p ∧ SF U k f fd ps m
noncomputable def mkIns (drop : Bool) (cl : Str) (m : DF) (g : List D → List D) (np : Nat) (ds : List D) (O : Store) : R D :=
  if (g (.ptr O.length :: ds)).length = np then (match m (g (.ptr O.length :: ds)) (O ++ [.ins cl [] []]) with
    | .ok .non O2 => fin drop O (.ptr O.length) O2
    | .err x O2 => finX drop O x O2
    | _ => .stuck) else .stuck
noncomputable def eMk (drop : Bool) (cl : Str) (m : DF) (np : Nat) (ms : DA) : DE := fun σ O => (ms σ O).bind fun ds O1 => mkIns drop cl m id np ds O1
noncomputable def eMkK (drop : Bool) (cl : Str) (m : DF) (np n nk : Nat) (p : List Nat) (ms mk : DA) : DE := fun σ O => (ms σ O).bind fun ds O1 => (mk σ O1).bind fun es O2 => if ds.length = n ∧ es.length = nk then mkIns drop cl m (reo p) np (ds ++ es) O2 else .stuck
theorem guards_make {A : Around} {C : Addr} {us : List Value} {kw : List (Str × Value)} (h : A.guards = some []) : (A.under (.builtin "type.__call__" ⟨.ref C :: us, kw⟩)).guards = some [] := by
  first | exact h | (simp [Around.under, Code.guards, pushGuards, h])
/-- C(..) at values: the new instance, then its __init__ -/
theorem makeAt {X : Cx} {W : WX} {Ca f : Addr} {fd : FuncData} {cl : Str} {drop : Bool} {g : List D → List D} (C : CtxOk U c k X W) (hh : c.hot = false) (hcl : U.mg cl = some (.ref Ca)) (M : Mk U.K Ca f) (F : SF U j f fd ps m) (hj : j + 1 ≤ k) {pins : List (Addr × Obj)} {sv : L2.St} {H : Hp} {s : Shared} {Q : VK} {us : List Value} {kw : List (Str × Value)}
    {gv : List V → List V} {gu : List Value → List Value} {vs : List V} {wsv : List Value} {ad : List Addr} {O : Store} {ds : List D} (hgd : ∀ {ad : List Addr} {H : Hp} {ds : List D} {vs : List V}, Reps U ad H ds vs → Reps U ad H (g ds) (gv vs)) (hgv : ∀ {vs : List V} {us : List Value}, Vals vs us → Vals (gv vs) (gu us))
    (hb : ∀ s : Shared, U.K.In s.heap → ∀ u, BindsTo s fd ⟨u :: us, kw⟩ (ps.zip (gu (u :: wsv)))) (I : Inv X pins sv H s) (r : Vals vs wsv) (S : Sim U ad O H) (rd : Reps U ad H ds vs) (h : Post U ad H Q (fun cl d H' => W cl d sv H') (mkIns drop cl m g ps.length ds O)) :
    wpAny (model X.prog X.w) X.A (call (.ref Ca) us kw) (EP X pins sv Q) X.xe s := by
  obtain ⟨TT, eu⟩ := C.u
  subst eu
  have I2 := Inv.made (C := Ca) I
  have hx : H (s.heap.objs.size + 1) = none := I.hok.fresh (Nat.le_succ _)
  have hdx : H s.heap.objs.size = none := I.hok.fresh (Nat.le_refl _)
  have ne : (s.heap.objs.size + 1 : Nat) ≠ s.heap.objs.size := Nat.succ_ne_self _
  have s1 := Step.new (o := .own (s.heap.objs.size + 1)) hdx (S.out hdx)
  have S1 := S.new (o := .own (s.heap.objs.size + 1)) hdx
  have hx1 : upd H s.heap.objs.size (.own (s.heap.objs.size + 1)) (s.heap.objs.size + 1) = none := by rw [upd_ne ne]; exact hx
  have s2 := Step.alloc (ad := ad) (o := .ins Ca s.heap.objs.size []) hx1
  have S2 := S1.alloc (o := .ins Ca s.heap.objs.size []) (d := .ins cl [] []) hx1 ⟨Ca, _, [], upd_same, hcl, rfl, .nil⟩
  have rp : Rep (⟨X.prog, X.w, X.K, X.mg, X.base, TT⟩ : Univ) (ad ++ [s.heap.objs.size + 1]) (upd (upd H s.heap.objs.size (.own (s.heap.objs.size + 1))) (s.heap.objs.size + 1) (.ins Ca s.heap.objs.size [])) (.ptr O.length) (.ref (s.heap.objs.size + 1)) := rep_ptr S
  have rds := hgd (Reps.cons rp ((rd.keep s1).keep s2))
  unfold mkIns at h
  split at h
  · rename_i hl
    have r2 := hgv (show Vals (V.ref (s.heap.objs.size + 1) :: vs) (Value.ref (s.heap.objs.size + 1) :: wsv) from .cons rfl r)
    refine wpAny_call (make_map (f := f) I.kIn M.makes M.init (beq_iff_eq.mp M.fn) (codeAny_mono (F.run _ X.stack _ _ ⟨Value.ref (s.heap.objs.size + 1) :: us, kw⟩ (gu (Value.ref (s.heap.objs.size + 1) :: wsv)) _ (fun v H' => v = .non ∧ Q (.ref (s.heap.objs.size + 1)) H') (fun cl d H' => W cl d sv H') _ _ _ ((((C.rm hh).mono hj).make Ca us kw).mono (Nat.le_refl _)) (guards_make C.gd)
      (I2.env0.make Ca us kw) (hb _ I2.kIn _) r2 S2 rds hl ?_) fun z s' hq' => ?_))
    · split at h
      · rename_i O2 e
        rw [e]
        intro ad' H' v st Sm rv
        refine ⟨rv, post_fin h S ((s1.trans s2).trans st) Sm (Rep.keep st rp)⟩
      · rename_i x O2 e
        rw [e]
        intro ad' H' cc dx st Sm rx
        exact post_finX h S ((s1.trans s2).trans st) Sm rx
      · exact h.elim
    · cases z with
      | error e => exact C.tk e s' (XE.of_call I2 (fun _ _ _ w => w) hq')
      | ok fl =>
        cases fl with
        | ret u =>
          obtain ⟨v, H', I3, rv, ev, q3⟩ := I2.after hq'
          subst ev
          exact ⟨rv, ⟨V.ref (s.heap.objs.size + 1), H', I3, rfl, q3⟩⟩
        | next => exact False.elim hq'
        | brk => exact False.elim hq'
        | cont => exact False.elim hq'
  · exact h.elim
/-- C(e, ..) -/
theorem sMk {cl : Str} {drop : Bool} (F : MkAt U cl j ps m) (hj : j + 1 ≤ k) (hg : c.sc.names.lookup cl = some .globalImplicit) (ha : SA U c k (e :: es) ms) (hdb : (cl == ("__debug__" : Str)) = false)
    (he : ∀ env : PySem.Env, starEach (e :: es) env = (false, eval e env) :: starEach es env := by intro _; rfl) (hpl : ∀ env : PySem.Env, (backTo pos (starEach es env)).any (·.1) = false := by intro _; rfl) (hh : c.hot = false := by rfl) :
    SE U c k (.Call (.Name cl p) (e :: es) [] pos) (eMk drop cl m ps.length ms) := by
  intro X W C
  obtain ⟨Ca, f, fd, hm, M, hb, hF⟩ := F.ex
  obtain ⟨t, pa, fa⟩ := ha X W C
  refine ⟨fun sv H Q => t sv H fun vs H1 => ∃ ad O ds, Sim U ad O H1 ∧ Reps U ad H1 ds vs ∧ Post U ad H1 Q (fun cl d H' => W cl d sv H') (mkIns drop cl m id ps.length ds O), ⟨fun pins s sv H Q I h => ?_⟩, ?_⟩
  · obtain ⟨_, eu⟩ := C.u
    refine wpAny_Call_Name_kw (ld_glob I (u := .ref Ca) (by show X.env.scope.names.lookup cl = _; rw [C.s]; exact hg) (by subst eu; exact hm) ?_ hdb)
    refine PySem.W.callWith_K (h₀ := X.base) I.ok.mod.kin (by subst eu; exact M.kp) (thn (pa.run pos pins s sv H _ I h) fun us s1 ⟨vs, H1, I1, r, ad, O, ds, S, rd, hp⟩ => ⟨I1.kIn, ?_⟩) (he _) (hpl _)
    have hlen : ds.length + 1 = ps.length := by
      unfold mkIns at hp
      split at hp
      · rename_i hl; simpa using hl
      · exact hp.elim
    refine makeAt (g := id) (gv := id) (gu := id) C hh hm M hF hj (fun r => r) (fun r => r) (fun s' X' u => ?_) I1 r S rd hp
    have := hb s' (u :: us) X' (by rw [List.append_nil, List.length_cons, ← r.length, ← rd.length]; exact hlen)
    rw [List.append_nil] at this
    exact this
  · intro ad O H σ sv Q S rr h
    refine fa ad O H σ sv _ S rr (PostL.mono (PostL.bind h) ?_)
    rintro vs H1 ⟨ad1, O1, ds, s1, S1, r1, h1⟩
    exact ⟨ad1, O1, ds, S1, r1, h1⟩
/-- C(k = v, ..) -/
theorem sMkK0 {cl : Str} {drop : Bool} (F : MkAtK U cl j ps 0 ks pm m) (hj : j + 1 ≤ k) (hg : c.sc.names.lookup cl = some .globalImplicit) (hk : SK U c k kws mk) (hdb : (cl == ("__debug__" : Str)) = false)
    (hall : ∀ env : PySem.Env, (backToKw pos (keywordEach kws env)).all (·.1.isSome) = true := by intro _; rfl) (hks : ∀ env : PySem.Env, (backToKw pos (keywordEach kws env)).filterMap (·.1) = ks := by intro _; rfl)
    (hpl : ∀ env : PySem.Env, ((backTo pos (starEach [] env)).any (·.1) || (backToKw pos (keywordEach kws env)).any (·.1.isNone)) = false := by intro _; rfl) (hh : c.hot = false := by rfl) :
    SE U c k (.Call (.Name cl p) [] kws pos) (eMkK drop cl m ps.length 0 ks.length pm aNil mk) := by
  intro X W C
  obtain ⟨Ca, f, fd, hm, M, hb, hF⟩ := F.ex
  obtain ⟨t, pk, fk⟩ := hk X W C
  refine ⟨fun sv H Q => t sv H fun zs H1 => ∃ ad O ds, Sim U ad O H1 ∧ Reps U ad H1 ds zs ∧ zs.length = ks.length ∧ Post U ad H1 Q (fun cl d H' => W cl d sv H') (mkIns drop cl m (reo pm) ps.length ds O), ⟨fun pins s sv H Q I h => ?_⟩, ?_⟩
  · obtain ⟨_, eu⟩ := C.u
    refine wpAny_Call_Name_kw (ld_glob I (u := .ref Ca) (by show X.env.scope.names.lookup cl = _; rw [C.s]; exact hg) (by subst eu; exact hm) ?_ hdb)
    refine PySem.W.callWith_KW0 (h₀ := X.base) I.ok.mod.kin (by subst eu; exact M.kp) (hall _) ?_ (hpl _)
    refine thn (pk.run pos pins s sv H _ I h) fun ws s2 ⟨zs, H2, I2, rz, ad, O, ds, S, rd, hz, hp⟩ => ⟨I2.kIn, ?_⟩
    rw [hks]
    exact makeAt (g := reo pm) (gv := reo pm) (gu := reo pm) (us := []) C hh hm M hF hj (fun r => reps_reo r pm) (fun r => vals_reo r pm) (fun s' X' u => hb.to s' [u] ws X' rfl (by rw [← rz.length]; exact hz)) I2 rz S rd hp
  · intro ad O H σ sv Q S rr h
    have h0 : Post U ad H Q (fun cl d H' => W cl d sv H') ((mk σ O).bind fun es O2 => if ([] : List D).length = 0 ∧ es.length = ks.length then mkIns drop cl m (reo pm) ps.length ([] ++ es) O2 else .stuck) := h
    refine fk ad O H σ sv _ S rr (PostL.mono (PostL.bind h0) ?_)
    rintro vs H1 ⟨ad1, O1, ds, s1, S1, r1, h1⟩
    split at h1
    · rename_i hl
      exact ⟨ad1, O1, ds, S1, r1, by rw [← r1.length]; exact hl.2, h1⟩
    · exact h1.elim
end
end CP
namespace CP
open PySem PySem.Spec PyProof.Rows L2

abbrev FM := D → List D → Store → Option (D × Store)
def OpM (U : Univ) (id : String) (g : FM) : Prop := ∀ (X : Cx) (W : WX) (c : Cs) (k : Nat), CtxOk U c k X W → ∃ r, MtR X id r ∧
  ∀ (dx : D) (ds : List D) (x : V) (xs : List V) (ad : List Addr) (O O' : Store) (H : Hp) (d : D) (Q : VK), Sim U ad O H → Rep U ad H dx x → Reps U ad H ds xs → g dx ds O = some (d, O') →
    (∀ v ad' H', Step ad H ad' H' → Sim U ad' O' H' → Rep U ad' H' d v → Q v H') → r x xs H Q
def tyD (T : String) (d : D) (O : Store) : Bool := match der d O with
  | .str _ => T == "str"
  | .lst _ => T == "list"
  | .rol _ => T == "list"
  | .dic _ _ _ => T == "dict"
  | _ => false
def eBM (T : String) (g : FM) (mo : DE) (ms : DA) : DE := fun σ O => (mo σ O).bind fun x O1 => if tyD T x O1 = true then (ms σ O1).bind fun ds O2 => match g x ds O2 with
  | some (d, O3) => .ok d O3
  | none => .stuck else .stuck
section
variable {U : Univ} {ad : List Addr} {H : Hp} {O : Store}
theorem ty_at (S : Sim U ad O H) {T : String} {d : D} {v : V} (r : Rep U ad H d v) (e : tyD T d O = true) : tyV U.K T v H := by
  unfold tyD at e
  split at e
  · rename_i z e0
    cases d with
    | str _ => cases e0; cases r; exact beq_iff_eq.mp e
    | ptr _ => obtain ⟨a, rfl, _, c⟩ := der_get S r e0; exact c.elim
    | _ => cases e0
  · rename_i l e0
    obtain ⟨a, xs, rfl, h, t⟩ := der_lst S r e0
    exact .inl ⟨beq_iff_eq.mp e, xs, .of h⟩
  · rename_i l e0
    obtain ⟨a, xs, rfl, h, t⟩ := der_rol S r e0
    exact .inl ⟨beq_iff_eq.mp e, xs, h⟩
  · rename_i t ks vs e0
    obtain ⟨a, rfl, c⟩ := der_dic S r e0
    refine .inr (.inr (.inl ⟨beq_iff_eq.mp e, ?_⟩))
    cases t with
    | false => obtain ⟨kvs, h, _⟩ := c; exact .inl ⟨kvs, h⟩
    | true => obtain ⟨kvs, h, _⟩ := c; exact .inr ⟨kvs, h⟩
  · cases e
end
section
variable {U : Univ} {c : Cs} {k : Nat} {T id : String} {name : Str} {g : FM} {apos cpos : Pos} {o e : Expr} {es : List Expr} {mo : DE} {ms : DA}
theorem sBM (pa : PlainAttrs T) (slot : Slot T name id) (hty : typeOf (.builtin id) = pure (.type "method_descriptor")) (hm : OpM U id g) (ho : SE U c k o mo) (ha : SA U c k (e :: es) ms)
    (hbase : ∀ env : PySem.Env, attributeBase o name env (eval o env) = eval o env := by intro _; rfl)
    (hfew : ∀ env : PySem.Env, ((backTo cpos (starEach (e :: es) env)).all (fun x => !x.1) && (backToKw cpos (keywordEach [] env)).all (fun x => x.1.isSome)
      && decide ((e :: es).length + ([] : List Keyword).length + (if ([] : List Keyword).isEmpty then 0 else 1) < 30)) = true := by intro _; rfl)
    (hline : (apos.endLine == cpos.line) = true := by rfl) (hs : ∀ env : PySem.Env, starEach (e :: es) env = (false, eval e env) :: starEach es env := by intro _; rfl) (hplain : ∀ env : PySem.Env, (backTo cpos (starEach es env)).any (·.1) = false := by intro _; rfl) :
    SE U c k (.Call (.Attribute o name apos) (e :: es) [] cpos) (eBM T g mo ms) := by
  intro X W C
  obtain ⟨t, po, fo⟩ := ho X W C
  obtain ⟨t', pa', fa⟩ := ha X W C
  obtain ⟨r, hr, hq⟩ := hm X W c k C
  obtain ⟨_, eu⟩ := C.u
  subst eu
  refine ⟨_, pe_bm pa slot hty hr po pa' (hbase _) (hfew _) hline (hs _) (hplain _), fun ad O H σ sv Q S rr h => fo ad O H σ sv _ S rr (Post.mono (Post.bind h) ?_)⟩
  rintro x H1 ⟨ad1, O1, dx, s1, S1, r1, h1⟩
  split at h1
  · rename_i hty1
    refine ⟨ty_at S1 r1 hty1, fa ad1 O1 H1 σ sv _ S1 (rr.keep s1) (PostL.mono (PostL.bind h1) ?_)⟩
    rintro xs H2 ⟨ad2, O2, ds, s2, S2, r2, h2⟩
    split at h2
    · rename_i d O3 e1
      exact hq dx ds x xs ad2 O2 O3 H2 d Q S2 (r1.keep s2) r2 e1 fun v ad' H' s S q => h2 ad' H' v s S q
    · exact h2.elim
  · exact h1.elim
theorem sBM0 (pa : PlainAttrs T) (slot : Slot T name id) (hty : typeOf (.builtin id) = pure (.type "method_descriptor")) (hm : OpM U id g) (ho : SE U c k o mo)
    (hbase : ∀ env : PySem.Env, attributeBase o name env (eval o env) = eval o env := by intro _; rfl) (hline : (apos.endLine == cpos.line) = true := by rfl) :
    SE U c k (.Call (.Attribute o name apos) [] [] cpos) (eBM T g mo aNil) := by
  intro X W C
  obtain ⟨t, po, fo⟩ := ho X W C
  obtain ⟨r, hr, hq⟩ := hm X W c k C
  obtain ⟨_, eu⟩ := C.u
  subst eu
  refine ⟨_, pe_bm0 pa slot hty hr po (hbase _) hline, fun ad O H σ sv Q S rr h => fo ad O H σ sv _ S rr (Post.mono (Post.bind h) ?_)⟩
  rintro x H1 ⟨ad1, O1, dx, s1, S1, r1, h1⟩
  split at h1
  · rename_i hty1
    refine ⟨ty_at S1 r1 hty1, ?_⟩
    have h2 : Post _ ad1 H1 Q (fun cl d H' => W cl d sv H') (match g dx [] O1 with
      | some (d, O3) => .ok d O3
      | none => .stuck) := h1
    split at h2
    · rename_i d O3 e1
      exact hq dx [] x [] ad1 O1 O3 H1 d Q S1 r1 rfl e1 fun v ad' H' s S q => h2 ad' H' v s S q
    · exact h2.elim
  · exact h1.elim
end

def dAppend : FM := fun x ds O => match x, ds with
  | .ptr k, [d] => (match O[k]? with
    | some (.lst l) => if l.length < sizeLine then some (.non, O.set k (.lst (l ++ [d]))) else none
    | _ => none)
  | _, _ => none
def dExtend : FM := fun x ds O => match x, ds with
  | .ptr k, [d] => (match O[k]?, lstT d O with
    | some (.lst l), some l2 => if l.length + l2.length ≤ sizeLine then some (.non, O.set k (.lst (l ++ l2))) else none
    | _, _ => none)
  | _, _ => none
def dPop : FM := fun x ds O => match x, ds with
  | .ptr k, [] => (match O[k]? with
    | some (.lst l) => (l[l.length - 1]?).map fun d => (d, O.set k (.lst l.dropLast))
    | _ => none)
  | .ptr k, [.int i] => (match O[k]? with
    | some (.lst l) => if 0 ≤ i ∧ i < 2 ^ 62 then (l[i.toNat]?).map fun d => (d, O.set k (.lst (l.eraseIdx i.toNat))) else none
    | _ => none)
  | _, _ => none
def dIndex : FM := fun x ds O => match ds with
  | [d] => (match toPy d, (lstR x O).bind toPys with
    | some p, some ps => if SeqAt.shaped p && SeqAt.shaped (.list ps) then ((ps.findIdx? fun z => PyData.eqv z p).map fun (j : Nat) => (D.int (j : Nat), O)) else none
    | _, _ => none)
  | _ => none
def dCount : FM := fun x ds O => match ds with
  | [.bl b] => ((lstR x O).bind blsOf).map fun bs => (D.int ((bs.count b : Nat) : Int), O)
  | [.int i] => ((lstR x O).bind intsOf).map fun bs => (D.int ((bs.count i : Nat) : Int), O)
  | _ => none
section
variable {U : Univ}
theorem reps0 {U : Univ} {ad : List Addr} {H : Hp} {vs : List V} (r : Reps U ad H [] vs) : vs = [] := r
theorem opAppend : OpM U "list.append" dAppend := by
  intro X W c k C
  refine ⟨_, mt_append, ?_⟩
  intro dx ds x xs ad O O' H d Q S r1 r2 e q
  unfold dAppend at e
  split at e
  · rename_i kk dd
    split at e
    · rename_i l e1
      split at e
      · rename_i hz
        cases e
        obtain ⟨a, rfl, ha⟩ := r1
        obtain ⟨v, rfl, rv⟩ := reps1 r2
        obtain ⟨ys, hy, ry⟩ := S.at_ kk a _ ha e1
        have st := Step.put (H := H) (o := .lst (ys ++ [v])) ha
        exact ⟨a, ys, v, rfl, rfl, hy, by rw [← ry.length]; exact hz, q _ ad _ st (S.put ha ⟨_, upd_same, (ry.append (.cons rv .nil)).keep st⟩) rfl⟩
      · cases e
    · cases e
  · cases e
theorem opExtend : OpM U "list.extend" dExtend := by
  intro X W c k C
  refine ⟨_, mt_extend, ?_⟩
  intro dx ds x xs ad O O' H d Q S r1 r2 e q
  unfold dExtend at e
  split at e
  · rename_i kk dd
    split at e
    · rename_i l l2 e1 e2
      split at e
      · rename_i hz
        cases e
        obtain ⟨a, rfl, ha⟩ := r1
        obtain ⟨v, rfl, rv⟩ := reps1 r2
        obtain ⟨ys, hy, ry⟩ := S.at_ kk a _ ha e1
        obtain ⟨b, zs, rfl, hb, rz⟩ := lstT_at S rv e2
        have st := Step.put (H := H) (o := .lst (ys ++ zs)) ha
        exact ⟨a, b, ys, zs, rfl, rfl, hy, hb, by rw [← ry.length, ← rz.length]; exact hz, q _ ad _ st (S.put ha ⟨_, upd_same, (ry.append rz).keep st⟩) rfl⟩
      · cases e
    · cases e
  · cases e
theorem Reps.dropLast {U : Univ} {ad : List Addr} {H : Hp} {ds : List D} {vs : List V} (r : Reps U ad H ds vs) : Reps U ad H ds.dropLast vs.dropLast := by
  rw [List.dropLast_eq_take, List.dropLast_eq_take, r.length]
  exact r.take _
theorem Reps.erase {U : Univ} {ad : List Addr} {H : Hp} : ∀ {ds : List D} {vs : List V} (i : Nat), Reps U ad H ds vs → Reps U ad H (ds.eraseIdx i) (vs.eraseIdx i)
  | [], _, _, h => by cases h; rfl
  | _ :: _, _, 0, h => by
    obtain ⟨v, r, rfl, _, t⟩ := h
    exact t
  | _ :: _, _, i + 1, h => by
    obtain ⟨v, r, rfl, q, t⟩ := h
    exact ⟨v, _, rfl, q, t.erase i⟩
theorem opPop : OpM U "list.pop" dPop := by
  intro X W c k C
  refine ⟨_, MtR.or mt_pop mt_popAt, ?_⟩
  intro dx ds x xs ad O O' H d Q S r1 r2 e q
  unfold dPop at e
  split at e
  · rename_i kk
    split at e
    · rename_i l e1
      obtain ⟨d1, e2, e3⟩ := Option.map_eq_some_iff.mp e
      cases e3
      obtain ⟨a, rfl, ha⟩ := r1
      cases r2
      obtain ⟨ys, hy, ry⟩ := S.at_ kk a _ ha e1
      obtain ⟨v, e4, rv⟩ := ry.get e2
      have st := Step.put (H := H) (o := .lst ys.dropLast) ha
      exact .inl ⟨a, ys, v, rfl, rfl, hy, by rw [← ry.length]; exact e4, q _ ad _ st (S.put ha ⟨_, upd_same, ry.dropLast.keep st⟩) (rv.keep st)⟩
    · cases e
  · rename_i kk i
    split at e
    · rename_i l e1
      split at e
      · rename_i hi
        obtain ⟨d1, e2, e3⟩ := Option.map_eq_some_iff.mp e
        cases e3
        obtain ⟨a, rfl, ha⟩ := r1
        obtain ⟨u, rfl, ru⟩ := reps1 r2
        have ru' : u = .int i := ru
        subst ru'
        obtain ⟨ys, hy, ry⟩ := S.at_ kk a _ ha e1
        obtain ⟨v, e4, rv⟩ := ry.get e2
        have st := Step.put (H := H) (o := .lst (ys.eraseIdx i.toNat)) ha
        have hlt : i.toNat < ys.length := (List.getElem?_eq_some_iff.mp e4).1
        exact .inr ⟨a, ys, i, i.toNat, v, rfl, rfl, hy, by omega, by omega, seqIndex_of hi.1 (by omega), e4, q _ ad _ st (S.put ha ⟨_, upd_same, (ry.erase _).keep st⟩) (rv.keep st)⟩
      · cases e
    · cases e
  · cases e
theorem dp_list {U : Univ} {ad : List Addr} {H : Hp} {O : Store} (S : Sim U ad O H) {x : D} {v : V} {l : List D} {ps : List PyData} (r : Rep U ad H x v) (e : lstR x O = some l) (e2 : toPys l = some ps) : ∃ a, v = .ref a ∧ Dp U.K H (.ref a) (.list ps) := by
  have hd : Dp U.K H v (.list ps) := by
    refine dp_der S r ?_
    unfold lstR at e
    split at e
    · rename_i l' e1
      cases e
      rw [e1]; unfold toPy; rw [e2]; rfl
    · rename_i l' e1
      cases e
      rw [e1]; unfold toPy; rw [e2]; rfl
    · cases e
  obtain ⟨a, xs, rfl, _, _⟩ := lstR_at S r e
  exact ⟨a, rfl, hd⟩
theorem opIndex : OpM U "list.index" dIndex := by
  intro X W c k C
  obtain ⟨_, eu⟩ := C.u
  subst eu
  have hu := units65 C.room
  refine ⟨_, mt_indexD hu, ?_⟩
  intro dx ds x xs ad O O' H d Q S r1 r2 e q
  unfold dIndex at e
  split at e
  · rename_i dd
    split at e
    · rename_i p ps e1 e2
      split at e
      · rename_i hs
        obtain ⟨j, e3, e4⟩ := Option.map_eq_some_iff.mp e
        cases e4
        obtain ⟨s1, s2⟩ := Bool.and_eq_true_iff.mp hs
        obtain ⟨l, e5, e6⟩ := Option.bind_eq_some_iff.mp e2
        obtain ⟨u, rfl, ru⟩ := reps1 r2
        obtain ⟨a, rfl, hd⟩ := dp_list S r1 e5 e6
        obtain ⟨h1, h2, h3⟩ := List.findIdx?_eq_some_iff_getElem.mp e3
        refine ⟨a, u, p, ps, j, ps[j], rfl, rfl, hd, dp_of ru e1, s2, s1, List.getElem?_eq_getElem h1, by simpa using h2, fun m z' hm hz => ?_, q _ ad H .refl S rfl⟩
        have hml : m < ps.length := by omega
        rw [List.getElem?_eq_getElem hml] at hz
        cases hz
        simpa using h3 m hm
      · cases e
    · cases e
  · cases e
theorem countB : ∀ (bs : List Bool) (b : Bool), countIn (.bool b) (bs.map PyData.bool) = ((bs.count b : Nat) : Int)
  | [], _ => rfl
  | x :: r, b => by
    rw [List.map_cons, countIn, countB r b, List.count_cons]
    cases x <;> cases b <;> simp [same] <;> omega
theorem readsB {hp : Heap} : ∀ {bs : List Bool} {us : List Value}, Vals (bs.map V.bl) us → ∃ as, ReadsAll hp us (bs.map PyData.bool) as
  | [], _, .nil => ⟨_, .nil⟩
  | b :: bs, _, .cons r t => by
    obtain ⟨as, h⟩ := readsB (hp := hp) t
    cases r
    exact ⟨_, .cons (.bool b) h⟩
theorem mt_countB {X : Cx} : MtR X "list.count" (fun x xs H Q => ∃ (p : Addr) (bs : List Bool) (b : Bool), x = .ref p ∧ xs = [.bl b] ∧ SqL X.K H p (bs.map V.bl) ∧ Q (.int (bs.count b : Nat)) H) := by
  intro pins s σ H x xs v us Q I rx rxs h
  obtain ⟨p, bs, b, rfl, rfl, hs, q⟩ := h
  cases rx
  obtain ⟨u, rfl, ru⟩ := rxs.one
  cases ru
  obtain ⟨its, rv, pl, hlen⟩ := I.list hs
  obtain ⟨as, ra⟩ := readsB (hp := s.heap) rv
  refine PyProof.Rows.count_list_bools pl.isList ra (List.all_eq_true.mpr fun z hz => by obtain ⟨b, _, rfl⟩ := List.mem_map.mp hz; rfl) ⟨.int (bs.count b : Nat), H, I.tok _, ⟨_, by rw [countB]⟩, q⟩
theorem opCount : OpM U "list.count" dCount := by
  intro X W c k C
  obtain ⟨_, eu⟩ := C.u
  subst eu
  refine ⟨_, MtR.or mt_countB mt_lcount, ?_⟩
  intro dx ds x xs ad O O' H d Q S r1 r2 e q
  unfold dCount at e
  split at e
  · obtain ⟨bs, e1, e2⟩ := Option.map_eq_some_iff.mp e
    cases e2
    obtain ⟨l, e3, e4⟩ := Option.bind_eq_some_iff.mp e1
    obtain ⟨u, rfl, ru⟩ := reps1 r2
    cases ru
    obtain ⟨a, xs, rfl, h, t⟩ := lstR_at S r1 e3
    have ev := reps_bls t (blsOf_eq e4)
    subst ev
    exact .inl ⟨a, bs, _, rfl, rfl, h, q _ ad H .refl S rfl⟩
  · obtain ⟨bs, e1, e2⟩ := Option.map_eq_some_iff.mp e
    cases e2
    obtain ⟨l, e3, e4⟩ := Option.bind_eq_some_iff.mp e1
    obtain ⟨u, rfl, ru⟩ := reps1 r2
    cases ru
    obtain ⟨a, xs, rfl, h, t⟩ := lstR_at S r1 e3
    have ev := reps_ints t (intsOf_eq e4)
    subst ev
    exact .inr ⟨a, bs, _, rfl, rfl, h, q _ ad H .refl S rfl⟩
  · cases e
end

def dJoin : FM := fun x ds O => match x, ds with
  | .str a, [d] => ((seqR d O).bind strsOf).bind fun ys => if (ys.map (·.length)).sum + ys.length * a.length ≤ 16777216 then some (.str (Txt.join a ys), O) else none
  | _, _ => none
def dSplit : FM := fun x ds O => match x, ds with
  | .str a, [.str b] => if (b.length == 0) = false ∧ a.length + 2 ≤ sizeLine then some (.lst ((Txt.split a b).map .str), O) else none
  | _, _ => none
def dUpper : FM := fun x ds O => match x, ds with
  | .str a, [] => if a.length ≤ 5592405 then some (.str (Txt.upper a), O) else none
  | _, _ => none
def dIsdigit : FM := fun x ds O => match x, ds with
  | .str a, [] => some (.bl (Txt.isdigit a), O)
  | _, _ => none
def dSCount : FM := fun x ds O => match x, ds with
  | .str a, [.str b] => some (.int (Txt.count a b), O)
  | _, _ => none
def dSIndex : FM := fun x ds O => match x, ds with
  | .str a, [.str b] => (match Builtin.Str.occurrences a b 0 a.length 1 with
    | i :: _ => some (.int (i : Nat), O)
    | [] => none)
  | _, _ => none
section
variable {U : Univ}
theorem opJoin : OpM U "str.join" dJoin := by
  intro X W c k C
  obtain ⟨_, eu⟩ := C.u
  subst eu
  refine ⟨_, mt_join, ?_⟩
  intro dx ds x xs ad O O' H d Q S r1 r2 e q
  unfold dJoin at e
  split at e
  · obtain ⟨ys, e1, e2⟩ := Option.bind_eq_some_iff.mp e
    obtain ⟨l, e3, e4⟩ := Option.bind_eq_some_iff.mp e1
    split at e2
    · rename_i hz
      cases e2
      cases r1
      obtain ⟨u, rfl, ru⟩ := reps1 r2
      obtain ⟨a, xs, rfl, h, t⟩ := seqR_at S ru e3
      have ev := reps_strs t (strsOf_eq e4)
      subst ev
      exact ⟨_, a, ys, rfl, rfl, h, hz, q _ ad H .refl S rfl⟩
    · cases e2
  · cases e
theorem opSplit : OpM U "str.split" dSplit := by
  intro X W c k C
  refine ⟨_, mt_split, ?_⟩
  intro dx ds x xs ad O O' H d Q S r1 r2 e q
  unfold dSplit at e
  split at e
  · split at e
    · rename_i hz
      cases e
      cases r1
      obtain ⟨u, rfl, ru⟩ := reps1 r2
      cases ru
      exact ⟨_, _, rfl, rfl, hz.1, hz.2, fun p hp => q _ ad _ (.new hp (S.out hp)) (S.new hp) (rep_lst S hp (reps_of_strs _))⟩
    · cases e
  · cases e
theorem opUpper : OpM U "str.upper" dUpper := by
  intro X W c k C
  refine ⟨_, mt_upper, ?_⟩
  intro dx ds x xs ad O O' H d Q S r1 r2 e q
  unfold dUpper at e
  split at e
  · split at e
    · rename_i hz
      cases e
      cases r1
      cases r2
      exact ⟨_, rfl, rfl, hz, q _ ad H .refl S rfl⟩
    · cases e
  · cases e
theorem opIsdigit : OpM U "str.isdigit" dIsdigit := by
  intro X W c k C
  refine ⟨_, mt_isdigit, ?_⟩
  intro dx ds x xs ad O O' H d Q S r1 r2 e q
  unfold dIsdigit at e
  split at e
  · cases e
    cases r1
    cases r2
    exact ⟨_, rfl, rfl, trivial, q _ ad H .refl S rfl⟩
  · cases e
theorem opSCount : OpM U "str.count" dSCount := by
  intro X W c k C
  refine ⟨_, mt_count, ?_⟩
  intro dx ds x xs ad O O' H d Q S r1 r2 e q
  unfold dSCount at e
  split at e
  · cases e
    cases r1
    obtain ⟨u, rfl, ru⟩ := reps1 r2
    cases ru
    exact ⟨_, _, rfl, rfl, q _ ad H .refl S rfl⟩
  · cases e
theorem opSIndex : OpM U "str.index" dSIndex := by
  intro X W c k C
  refine ⟨_, mt_sindex, ?_⟩
  intro dx ds x xs ad O O' H d Q S r1 r2 e q
  unfold dSIndex at e
  split at e
  · split at e
    · rename_i i rest e1
      cases e
      cases r1
      obtain ⟨u, rfl, ru⟩ := reps1 r2
      cases ru
      exact ⟨_, _, i, rest, rfl, rfl, e1, q _ ad H .refl S rfl⟩
    · cases e
  · cases e
end

section
variable {U : Univ} {c : Cs} {k : Nat} {apos cpos : Pos} {o e : Expr} {mo me : DE}
theorem sAppend (ho : SE U c k o mo) (he : SE U c k e me) (h1 : ∀ env : PySem.Env, attributeBase o "append" env (eval o env) = eval o env := by intro _; rfl)
    (h2 : ∀ env : PySem.Env, ((backTo cpos (starEach [e] env)).all (fun x => !x.1) && (backToKw cpos (keywordEach [] env)).all (fun x => x.1.isSome) && decide ([e].length + ([] : List Keyword).length + (if ([] : List Keyword).isEmpty then 0 else 1) < 30)) = true := by intro _; rfl)
    (h3 : (apos.endLine == cpos.line) = true := by rfl) (h4 : ∀ env : PySem.Env, starEach [e] env = (false, eval e env) :: starEach [] env := by intro _; rfl) :
    SE U c k (.Call (.Attribute o "append" apos) [e] [] cpos) (eBM "list" dAppend mo (aCons me aNil)) :=
  sBM F.plainAttrs_list F.slot_list_append F.type_list_append opAppend ho (saCons he saNil h4) h1 h2 h3 h4 (fun _ => rfl)
end
end CP
namespace CP
open PySem PySem.Spec PyProof.Rows L2

structure OwnC (U : Univ) (c : Str) (C : Addr) : Prop where
  at_ : U.mg c = some (.ref C)
  cl : Cls U.K C
  ha : PySem.W.findIn U.K (.ref C) "__class__" = some (some (.builtin "object.__class__"))
  hn : PySem.W.specialIn U.K (.builtin "object.__class__") "__get__" = some (some (.builtin "getset_descriptor.__get__"))
  ht : PySem.W.takesIn U.K (.builtin "object.__class__") = some true
  hm : PySem.W.mroIn U.K C (.type "object") = some true
structure IsiOk (U : Univ) (cs gs : List Str) (tab : Str → Str → Option Bool) (tabT : Str → String → Option Bool) : Prop where
  cls : ∀ c ∈ cs, ∃ C, OwnC U c C
  own : ∀ c ∈ cs, ∀ g b, tab c g = some b → ∃ C G, U.mg c = some (.ref C) ∧ U.mg g = some (.ref G) ∧ PySem.W.kitOne U.K (.ref C) (.ref G) = some b
  blt : ∀ g ∈ gs, ∃ G, U.mg g = some (.ref G) ∧ ∀ m ∈ bltTys, PySem.W.kitOne U.K (.type m) (.ref G) = some false
  ty : ∀ c ∈ cs, ∀ n b, tabT c n = some b → ∃ C, U.mg c = some (.ref C) ∧ PySem.W.kitOne U.K (.ref C) (.type n) = some b
def dIsi (cs gs : List Str) (tab : Str → Str → Option Bool) (tabT : Str → String → Option Bool) : FN := fun ds O => match ds with
  | [x, .ty n] => (match der x O with
    | .ins c _ _ => if c ∈ cs then (tabT c n).map .bl else none
    | _ => (tyName x O).bind fun m => (kitB m n).map .bl)
  | [x, .glo g] => (match der x O with
    | .ins c _ _ => if c ∈ cs then (tab c g).map .bl else none
    | _ => (tyName x O).bind fun m => if g ∈ gs ∧ m ∈ bltTys then some (.bl false) else none)
  | _ => none
section
variable {U : Univ}
theorem rel_ref {v : V} {C : Addr} (r : RelV v (.ref C)) : v = .ref C := by
  cases v with
  | ref a => have r' : Value.ref C = .ref a := r; cases r'; rfl
  | int i => obtain ⟨t, e⟩ := (show ∃ t, Value.ref C = Value.int i t from r); cases e
  | str i => obtain ⟨t, e⟩ := (show ∃ t, Value.ref C = Value.str i t from r); cases e
  | byt i => obtain ⟨t, e⟩ := (show ∃ t, Value.ref C = Value.bytes i t from r); cases e
  | flt i => obtain ⟨t, e⟩ := (show ∃ t, Value.ref C = Value.float i t from r); cases e
  | non => have r' : Value.ref C = .none := r; cases r'
  | bl b => have r' : Value.ref C = .bool b := r; cases r'
  | ty n => have r' : Value.ref C = .type n := r; cases r'
theorem isi_own {ad : List Addr} {O : Store} {H : Hp} (S : Sim U ad O H) {x : D} {v : V} {c : Str} {ns : List Str} {vs : List D} {C : Addr} (r : Rep U ad H x v) (e : der x O = .ins c ns vs) (h : OwnC U c C) : TyX U.K H v (.ref C) := by
  obtain ⟨a, C', dx, fs, rfl, hH, hm, _, _⟩ := der_ins S r e
  have : C' = C := by
    have := hm.symm.trans h.at_
    cases this; rfl
  subst this
  exact .base (.ins hH h.cl h.ha h.hn h.ht h.hm)
theorem opIsi {cs gs : List Str} {tab : Str → Str → Option Bool} {tabT : Str → String → Option Bool} (K : IsiOk U cs gs tab tabT) : OpN U (.builtin "isinstance") (dIsi cs gs tab tabT) := by
  intro X W c k hh C
  obtain ⟨_, eu⟩ := C.u
  subst eu
  refine ⟨_, call_isi, ?_⟩
  intro ds xs ad O H d Q S r e q
  unfold dIsi at e
  split at e
  · rename_i x n
    obtain ⟨v, u, rfl, rx, ry⟩ := reps2 r
    cases ry
    split at e
    · rename_i c' ns vs e0
      split at e
      · rename_i hc
        obtain ⟨b, e1, rfl⟩ := Option.map_eq_some_iff.mp e
        obtain ⟨Ca, hO⟩ := K.cls c' hc
        obtain ⟨C2, h1, h2⟩ := K.ty c' hc n b e1
        have : C2 = Ca := by
          have := h1.symm.trans hO.at_
          cases this; rfl
        subst this
        exact ⟨v, _, _, _, b, rfl, .ty n, isi_own S rx e0 hO, h2, q _ _ .refl S rfl⟩
      · cases e
    · obtain ⟨m, e1, e⟩ := Option.bind_eq_some_iff.mp e
      obtain ⟨b, e2, rfl⟩ := Option.map_eq_some_iff.mp e
      exact ⟨v, _, _, _, b, rfl, .ty n, tyName_at S rx e1, kit_ty e2, q _ _ .refl S rfl⟩
  · rename_i x g
    obtain ⟨v, u, rfl, rx, ry⟩ := reps2 r
    split at e
    · rename_i c' ns vs e0
      split at e
      · rename_i hc
        obtain ⟨b, e1, rfl⟩ := Option.map_eq_some_iff.mp e
        obtain ⟨Ca, hO⟩ := K.cls c' hc
        obtain ⟨C2, G, h1, h2, h3⟩ := K.own c' hc g b e1
        have : C2 = Ca := by
          have := h1.symm.trans hO.at_
          cases this; rfl
        subst this
        obtain ⟨w, hw, rw'⟩ := (show ∃ w, X.mg g = some w ∧ RelV u w from ry)
        have : w = .ref G := by
          have := hw.symm.trans h2
          cases this; rfl
        subst this
        obtain rfl := rel_ref rw'
        exact ⟨v, _, _, _, b, rfl, .own G, isi_own S rx e0 hO, h3, q _ _ .refl S rfl⟩
      · cases e
    · obtain ⟨m, e1, e⟩ := Option.bind_eq_some_iff.mp e
      split at e
      · rename_i hg
        cases e
        obtain ⟨G, h2, h3⟩ := K.blt g hg.1
        obtain ⟨w, hw, rw'⟩ := (show ∃ w, X.mg g = some w ∧ RelV u w from ry)
        have : w = .ref G := by
          have := hw.symm.trans h2
          cases this; rfl
        subst this
        obtain rfl := rel_ref rw'
        exact ⟨v, _, _, _, false, rfl, .own G, tyName_at S rx e1, h3 m hg.2, q _ _ .refl S rfl⟩
      · cases e
  · cases e
end

abbrev FR := List D → Store → R D
/-- a call that may change the store (it raises nothing) -/
def OpR2 (U : Univ) (k : Nat) (f : Value) (g : FR) : Prop := ∀ (X : Cx) (W : WX) (c : Cs), c.hot = false → CtxOk U c k X W → ∃ r, CallR X f r ∧
  ∀ (ds : List D) (xs : List V) (ad : List Addr) (O O' : Store) (H : Hp) (d : D) (Q : VK), Sim U ad O H → Reps U ad H ds xs → g ds O = .ok d O' →
    (∀ v ad' H', Step ad H ad' H' → Sim U ad' O' H' → Rep U ad' H' d v → Q v H') → r xs H Q
def okOnly {α : Type} (r : R α) : R α := match r with
  | .ok a O => .ok a O
  | _ => .stuck
def eN2 (g : FR) (ms : DA) : DE := fun σ O => (ms σ O).bind fun ds O1 => okOnly (g ds O1)
section
variable {U : Univ} {c : Cs} {k : Nat} {p pos : Pos} {x : Str} {e : Expr} {es : List Expr} {ms : DA} {g : FR} {id T : String}
theorem runN2 {W : WX} {r : List V → Hp → VK → Prop} {t : TA} (f : RdA U W t ms)
    (hr : ∀ (ds : List D) (xs : List V) (ad : List Addr) (O O' : Store) (H : Hp) (d : D) (Q : VK), Sim U ad O H → Reps U ad H ds xs → g ds O = .ok d O' →
    (∀ v ad' H', Step ad H ad' H' → Sim U ad' O' H' → Rep U ad' H' d v → Q v H') → r xs H Q) : Rd1 U W (tCB r t) (eN2 g ms) := by
  intro ad O H σ sv Q S rr h
  refine f ad O H σ sv _ S rr (PostL.mono (PostL.bind h) ?_)
  rintro vs H1 ⟨ad1, O1, ds, s1, S1, r1, h1⟩
  cases e : g ds O1 with
  | ok d O2 =>
    rw [e] at h1
    exact hr ds vs ad1 O1 O2 H1 d Q S1 r1 e fun v ad' H' s S q => h1 ad' H' v s S q
  | err _ _ => rw [e] at h1; exact h1.elim
  | stuck => rw [e] at h1; exact h1.elim
theorem sCallB2 (ho : OpR2 U k (.builtin id) g) (hh : c.hot = false) (hg : c.sc.names.lookup x = some .globalImplicit) (hm : U.mg x = none) (hv : bootBuiltins x = some (.builtin id)) (ha : SA U c k (e :: es) ms) (hn : x ≠ "__name__") (hdb : (x == ("__debug__" : Str)) = false)
    (he : ∀ env, starEach (e :: es) env = (false, eval e env) :: starEach es env := by intro _; rfl) (hpl : ∀ env, (backTo pos (starEach es env)).any (·.1) = false := by intro _; rfl) :
    SE U c k (.Call (.Name x p) (e :: es) [] pos) (eN2 g ms) := by
  intro X W C
  obtain ⟨t, pa, fa⟩ := ha X W C
  obtain ⟨r, hr, hq⟩ := ho X W c hh C
  obtain ⟨_, eu⟩ := C.u
  subst eu
  exact ⟨_, pe_callB hr (by show X.env.scope.names.lookup x = _; rw [C.s]; exact hg) hm hv pa hn hdb (he _) (hpl _), runN2 fa hq⟩
theorem OpN.to2 {f : Value} {g : FN} (h : OpN U f g) : OpR2 U k f (fun ds O => lift (g ds O) O) := by
  intro X W c hh C
  obtain ⟨r, hr, hq⟩ := h X W c k hh C
  refine ⟨r, hr, fun ds xs ad O O' H d Q S rr e q => ?_⟩
  replace e : lift (g ds O) O = .ok d O' := e
  cases e1 : g ds O with
  | none => rw [e1] at e; cases e
  | some d' =>
    rw [e1] at e
    cases e
    exact hq ds xs ad _ H _ Q S rr e1 fun v H' s S r => q v _ H' s S r
theorem OpR2.or {f : Value} {g g' : FR} {h : List D → Store → Bool} (a : OpR2 U k f g) (b : OpR2 U k f g') : OpR2 U k f (fun ds O => if h ds O = true then g ds O else g' ds O) := by
  intro X W c hh C
  obtain ⟨r, hr, hq⟩ := a X W c hh C
  obtain ⟨r', hr', hq'⟩ := b X W c hh C
  refine ⟨_, CallR.or hr hr', fun ds xs ad O O' H d Q S rr e q => ?_⟩
  replace e : (if h ds O = true then g ds O else g' ds O) = .ok d O' := e
  cases e1 : h ds O with
  | true => rw [e1] at e; exact .inl (hq ds xs ad O O' H d Q S rr e q)
  | false => rw [e1] at e; exact .inr (hq' ds xs ad O O' H d Q S rr e q)
end
section
variable {U : Univ} {c : Cs} {k j : Nat} {X : Cx} {W : WX} {f : Addr} {fd : FuncData} {ps : List Str} {m : DF}
/-- a def called below the running body, by values; it raises nothing -/
theorem callIn (C : CtxOk U c k X W) (F : SF U j f fd ps m) {A : Around} (hr : Room j A) (hgd : A.guards = some []) (he : ∀ {pins : List (Addr × Obj)} {sv : L2.St} {H : Hp} {s : Shared}, Inv X pins sv H s → Env0 X.prog X.w X.K X.mg X.base A X.stack s H) (hb : Binds U.K fd ps []) {pins : List (Addr × Obj)} {sv : L2.St} {H : Hp} {s : Shared} {us : List Value} {vs : List V} {ad : List Addr} {O O' : Store} {ds : List D} {d : D} {Q : VK}
    (I : Inv X pins sv H s) (r : Vals vs us) (S : Sim U ad O H) (rd : Reps U ad H ds vs) (hl : ds.length = ps.length) (h : m ds O = .ok d O') (hq : ∀ v ad' H', Step ad H ad' H' → Sim U ad' O' H' → Rep U ad' H' d v → Q v H') :
    wpAny (model X.prog X.w) A (call (.ref f) us) (EP X pins sv Q) X.xe s := by
  have hul : us.length = ps.length := by rw [← r.length, ← rd.length]; exact hl
  obtain ⟨_, eu⟩ := C.u
  subst eu
  have hb' := hb s us I.kIn (by rw [List.append_nil]; exact hul)
  rw [List.append_nil] at hb'
  refine wpAny_call (codeAny_mono (F.run A X.stack s H ⟨us, []⟩ us vs Q (fun _ _ _ => False) ad O ds hr hgd (he I) hb' r S rd hl (by rw [h]; exact fun ad' H' v s S q => hq v ad' H' s S q)) fun z s' hz => ?_)
  cases z with
  | error e => exact C.tk e s' (XE.of_call I (fun _ _ _ w => w.elim) hz)
  | ok fl =>
    cases fl with
    | ret u => exact I.after hz
    | next => exact hz
    | brk => exact hz
    | cont => exact hz
theorem guards_in1 {A : Around} (h : A.guards = some []) : A.in1.guards = some [] := h
end
def insC (d : D) (O : Store) : Option Str := match der d O with
  | .ins c _ _ => some c
  | _ => none
def isOne (cl : Str) : List D → Store → Bool := fun ds O => match ds with
  | [d] => decide (insC d O = some cl)
  | _ => false
/-- len of an own instance -/
def dLenOwn (cl : Str) (m : DF) : FR := fun ds O => match ds with
  | [d] => if insC d O = some cl then (match m [d] O with
    | .ok (.int i) O' => if 0 ≤ i ∧ i < 2 ^ 63 then .ok (.int i) O' else .stuck
    | _ => .stuck) else .stuck
  | _ => .stuck
def dLen2 (cl : Str) (m : DF) : FR := fun ds O => if isOne cl ds O = true then dLenOwn cl m ds O else lift (dLen ds O) O
section
variable {U : Univ} {k j : Nat} {cl : Str} {p : Str} {m : DF}
theorem insC_at {ad : List Addr} {O : Store} {H : Hp} (S : Sim U ad O H) {d : D} {v : V} {c : Str} (r : Rep U ad H d v) (e : insC d O = some c) : ∃ a C dx fs, v = .ref a ∧ H a = some (.ins C dx fs) ∧ U.mg c = some (.ref C) := by
  unfold insC at e
  split at e
  · rename_i c' ns vs e1
    cases e
    obtain ⟨a, C, dx, fs, h1, h2, h3, _, _⟩ := der_ins S r e1
    exact ⟨a, C, dx, fs, h1, h2, h3⟩
  · cases e
theorem opLenOwn (F : MethAt U cl "__len__" j [p] m) (hj : j + 1 ≤ k) : OpR2 U k (.builtin "len") (dLenOwn cl m) := by
  intro X W c hh C
  obtain ⟨Ca, f, fd, hm, hcl, hmt, hb, hF⟩ := F.ex
  obtain ⟨_, eu⟩ := C.u
  refine ⟨fun xs H Q => ∃ a dx fs ad O O' d i, xs = [.ref a] ∧ H a = some (.ins Ca dx fs) ∧ Sim U ad O H ∧ Rep U ad H d (.ref a) ∧ m [d] O = .ok (.int i) O' ∧ 0 ≤ i ∧ i < 2 ^ 63 ∧ ∀ v ad' H', Step ad H ad' H' → Sim U ad' O' H' → Rep U ad' H' (.int i) v → Q v H', ?_, ?_⟩
  · intro pins s σ H xs us Q I r h
    obtain ⟨a, dx, fs, ad, O, O', d, i, rfl, hH, S, rd, hmm, i0, i1, q⟩ := h
    obtain ⟨u, rfl, ru⟩ := vals1 r
    cases (show u = Value.ref a from ru)
    obtain ⟨mA, J, _⟩ := ins_get I.hok hH
    obtain ⟨od, J, _⟩ := J.look
    obtain ⟨mm, hFr⟩ := I.fr
    subst eu
    refine PySem.W.len_K hFr I.ok.mod.kin J hmt.at_ hmt.fn ?_
    refine wpAny_mono (callIn (Q := fun v H' => v = .int i ∧ Q v H') C hF (((C.rm hh).mono hj).in1) (guards_in1 C.gd) (fun I => I.env0.in1) hb I (us := [.ref a]) (vs := [.ref a]) (.cons rfl .nil) S (.cons rd .nil) rfl hmm (fun v ad' H' s S r => ⟨r, q v ad' H' s S r⟩)) (fun w s' hq => ?_) fun _ _ z => z
    obtain ⟨v, H', I', rv, rfl, qv⟩ := hq
    obtain ⟨t, rfl⟩ := rv
    exact ⟨⟨i0, i1⟩, .int i, H', I'.tok _, ⟨_, rfl⟩, qv⟩
  · intro ds xs ad O O' H d Q S rr e q
    unfold dLenOwn at e
    split at e
    · rename_i dd
      split at e
      · rename_i hc
        split at e
        · rename_i i O2 e1
          split at e
          · rename_i hi
            cases e
            obtain ⟨v, rfl, rv⟩ := reps1 rr
            obtain ⟨a, C', dx, fs, rfl, hH, hm'⟩ := insC_at S rv hc
            have : C' = Ca := by
              have := hm'.symm.trans hm
              cases this; rfl
            subst this
            exact ⟨a, dx, fs, ad, O, _, dd, i, rfl, hH, S, rv, e1, hi.1, hi.2, q⟩
          · cases e
        · cases e
      · cases e
    · cases e
theorem opLen2 (F : MethAt U cl "__len__" j [p] m) (hj : j + 1 ≤ k) : OpR2 U k (.builtin "len") (dLen2 cl m) := OpR2.or (opLenOwn F hj) opLen.to2
end
end CP
namespace CP
open PySem PySem.Spec PyProof.Rows L2

theorem sim_nil {U : Univ} {H : Hp} (t : LamX.Tabs U.T H) : Sim U [] [] H := ⟨List.nodup_nil, rfl, fun k a d e => by simp at e, t⟩
/-- what a law's defs stand on: the code objects and their tables -/
def TabsOn (cs : List (Addr × Addr)) (K : PySem.W.Frag) (h : Heap) : Prop := ∀ p ∈ cs, h.get? p.2 = some { cls := .none, data := .fields #[] } ∧ K.lookup p.2 = none ∧ PySem.W.codeHdIn K p.1 p.2 = true
/-- the law's def, called with the script, says True -/
theorem end_call {P : Program} {w : World} {K : PySem.W.Frag} {mg mb : Str → Option Value} {k : Nat} {fa a : Addr} {cs : List (Addr × Addr)} {T : List (Addr × Str)} {fd : FuncData} {x : Str} {m : DF} {sh : Shared} {vs : List Value} {ns : List Int}
    (kx : K.In sh.heap) (g0 : sh.heap.Ns mainGlobals mg) (b0 : sh.heap.Ns builtinsNs mb) (b1 : ∀ z : Str, z ≠ "__name__" → mb z = bootBuiltins z) (nl : sh.heap.NoLimit) (ng : sh.gens = #[])
    (tabs : TabsOn cs K sh.heap) (hTc : ∀ q ∈ T, ∃ p ∈ cs, q.1 = p.2)
    (bmod : ∃ (bm : Addr) (ob : Obj), mg "__builtins__" = some (.ref bm) ∧ bm ≠ builtinsNs ∧ sh.heap.get? bm = some ob ∧ ob.cls = .type "module" ∧ ob.dict = some builtinsNs ∧ ob.data = .plain)
    (oa : sh.heap.get? a = some { cls := .type "list", data := .seq vs.toArray }) (hi : IntsAre vs ns) (hl : ns.length ≤ sizeLine) (rm : Room k callerA)
    (F : ∀ base : Heap, K.In base → base.Ns mainGlobals mg → (∀ p ∈ cs, LamX.TabB base mg p.1 p.2) → SF ⟨P, w, K, mg, base, T⟩ k fa fd [x] m) (bd : ∀ (s : Shared) (u : Value), BindsTo s fd ⟨[u], []⟩ [(x, u)]) (hm : ∃ O, m [.rol (ns.map D.int)] [] = .ok (.bl true) O) :
    codeAny (model P w) callerA (.call (.ref fa) ⟨[.ref a], []⟩) (fun r z => r = .ok (.ret (.bool true)) ∧ OldK sh.heap z.heap ∧ z.os = sh.os ∧ AllBare z.gens) sh := by
  have rv := vals_ints hi
  have lv := hi.length
  have isTab : ∀ b, b ∈ cs.map (·.2) → sh.heap.get? b = some { cls := .none, data := .fields #[] } ∧ K.lookup b = none := fun b hb => by
    obtain ⟨p, hp, rfl⟩ := List.mem_map.mp hb
    exact ⟨(tabs p hp).1, (tabs p hp).2.1⟩
  have aNo : a ∉ cs.map (·.2) := fun z => by
    have q := (isTab a z).1
    rw [oa] at q; cases q
  have go : ∀ H : Hp, (∀ b, H b = none ∨ (b ∈ cs.map (·.2) ∧ H b = some (.tbl #[])) ∨ (b = a ∧ ∃ o xs, H b = some (.frz o (.lst xs)))) → (∀ b ∈ cs.map (·.2), H b = some (.tbl #[])) → SqL K H a (ns.map V.int) → HOk P w H sh.heap → (H a ≠ none → K.lookup a = none) →
      codeAny (model P w) callerA (.call (.ref fa) ⟨[.ref a], []⟩) (fun r z => r = .ok (.ret (.bool true)) ∧ OldK sh.heap z.heap ∧ z.os = sh.os ∧ AllBare z.gens) sh := by
    intro H on onT sq hok kn
    have below : ∀ {b : Addr} {o : Obj}, sh.heap.get? b = some o → H b = none → (hidT sh.heap H).get? b = some o := fun e z => hidT_get e z
    have plain : ∀ {b : Addr} {o : Obj}, sh.heap.get? b = some o → (o.cls = .none → False) → (∀ vs n, o.data = .seq vs n → False) → H b = none := by
      intro b o e h1 h2
      rcases on b with z | ⟨z, _⟩ | ⟨rfl, _⟩
      · exact z
      · rw [(isTab b z).1] at e
        cases e; exact (h1 rfl).elim
      · rw [oa] at e
        cases e; exact (h2 _ _ rfl).elim
    have nodict : ∀ {b : Addr} {o : Obj} {es : Array DictEntry} {ep : Nat}, sh.heap.get? b = some o → o.data = .dict es ep → H b = none := by
      intro b o es ep e hd
      rcases on b with z | ⟨z, _⟩ | ⟨rfl, _⟩
      · exact z
      · rw [(isTab b z).1] at e
        cases e; cases hd
      · rw [oa] at e
        cases e; cases hd
    have names : ∀ {b : Addr} {f : Str → Option Value}, sh.heap.Ns b f → (hidT sh.heap H).Ns b f := by
      rintro b f ⟨o, es, ep, e, hd, r⟩
      exact ⟨o, es, ep, below e (nodict e hd), hd, r⟩
    have kb : K.In (hidT sh.heap H) := by
      intro b o e
      refine below (kx b o e) ?_
      rcases on b with z | ⟨z, _⟩ | ⟨rfl, o', xs, z⟩
      · exact z
      · rw [(isTab b z).2] at e; cases e
      · rw [kn (by rw [z]; simp)] at e; cases e
    have md : Mod K mg (hidT sh.heap H) := by
      obtain ⟨mc, n1, n2⟩ := nl
      exact ⟨kb, names g0, ⟨mb, names b0, b1⟩, ⟨mc, names n1, n2⟩⟩
    have tb : ∀ p ∈ cs, LamX.TabB (hidT sh.heap H) mg p.1 p.2 := fun p hp => by
      obtain ⟨t1, t2, t3⟩ := tabs p hp
      have notG : mainGlobals ≠ p.2 := fun z => by
        obtain ⟨o, es, ep, e, hd, _⟩ := g0
        rw [z, t1] at e
        cases e; cases hd
      refine ⟨PySem.W.codeHd_of_K kb t3, ?_, notG⟩
      obtain ⟨bm, ob, m1, m2, m3, m4, m5, m6⟩ := bmod
      have n1 : bm ≠ mainGlobals := fun z => by
        obtain ⟨o, es, ep, e, hd, _⟩ := g0
        rw [← z, m3] at e
        cases e
        rw [m6] at hd; cases hd
      have n2 : bm ≠ p.2 := fun z => by
        rw [z, t1] at m3
        cases m3; cases m4
      exact ⟨bm, ob, m1, m2, n1, n2, below m3 (plain m3 (fun z => by rw [m4] at z; cases z) (fun _ _ z => by rw [m6] at z; cases z)), m4, m5, m6⟩
    have e0 : Env0 P w K mg (hidT sh.heap H) callerA [] sh H :=
      ⟨rfl, md, fun b o e => of_hidT e, Nat.le_of_eq (hidT_size _ _), trivial, fun b z => absurd (show b ∈ ([] : List Addr) from z) List.not_mem_nil, hok, .of_eq ng⟩
    have rp : Rep (⟨P, w, K, mg, hidT sh.heap H, T⟩ : Univ) [] H (.rol (ns.map D.int)) (.ref a) := by
      refine ⟨a, ns.map V.int, rfl, ?_, reps_of_ints ns⟩
      rcases sq with q | q
      · exact .inr ⟨q, List.not_mem_nil⟩
      · exact .inl (.inr q)
    have tt : LamX.Tabs T H := fun q hq => by
      obtain ⟨p, hp, e⟩ := hTc q hq
      exact LamX.TabS.nil (by rw [e]; exact onT _ (List.mem_map.mpr ⟨p, hp, rfl⟩))
    refine codeAny_mono ((F _ kb (names g0) tb).run callerA [] sh H ⟨[.ref a], []⟩ [.ref a] [.ref a] (fun v _ => v = .bl true) (fun _ _ _ => False) [] [] [.rol (ns.map D.int)] rm rfl e0 (bd sh (.ref a)) (.cons rfl .nil) (sim_nil tt) (.cons rp .nil) rfl ?_) fun r z hz => ?_
    · obtain ⟨O, e⟩ := hm
      rw [e]
      exact fun ad' H' v _ _ q => q
    · cases r with
      | error e =>
        obtain ⟨_, _, _, _, _, _, _, _, _, _, _, _, no⟩ := hz
        exact no.elim
      | ok fl =>
        cases fl with
        | next => exact hz.elim
        | brk => exact hz.elim
        | cont => exact hz.elim
        | ret u =>
          obtain ⟨v, H', os, bare, un, hok', rr, q⟩ := hz
          have q' : v = .bl true := q
          subst q'
          obtain rfl : u = Value.bool true := rr
          have noE : ∀ b : Addr, b ∉ ([] : List Addr) := fun _ => List.not_mem_nil
          have more : ∀ b ∈ cs.map (·.2), ∃ us : Array Value, z.heap.get? b = some { cls := .none, data := .fields us } := fun b hb => by
            obtain ⟨us, e⟩ := un.tbls b #[] (onT b hb)
            exact ⟨_, hok' b _ e⟩
          have same : ∀ b o, b ∉ cs.map (·.2) → sh.heap.get? b = some o → z.heap.get? b = some o := fun b o nb e => by
            rcases on b with q2 | ⟨q2, _⟩ | ⟨_, ob, xs, q2⟩
            · exact un.keep b o e q2 (fun y => noE b y) (fun y => noE b y)
            · exact absurd q2 nb
            · obtain ⟨p1, _⟩ := hok b _ q2
              obtain ⟨p2, _⟩ := hok' b _ (un.frzs b ob _ q2)
              rw [e] at p1
              cases p1
              exact p2
          refine ⟨rfl, ⟨fun b o e => ?_, fun b o e => ?_⟩, os, bare⟩
          · by_cases hb : b ∈ cs.map (·.2)
            · obtain ⟨us, hus⟩ := more b hb
              obtain ⟨p, hp, rfl⟩ := List.mem_map.mp hb
              obtain ⟨t1, _, t3⟩ := tabs p hp
              rw [t1] at e
              cases e
              exact .inr (.inl ⟨((PySem.W.codeHd_of_K kx t3).tab t1).isCodeTable, rfl, #[], us, rfl, by rw [Array.empty_append]; exact hus⟩)
            · exact .inl (same b o hb e)
          · by_cases hb : b ∈ cs.map (·.2)
            · obtain ⟨us, hus⟩ := more b hb
              exact ⟨_, hus⟩
            · exact ⟨o, same b o hb e⟩
  have okT : ∀ (H : Hp) b, b ∈ cs.map (·.2) → ObjOk P w H sh.heap b (.tbl #[]) := fun H b hb => (isTab b hb).1
  cases hk : K.lookup a with
  | some o =>
    have e := kx a o hk
    rw [oa] at e
    cases e
    refine go (fun b => if b ∈ cs.map (·.2) then some (.tbl #[]) else none) (fun b => ?_) (fun b hb => if_pos hb) (.inr ⟨_, vs.toArray, _, hk, rfl, rfl, rfl, by rw [List.size_toArray, lv]; exact hl, by simpa using rv⟩) (fun b u z => ?_) (fun z => absurd (if_neg aNo) z)
    · by_cases hb : b ∈ cs.map (·.2)
      · exact .inr (.inl ⟨hb, if_pos hb⟩)
      · exact .inl (if_neg hb)
    · by_cases hb : b ∈ cs.map (·.2)
      · have z' := (if_pos hb).symm.trans z
        cases z'
        exact okT _ b hb
      · have z' := (if_neg hb).symm.trans z
        cases z'
  | none =>
    refine go (fun b => if b = a then some (.frz { cls := .type "list", data := .seq vs.toArray } (.lst (ns.map V.int))) else if b ∈ cs.map (·.2) then some (.tbl #[]) else none) (fun b => ?_) (fun b hb => ?_) (.inl (.inr ⟨{ cls := .type "list", data := .seq vs.toArray }, if_pos rfl⟩)) (fun b u z => ?_) (fun _ => hk)
    · by_cases hb : b = a
      · exact .inr (.inr ⟨hb, _, _, if_pos hb⟩)
      · by_cases hc : b ∈ cs.map (·.2)
        · exact .inr (.inl ⟨hc, (if_neg hb).trans (if_pos hc)⟩)
        · exact .inl ((if_neg hb).trans (if_neg hc))
    · exact (if_neg (show ¬ b = a from fun z => aNo (z ▸ hb))).trans (if_pos hb)
    · by_cases hb : b = a
      · have z2 := (if_pos hb).symm.trans z
        cases z2
        subst hb
        exact ⟨oa, by rw [List.length_map]; exact hl, vs, _, rv, oa⟩
      · by_cases hc : b ∈ cs.map (·.2)
        · have z2 := ((if_neg hb).trans (if_pos hc)).symm.trans z
          cases z2
          exact okT _ b hc
        · have z2 := ((if_neg hb).trans (if_neg hc)).symm.trans z
          cases z2
/-- the goal that the head leaves, by the law's mirror -/
theorem law_end {l : PySem.W.OpenLaw} {n k : Nat} {q : Program} {loose : List Str} {XP : (Str → Option Value) → Heap → Prop} {YP : World → Heap → Prop} {d : DefRec} {x : Str} {m : DF}
    (hn : l.most = some n) (hn2 : n ≤ sizeLine) (hd : d.params.defaults = []) (rm : Room k callerA)
    (F : ∀ (w : World) (mg : Str → Option Value) (fa : Addr) (h : Heap), YP w h → h.Ns mainGlobals mg → mg d.name = some (.ref fa) →
      ∃ (K : PySem.W.Frag) (fd : FuncData) (cs : List (Addr × Addr)) (T : List (Addr × Str)), K.In h ∧ TabsOn cs K h ∧ (∀ q ∈ T, ∃ p ∈ cs, q.1 = p.2) ∧ (∀ (s : Shared) (u : Value), BindsTo s fd ⟨[u], []⟩ [(x, u)]) ∧ ∀ base : Heap, K.In base → base.Ns mainGlobals mg → (∀ p ∈ cs, LamX.TabB base mg p.1 p.2) → SF ⟨l.prog, w, K, mg, base, T⟩ k fa fd [x] m)
    (hm : ∀ ns : List Int, ns.length ≤ n → ∃ O, m [.rol (ns.map D.int)] [] = .ok (.bl true) O) : PySem.W.WalkO q loose XP YP l.row.toRowW d [] (fun f us => PySem.call f us) := by
  refine Att.attach_call hn hd ?_
  intro w s₀ sh mg mb fa o pm cd doc a us ns G Y ho hdt hcd hmg hobj hints hlen hg
  obtain ⟨K, fd, cs, T, kx, ht, hT, hb, hF⟩ := F w mg fa _ Y G.T.g hmg
  exact end_call kx G.T.g G.T.b G.T.builtins G.T.nolimit hg ht hT G.T.bmain hobj hints (Nat.le_trans hlen hn2) rm hF hb (hm ns hlen)

/-- the head's facts over a law's world -/
structure Says (fa : List He.Fa) (fn : List He.DefD) (tf : List (He.Defn × Str)) (ex : PySem.W.Frag → Bool) (U : Univ) : Prop where
  kin : U.K.In U.base
  ns : U.base.Ns mainGlobals U.mg
  d : He.SaysD fa fn U.K
  ex : ex U.K = true
  tabs : U.T = tf.map fun p => ((He.cT U.K p.1).2, p.2)
  tb : ∀ p ∈ tf, LamX.TabB U.base U.mg (He.cT U.K p.1).1 (He.cT U.K p.1).2
  nd : (tf.map fun p => (He.cT U.K p.1).2).Nodup
section
variable {fa : List He.Fa} {fn : List He.DefD} {tf : List (He.Defn × Str)} {ex : PySem.W.Frag → Bool} {U : Univ}
theorem Says.glo (c : Says fa fn tf ex U) {x : Str} (h : He.Fa.glo x ∈ fa) : U.mg x = some (.ref (He.ga U.K x)) := He.glo_ok c.kin c.ns (c.d.facts h)
theorem Says.free (c : Says fa fn tf ex U) {x : Str} (h : He.Fa.free x ∈ fa) : U.mg x = none := He.free_ok c.kin c.ns (c.d.facts h)
theorem Says.int (c : Says fa fn tf ex U) {x : Str} {i : Int} (h : He.Fa.int x i ∈ fa) : ∃ u, U.mg x = some u ∧ RelV (.int i) u := by
  obtain ⟨t, e⟩ := He.int_ok c.kin c.ns (c.d.facts h)
  exact ⟨_, e, t, rfl⟩
theorem Says.str (c : Says fa fn tf ex U) {x z : Str} (h : He.Fa.str x z ∈ fa) : ∃ u, U.mg x = some u ∧ RelV (.str z) u := by
  obtain ⟨t, e⟩ := He.str_ok c.kin c.ns (c.d.facts h)
  exact ⟨_, e, t, rfl⟩
end
section
variable {U : Univ} {c : Cs} {k : Nat} {pos : Pos}
theorem sGloI {x : Str} {i : Int} (hg : c.sc.names.lookup x = some .globalImplicit) (h : ∃ u, U.mg x = some u ∧ RelV (.int i) u) (hd : (x == ("__debug__" : Str)) = false) : SE U c k (.Name x pos) (eC (.int i)) := by
  obtain ⟨u, h1, h2⟩ := h
  exact sGlo hg h1 h2 (fun _ _ => rfl) hd
theorem sGloS {x : Str} {i : Str} (hg : c.sc.names.lookup x = some .globalImplicit) (h : ∃ u, U.mg x = some u ∧ RelV (.str i) u) (hd : (x == ("__debug__" : Str)) = false) : SE U c k (.Name x pos) (eC (.str i)) := by
  obtain ⟨u, h1, h2⟩ := h
  exact sGlo hg h1 h2 (fun _ _ => rfl) hd
/-- a class or a def as a value -/
theorem sGloR {x : Str} {a : Addr} (hg : c.sc.names.lookup x = some .globalImplicit) (h : U.mg x = some (.ref a)) (hd : (x == ("__debug__" : Str)) = false) : SE U c k (.Name x pos) (eC (.glo x)) :=
  sGlo (v := .ref a) hg h rfl (fun _ _ => ⟨_, h, rfl⟩) hd
/-- a built-in type as a value -/
theorem sTy {x : Str} {n : String} (hg : c.sc.names.lookup x = some .globalImplicit) (hm : U.mg x = none) (hb : bootBuiltins x = some (.type n)) (hn : x ≠ "__name__") (hd : (x == ("__debug__" : Str)) = false) : SE U c k (.Name x pos) (eC (.ty n)) := by
  intro X W C
  obtain ⟨_, eu⟩ := C.u
  subst eu
  refine ⟨tC (.ty n), ⟨fun pins s sv H Q I h => ?_⟩, fun ad O H σ sv Q S q h => h ad H _ .refl S rfl⟩
  exact ld_blt I (by show X.env.scope.names.lookup x = _; rw [C.s]; exact hg) hm hb ⟨.ty n, H, I, rfl, h⟩ hn hd
end
/-- tuple(range(n)) -/
def eTupRg (m : DE) : DE := fun σ O => (m σ O).bind fun d O1 => match d with
  | .int j => if j.toNat ≤ sizeLine ∧ j < 2 ^ 62 ∧ -(2 ^ 62) ≤ j then .ok (.tup ((List.range j.toNat).map fun i => D.int (i : Nat))) O1 else .stuck
  | _ => .stuck
end CP
namespace CP
open PySem PySem.Spec PyProof.Rows L2

def kB (k : Option NameKind) (f : NameKind → Bool) : Bool := match k with
  | some z => f z
  | none => false
def isLo : NameKind → Bool
  | .local => true
  | _ => false
def isCe : NameKind → Bool
  | .cell => true
  | _ => false
def isFr : NameKind → Bool
  | .free => true
  | _ => false
def isGl : NameKind → Bool
  | .globalImplicit => true
  | _ => false
theorem lo_of {z : Option NameKind} (h : kB z isLo = true) : z = some .local := by
  cases z with
  | none => cases h
  | some q => cases q <;> first | rfl | cases h
theorem ce_of {z : Option NameKind} (h : kB z isCe = true) : z = some .cell := by
  cases z with
  | none => cases h
  | some q => cases q <;> first | rfl | cases h
theorem fr_of {z : Option NameKind} (h : kB z isFr = true) : z = some .free := by
  cases z with
  | none => cases h
  | some q => cases q <;> first | rfl | cases h
theorem gl_of {z : Option NameKind} (h : kB z isGl = true) : z = some .globalImplicit := by
  cases z with
  | none => cases h
  | some q => cases q <;> first | rfl | cases h
/-- a name that is read -/
def vB (c : Cs) (i : Nat) (x : Str) : Bool := decide (c.N[i]? = some x) && ((kB (c.sc.names.lookup x) isLo || kB (c.sc.names.lookup x) isCe || kB (c.sc.names.lookup x) isFr) && (!(x == ("__debug__" : Str)) && !(x == ("__classdict__" : Str))))
/-- a name that is written -/
def aB (c : Cs) (i : Nat) (x : Str) : Bool := decide (c.N[i]? = some x) && (kB (c.sc.names.lookup x) isLo || (kB (c.sc.names.lookup x) isCe && kB (c.osc.names.lookup x) isCe))
/-- a global's name -/
def gB (c : Cs) (x : Str) : Bool := kB (c.sc.names.lookup x) isGl && (!(x == ("__debug__" : Str)) && !(x == ("__name__" : Str)))
theorem not_t {b : Bool} (h : (!b) = true) : b = false := by simpa using h
section
variable {U : Univ} {c : Cs} {k : Nat} {pos p p' : Pos} {x : Str}
theorem gB_lk (h : gB c x = true) : c.sc.names.lookup x = some .globalImplicit := gl_of (Bool.and_eq_true_iff.mp h).1
theorem gB_db (h : gB c x = true) : (x == ("__debug__" : Str)) = false := not_t (Bool.and_eq_true_iff.mp (Bool.and_eq_true_iff.mp h).2).1
theorem gB_nm (h : gB c x = true) : x ≠ "__name__" := by
  have := not_t (Bool.and_eq_true_iff.mp (Bool.and_eq_true_iff.mp h).2).2
  simpa using this
theorem wV (i : Nat) (h : vB c i x = true) : SE U c k (.Name x pos) (eV i) := by
  obtain ⟨h1, h⟩ := Bool.and_eq_true_iff.mp h
  obtain ⟨h2, h⟩ := Bool.and_eq_true_iff.mp h
  obtain ⟨h3, h4⟩ := Bool.and_eq_true_iff.mp h
  refine sVar (of_decide_eq_true h1) ?_ (not_t h3) (not_t h4)
  rcases Bool.or_eq_true_iff.mp h2 with h2 | h2
  · rcases Bool.or_eq_true_iff.mp h2 with h2 | h2
    · exact .inl (lo_of h2)
    · exact .inr (.inl (ce_of h2))
  · exact .inr (.inr (fr_of h2))
theorem aB_1 {i : Nat} (h : aB c i x = true) : c.N[i]? = some x := of_decide_eq_true (Bool.and_eq_true_iff.mp h).1
theorem aB_2 {i : Nat} (h : aB c i x = true) : Loc c.sc x := by
  rcases Bool.or_eq_true_iff.mp (Bool.and_eq_true_iff.mp h).2 with h | h
  · exact .inl (lo_of h)
  · exact .inr (ce_of (Bool.and_eq_true_iff.mp h).1)
theorem aB_3 {i : Nat} (h : aB c i x = true) : c.sc.names.lookup x = some .local ∨ c.osc.names.lookup x = some .cell := by
  rcases Bool.or_eq_true_iff.mp (Bool.and_eq_true_iff.mp h).2 with h | h
  · exact .inl (lo_of h)
  · exact .inr (ce_of (Bool.and_eq_true_iff.mp h).2)
theorem wSet {e : Expr} {m : DE} (i : Nat) (he : SE U c k e m) (h : aB c i x = true) (hs : ∀ env : PySem.Env, swapsWith e (some (.Name x p')) pos.line env = pure false := by intro _; rfl) : SS U c k (.Assign [.Name x p'] e pos) (sSet i m) :=
  sAssign he (aB_1 h) (aB_2 h) (aB_3 h) hs
theorem wgN (i : Nat) (h : aB c i x = true) : SG U c (.Name x pos) (.nm i) := sgName (aB_1 h) (aB_2 h) (aB_3 h)
theorem wgsC {es : List Expr} {js : List Nat} (i : Nat) (h : aB c i x = true) (ht : SGs U c es js) : SGs U c (.Name x pos :: es) (i :: js) := sgsCons (aB_1 h) (aB_2 h) (aB_3 h) ht
theorem wgNst {es : List Expr} {js : List Nat} {n n2 : Nat} {p2 p3 : Pos} (i : Nat) (h : aB c i x = true) (ht : SGs U c es js) (hn : es.length = js.length)
    (hl : ∀ env : PySem.Env, (assignEach es env).length = es.length := by intro _; rfl) (hst : ∀ env : PySem.Env, (assignEach es env).findIdx? (·.1) = none := by intro _; rfl)
    (hl2 : ∀ env : PySem.Env, (assignEach [.Tuple es n p2, .Name x p3] env).length = 2 := by intro _; rfl) (hst2 : ∀ env : PySem.Env, (assignEach [.Tuple es n p2, .Name x p3] env).findIdx? (·.1) = none := by intro _; rfl) (hh : c.hot = false := by rfl) :
    SG U c (.Tuple [.Tuple es n p2, .Name x p3] n2 pos) (.tn js i) := sgNst ht hn (aB_1 h) (aB_2 h) (aB_3 h) hl hst hl2 hst2 hh
theorem wg2 (i : Nat) (h : aB c i x = true) : SG2 U c k (.Name x pos) (gtNm i) := g2Name (aB_1 h) (aB_2 h) (aB_3 h)
theorem wGI {i : Int} (h : gB c x = true) (f : ∃ u, U.mg x = some u ∧ RelV (.int i) u) : SE U c k (.Name x pos) (eC (.int i)) := sGloI (gB_lk h) f (gB_db h)
theorem wGS {i : Str} (h : gB c x = true) (f : ∃ u, U.mg x = some u ∧ RelV (.str i) u) : SE U c k (.Name x pos) (eC (.str i)) := sGloS (gB_lk h) f (gB_db h)
theorem wGR {a : Addr} (h : gB c x = true) (f : U.mg x = some (.ref a)) : SE U c k (.Name x pos) (eC (.glo x)) := sGloR (gB_lk h) f (gB_db h)
theorem wTy {n : String} (h : gB c x = true) (hm : U.mg x = none) (hb : bootBuiltins x = some (.type n)) : SE U c k (.Name x pos) (eC (.ty n)) := sTy (gB_lk h) hm hb (gB_nm h) (gB_db h)
variable {e : Expr} {es : List Expr} {ms : DA} {id T : String}
theorem wB {g : FN} (h : gB c x = true) (hm : U.mg x = none) (hv : bootBuiltins x = some (.builtin id)) (ho : OpN U (.builtin id) g) (ha : SA U c k (e :: es) ms)
    (he : ∀ env, starEach (e :: es) env = (false, eval e env) :: starEach es env := by intro _; rfl) (hpl : ∀ env, (backTo pos (starEach es env)).any (·.1) = false := by intro _; rfl) (hh : c.hot = false := by rfl) : SE U c k (.Call (.Name x p) (e :: es) [] pos) (eN g ms) :=
  sCallB ho hh (gB_lk h) hm hv ha (gB_nm h) (gB_db h) he hpl
theorem wB2 {g : FR} (h : gB c x = true) (hm : U.mg x = none) (hv : bootBuiltins x = some (.builtin id)) (ho : OpR2 U k (.builtin id) g) (ha : SA U c k (e :: es) ms)
    (he : ∀ env, starEach (e :: es) env = (false, eval e env) :: starEach es env := by intro _; rfl) (hpl : ∀ env, (backTo pos (starEach es env)).any (·.1) = false := by intro _; rfl) (hh : c.hot = false := by rfl) : SE U c k (.Call (.Name x p) (e :: es) [] pos) (eN2 g ms) :=
  sCallB2 ho hh (gB_lk h) hm hv ha (gB_nm h) (gB_db h) he hpl
theorem wT {g : FN} (h : gB c x = true) (hm : U.mg x = none) (hv : bootBuiltins x = some (.type T)) (ho : OpN U (.type T) g) (ha : SA U c k (e :: es) ms)
    (he : ∀ env, starEach (e :: es) env = (false, eval e env) :: starEach es env := by intro _; rfl) (hpl : ∀ env, (backTo pos (starEach es env)).any (·.1) = false := by intro _; rfl) (hh : c.hot = false := by rfl) : SE U c k (.Call (.Name x p) (e :: es) [] pos) (eN g ms) :=
  sCallT ho hh (gB_lk h) hm hv ha (gB_nm h) (gB_db h) he hpl
theorem wCall {j : Nat} {ps : List Str} {m : DF} (F : DefAt U x j ps m) (hj : j ≤ k) (h : gB c x = true) (ha : SA U c k (e :: es) ms)
    (he : ∀ env, starEach (e :: es) env = (false, eval e env) :: starEach es env := by intro _; rfl) (hpl : ∀ env, (backTo pos (starEach es env)).any (·.1) = false := by intro _; rfl) (hh : c.hot = false := by rfl) : SE U c k (.Call (.Name x p) (e :: es) [] pos) (eCall ps.length m ms) :=
  sCall F hj (gB_lk h) ha (gB_db h) he hpl hh
theorem wCall0 {j : Nat} {ps : List Str} {m : DF} (F : DefAt U x j ps m) (hj : j ≤ k) (h : gB c x = true) (hh : c.hot = false := by rfl) : SE U c k (.Call (.Name x p) [] [] pos) (eCall ps.length m aNil) := sCall0 F hj (gB_lk h) (gB_db h) hh
theorem wCallK0 {j : Nat} {ps ks : List Str} {pm : List Nat} {m : DF} {kws : List Keyword} {mk : DA} (F : DefAtK U x j ps 0 ks pm m) (hj : j ≤ k) (h : gB c x = true) (hk : SK U c k kws mk)
    (hall : ∀ env : PySem.Env, (backToKw pos (keywordEach kws env)).all (·.1.isSome) = true := by intro _; rfl) (hks : ∀ env : PySem.Env, (backToKw pos (keywordEach kws env)).filterMap (·.1) = ks := by intro _; rfl)
    (hpl : ∀ env : PySem.Env, ((backTo pos (starEach [] env)).any (·.1) || (backToKw pos (keywordEach kws env)).any (·.1.isNone)) = false := by intro _; rfl) (hh : c.hot = false := by rfl) :
    SE U c k (.Call (.Name x p) [] kws pos) (eCallK 0 ks.length ps.length pm m aNil mk) := sCallK0 F hj (gB_lk h) hk (gB_db h) hall hks hpl hh
theorem wMk {j : Nat} {ps : List Str} {m : DF} (drop : Bool) (F : MkAt U x j ps m) (hj : j + 1 ≤ k) (h : gB c x = true) (ha : SA U c k (e :: es) ms)
    (he : ∀ env : PySem.Env, starEach (e :: es) env = (false, eval e env) :: starEach es env := by intro _; rfl) (hpl : ∀ env : PySem.Env, (backTo pos (starEach es env)).any (·.1) = false := by intro _; rfl) (hh : c.hot = false := by rfl) :
    SE U c k (.Call (.Name x p) (e :: es) [] pos) (eMk drop x m ps.length ms) := sMk F hj (gB_lk h) ha (gB_db h) he hpl hh
theorem wMkK0 {j : Nat} {ps ks : List Str} {pm : List Nat} {m : DF} {kws : List Keyword} {mk : DA} (drop : Bool) (F : MkAtK U x j ps 0 ks pm m) (hj : j + 1 ≤ k) (h : gB c x = true) (hk : SK U c k kws mk)
    (hall : ∀ env : PySem.Env, (backToKw pos (keywordEach kws env)).all (·.1.isSome) = true := by intro _; rfl) (hks : ∀ env : PySem.Env, (backToKw pos (keywordEach kws env)).filterMap (·.1) = ks := by intro _; rfl)
    (hpl : ∀ env : PySem.Env, ((backTo pos (starEach [] env)).any (·.1) || (backToKw pos (keywordEach kws env)).any (·.1.isNone)) = false := by intro _; rfl) (hh : c.hot = false := by rfl) :
    SE U c k (.Call (.Name x p) [] kws pos) (eMkK drop x m ps.length 0 ks.length pm aNil mk) := sMkK0 F hj (gB_lk h) hk (gB_db h) hall hks hpl hh
theorem wRg1 {tg : Expr} {m : DE} (h : gB c "range" = true) (hm : U.mg "range" = none) (he : SE U c k e m) (hs : ∀ env : PySem.Env, starEach [e] env = [(false, eval e env)] := by intro _; rfl) : SI U c k tg (.Call (.Name "range" p) [e] [] pos) (iRg1 m) := siRange1 (gB_lk h) hm he hs
theorem wRg2 {tg e2 : Expr} {m m2 : DE} (h : gB c "range" = true) (hm : U.mg "range" = none) (he : SE U c k e m) (he2 : SE U c k e2 m2) (hs : ∀ env : PySem.Env, starEach [e, e2] env = [(false, eval e env), (false, eval e2 env)] := by intro _; rfl) (hs2 : ∀ env : PySem.Env, starEach [e2] env = [(false, eval e2 env)] := by intro _; rfl) :
    SI U c k tg (.Call (.Name "range" p) [e, e2] [] pos) (iRg2 m m2) := siRange2 (gB_lk h) hm he he2 hs hs2
theorem wEnum {elts : List Expr} {kk : Nat} {tpos : Pos} {m : DE} (h : gB c "enumerate" = true) (hm : U.mg "enumerate" = none) (he : SE U c k e m) (hs : ∀ env : PySem.Env, starEach [e] env = [(false, eval e env)] := by intro _; rfl) :
    SI U c k (.Tuple elts kk tpos) (.Call (.Name "enumerate" p) [e] [] pos) (iEnD m) := siEnum he (gB_lk h) hm hs
theorem wZip {e' : Expr} {elts : List Expr} {kk : Nat} {tpos : Pos} {m m2 : DE} (h : gB c "zip" = true) (hm : U.mg "zip" = none) (he : SE U c k e m) (he' : SE U c k e' m2) (hs : ∀ env : PySem.Env, starEach [e, e'] env = (false, eval e env) :: starEach [e'] env := by intro _; rfl)
    (hs' : ∀ env : PySem.Env, starEach [e'] env = (false, eval e' env) :: starEach [] env := by intro _; rfl) (hpl : ∀ env : PySem.Env, (backTo pos (starEach [e'] env)).any (·.1) = false := by intro _; rfl) :
    SI U c k (.Tuple elts kk tpos) (.Call (.Name "zip" p) [e, e'] [] pos) (iZpD m m2) := siZip he he' (gB_lk h) hm hs hs' hpl
/-- tuple(range(n)) -/
def rgD (j : Int) : List D := (List.range (j - 0).toNat).map fun i => D.int (0 + (i : Nat))
def eRgOf (mk : List D → D) (m : DE) : DE := fun σ O => (m σ O).bind fun d O1 => match d with
  | .int j => if -(2 ^ 62) ≤ j ∧ j < 2 ^ 62 ∧ (j - 0).toNat ≤ 2 ^ 24 then .ok (mk (rgD j)) O1 else .stuck
  | _ => .stuck
theorem reps_rg {ad : List Addr} {H : Hp} (j : Int) : Reps U ad H (rgD j) (rgV 0 j) := by
  unfold rgD rgV
  have h := reps_of_ints (U := U) (ad := ad) (H := H) ((List.range (j - 0).toNat).map fun i => (0 : Int) + (i : Nat))
  rw [List.map_map, List.map_map] at h
  exact h
theorem wTupRg {m : DE} {q qq : Pos} (h : gB c "tuple" = true) (hm : U.mg "tuple" = none) (h' : gB c "range" = true) (hm' : U.mg "range" = none) (he : SE U c k e m)
    (hs : ∀ env : PySem.Env, starEach [e] env = (false, eval e env) :: starEach [] env := by intro _; rfl) (hs2 : ∀ env : PySem.Env, starEach [.Call (.Name "range" q) [e] [] qq] env = (false, eval (.Call (.Name "range" q) [e] [] qq) env) :: starEach [] env := by intro _; rfl) (hh : c.hot = false := by rfl) :
    SE U c k (.Call (.Name "tuple" p) [.Call (.Name "range" q) [e] [] qq] [] pos) (eRgOf .tup m) := by
  intro X W C
  obtain ⟨t, pt, f⟩ := he X W C
  obtain ⟨_, eu⟩ := C.u
  subst eu
  refine ⟨_, pe_tupRg (C.calm hh) (by show X.env.scope.names.lookup _ = _; rw [C.s]; exact gB_lk h) hm (prg_1 (by show X.env.scope.names.lookup _ = _; rw [C.s]; exact gB_lk h') hm' pt (hs _)) (hs2 _), fun ad O H σ sv Q S r h => f ad O H σ sv _ S r (Post.mono (Post.bind h) ?_)⟩
  rintro v H1 ⟨ad1, O1, d, s1, S1, r1, h1⟩
  cases d with
  | int j =>
    have h2 : Post _ ad1 H1 Q _ (if -(2 ^ 62) ≤ j ∧ j < 2 ^ 62 ∧ (j - 0).toNat ≤ 2 ^ 24 then .ok (.tup (rgD j)) O1 else .stuck) := h1
    split at h2
    · rename_i hb
      exact ⟨j, r1, ⟨by decide, by decide, hb.1, hb.2.1, hb.2.2⟩, fun q hq => h2 ad1 _ _ (.new hq (S1.out hq)) (S1.new hq) (rep_tup S1 hq (reps_rg j))⟩
    · exact h2.elim
  | _ => exact h1.elim
theorem wLstRg {m : DE} {q qq : Pos} (h : gB c "list" = true) (hm : U.mg "list" = none) (h' : gB c "range" = true) (hm' : U.mg "range" = none) (he : SE U c k e m)
    (hs : ∀ env : PySem.Env, starEach [e] env = (false, eval e env) :: starEach [] env := by intro _; rfl) (hs2 : ∀ env : PySem.Env, starEach [.Call (.Name "range" q) [e] [] qq] env = (false, eval (.Call (.Name "range" q) [e] [] qq) env) :: starEach [] env := by intro _; rfl) (hh : c.hot = false := by rfl) :
    SE U c k (.Call (.Name "list" p) [.Call (.Name "range" q) [e] [] qq] [] pos) (eRgOf .lst m) := by
  intro X W C
  obtain ⟨t, pt, f⟩ := he X W C
  obtain ⟨_, eu⟩ := C.u
  subst eu
  refine ⟨_, pe_listRg (C.calm hh) (by show X.env.scope.names.lookup _ = _; rw [C.s]; exact gB_lk h) hm (prg_1 (by show X.env.scope.names.lookup _ = _; rw [C.s]; exact gB_lk h') hm' pt (hs _)) (hs2 _), fun ad O H σ sv Q S r h => f ad O H σ sv _ S r (Post.mono (Post.bind h) ?_)⟩
  rintro v H1 ⟨ad1, O1, d, s1, S1, r1, h1⟩
  cases d with
  | int j =>
    have h2 : Post _ ad1 H1 Q _ (if -(2 ^ 62) ≤ j ∧ j < 2 ^ 62 ∧ (j - 0).toNat ≤ 2 ^ 24 then .ok (.lst (rgD j)) O1 else .stuck) := h1
    split at h2
    · rename_i hb
      exact ⟨j, r1, ⟨by decide, by decide, hb.1, hb.2.1, hb.2.2⟩, fun q hq => h2 ad1 _ _ (.new hq (S1.out hq)) (S1.new hq) (rep_lst S1 hq (reps_rg j))⟩
    · exact h2.elim
  | _ => exact h1.elim
end

section
variable {U : Univ} {c : Cs} {k : Nat} {pos : Pos} {tg iter elt : Expr} {ifs : List Expr} {scope : Scope} {mi : DI} {g : Tg} {tt : DT} {el : DE}
def subB (a b : List Nat) : Bool := a.all fun i => b.contains i
theorem subB_of {a b : List Nat} (h : subB a b = true) : ∀ i ∈ a, i ∈ b := fun i hi => by
  have := List.all_eq_true.mp h i hi
  simpa using this
theorem wLc (own : List (Str × Nat)) (hi : SI U c k tg iter mi) (hg : SG U (blkCs c scope) tg g) (ht : SIfs U (blkCs c scope) k ifs tt) (he : SE U (blkCs c scope) k elt el) (ok : (blkC c.N c.sc scope own && subB g.slots (own.map (·.2))) = true)
    (hs : ∀ (env : PySem.Env) x, foldedSetIterable iter env x = pure x := by intro _ _; rfl) (hh : c.hot = false := by rfl) : SE U c k (.ListComp elt [⟨tg, iter, ifs, 0⟩] scope pos) (eLc mi g (own.map (·.2)) tt el) :=
  sLc hi hg ht he (Bool.and_eq_true_iff.mp ok).1 (subB_of (Bool.and_eq_true_iff.mp ok).2) hs hh
end

theorem fun_of {K : PySem.W.Frag} {x qual : Str} {st : Stmt} {f : Addr} {fd : FuncData} (F : FunD K x qual (defArgs st) (defBody st) (defScope st) [] [] f fd) : Fun K x qual st f fd := by
  obtain ⟨oc, od, dV, kV, doc, pm, an, cdv, ct, osl, e, lk, hcd, hD, hK⟩ := F.ex
  rcases hD with ⟨_, rfl⟩ | ⟨h, _⟩
  · exact ⟨⟨oc, od, kV, doc, pm, an, cdv, ct, osl, e, lk, hcd⟩, F.kp⟩
  · exact absurd rfl h
end CP
namespace CP
open PySem PySem.Spec PyProof.Rows L2

def lB (c : Cs) (i : Nat) (x : Str) : Bool := decide (c.N[i]? = some x) && kB (c.sc.names.lookup x) isLo
theorem lB_1 {c : Cs} {i : Nat} {x : Str} (h : lB c i x = true) : c.N[i]? = some x := of_decide_eq_true (Bool.and_eq_true_iff.mp h).1
theorem lB_2 {c : Cs} {i : Nat} {x : Str} (h : lB c i x = true) : c.sc.names.lookup x = some .local := lo_of (Bool.and_eq_true_iff.mp h).2
theorem len2 {α : Type} {l : List α} (h : l.length = 2) : ∃ a b, l = [a, b] := by
  cases l with
  | nil => cases h
  | cons a l => cases l with
    | nil => cases h
    | cons b l => cases l with
      | nil => exact ⟨a, b, rfl⟩
      | cons _ _ => simp at h
theorem len3 {α : Type} {l : List α} (h : l.length = 3) : ∃ a b c, l = [a, b, c] := by
  cases l with
  | nil => cases h
  | cons a l =>
    obtain ⟨b, c, rfl⟩ := len2 (l := l) (by simpa using h)
    exact ⟨a, b, c, rfl⟩
def sPar (js : List Nat) (ms : DA) : DS := fun σ O => (ms σ O).st σ fun ds O1 => if ds.length = js.length then .nx (setAll σ js ds) O1 else .stuck
section
variable {U : Univ} {c : Cs} {k : Nat} {x y z : Str} {px py pz pt pos pt2 : Pos} {kt k2 : Nat} {a b e : Expr} {ma mb me : DE}
theorem wPar2 (i j : Nat) (hx : lB c i x = true) (hy : lB c j y = true) (hij : i ≠ j) (ha : SE U c k a ma) (hb : SE U c k b mb)
    (hw : ∀ env : PySem.Env, env.scope = c.sc → swappedStores [.Tuple [.Name x px, .Name y py] kt pt] (.Tuple [a, b] k2 pt2) env = pure (some [x, y]))
    (h1 : ∀ env : PySem.Env, starEach [a, b] env = (false, eval a env) :: starEach [b] env := by intro _; rfl) (h2 : ∀ env : PySem.Env, starEach [b] env = (false, eval b env) :: starEach [] env := by intro _; rfl) (hh : c.hot = false := by rfl) :
    SS U c k (.Assign [.Tuple [.Name x px, .Name y py] kt pt] (.Tuple [a, b] k2 pt2) pos) (sPar [i, j] (aCons ma (aCons mb aNil))) := by
  intro X W C
  obtain ⟨t, p, f⟩ := saCons ha (saCons hb saNil h2) h1 X W C
  refine ⟨_, ps_par (i := i) (j := j) (C.calm hh) (by rw [C.n]; exact C.nd) (by rw [C.n]; exact lB_1 hx) (by rw [C.n]; exact lB_1 hy) hij (by rw [C.s]; exact lB_2 hx) (by rw [C.s]; exact lB_2 hy) p (hw _ C.s), fun ad O H σ sv Dn S r h => f ad O H σ sv _ S r (PostL.mono (PostS.ofL r h) ?_)⟩
  rintro vs H1 ⟨ad1, O1, ds, s1, S1, r1, h1⟩
  split at h1
  · rename_i hl
    have hv : vs.length = 2 := by rw [← r1.length]; exact hl
    obtain ⟨v1, v2, rfl⟩ := len2 hv
    obtain ⟨d1, d2, rfl⟩ := len2 hl
    exact ⟨v1, v2, rfl, h1 ad1 H1 _ .refl S1 (repE_setAll [i, j] (r.keep s1) r1)⟩
  · exact h1.elim
theorem wPar3 (i j l : Nat) (hx : lB c i x = true) (hy : lB c j y = true) (hz : lB c l z = true) (hij : i ≠ j) (hil : i ≠ l) (hjl : j ≠ l) (ha : SE U c k a ma) (hb : SE U c k b mb) (he : SE U c k e me)
    (hw : ∀ env : PySem.Env, env.scope = c.sc → swappedStores [.Tuple [.Name x px, .Name y py, .Name z pz] kt pt] (.Tuple [a, b, e] k2 pt2) env = pure (some [x, y, z]))
    (h1 : ∀ env : PySem.Env, starEach [a, b, e] env = (false, eval a env) :: starEach [b, e] env := by intro _; rfl) (h2 : ∀ env : PySem.Env, starEach [b, e] env = (false, eval b env) :: starEach [e] env := by intro _; rfl)
    (h3 : ∀ env : PySem.Env, starEach [e] env = (false, eval e env) :: starEach [] env := by intro _; rfl) (hh : c.hot = false := by rfl) :
    SS U c k (.Assign [.Tuple [.Name x px, .Name y py, .Name z pz] kt pt] (.Tuple [a, b, e] k2 pt2) pos) (sPar [i, j, l] (aCons ma (aCons mb (aCons me aNil)))) := by
  intro X W C
  obtain ⟨t, p, f⟩ := saCons ha (saCons hb (saCons he saNil h3) h2) h1 X W C
  refine ⟨_, ps_par3 (i := i) (j := j) (l := l) (C.calm hh) (by rw [C.n]; exact C.nd) (by rw [C.n]; exact lB_1 hx) (by rw [C.n]; exact lB_1 hy) (by rw [C.n]; exact lB_1 hz) hij hil hjl (by rw [C.s]; exact lB_2 hx) (by rw [C.s]; exact lB_2 hy) (by rw [C.s]; exact lB_2 hz) p (hw _ C.s), fun ad O H σ sv Dn S r h => f ad O H σ sv _ S r (PostL.mono (PostS.ofL r h) ?_)⟩
  rintro vs H1 ⟨ad1, O1, ds, s1, S1, r1, h1⟩
  split at h1
  · rename_i hl
    have hv : vs.length = 3 := by rw [← r1.length]; exact hl
    obtain ⟨v1, v2, v3, rfl⟩ := len3 hv
    obtain ⟨d1, d2, d3, rfl⟩ := len3 hl
    exact ⟨v1, v2, v3, rfl, h1 ad1 H1 _ .refl S1 (repE_setAll [i, j, l] (r.keep s1) r1)⟩
  · exact h1.elim
end
section
variable {U : Univ} {c : Cs} {k : Nat} {pos : Pos} {tg iter elt : Expr} {ifs : List Expr} {scope : Scope} {mi : DI} {g : Tg} {tt : DT} {el : DE}
def lcB (c : Cs) (scope : Scope) (own : List (Str × Nat)) (g : Tg) (i : Nat) (y : Str) (l l' : Nat) : Bool := (blkC c.N c.sc scope own && subB g.slots (own.map (·.2))) && (lB c i y && ((match c.sc.kind with | .function => true | _ => false) && (decide (l = l') && !(scope.names.any fun (n, k) => n == y && (k == .local || k == .cell)))))
theorem wSetLc {y : Str} {py spos : Pos} (i : Nat) (own : List (Str × Nat)) (hi : SI U c k tg iter mi) (hg : SG U (blkCs c scope) tg g) (ht : SIfs U (blkCs c scope) k ifs tt) (he : SE U (blkCs c scope) k elt el) (ok : lcB c scope own g i y py.line pos.line = true)
    (hs : ∀ (env : PySem.Env) x, foldedSetIterable iter env x = pure x := by intro _ _; rfl) (hh : c.hot = false := by rfl) : SS U c k (.Assign [.Name y py] (.ListComp elt [⟨tg, iter, ifs, 0⟩] scope pos) spos) (sSet i (eLc mi g (own.map (·.2)) tt el)) := by
  obtain ⟨h1, h⟩ := Bool.and_eq_true_iff.mp ok
  obtain ⟨h2, h⟩ := Bool.and_eq_true_iff.mp h
  obtain ⟨h3, h⟩ := Bool.and_eq_true_iff.mp h
  obtain ⟨h4, h5⟩ := Bool.and_eq_true_iff.mp h
  refine sSetLc hi hg ht he (Bool.and_eq_true_iff.mp h1).1 (subB_of (Bool.and_eq_true_iff.mp h1).2) (lB_1 h2) (lB_2 h2) ?_ (beq_iff_eq.mpr (of_decide_eq_true h4)) (not_t h5) rfl hs hh
  split at h3
  · assumption
  · cases h3
end

/-- no two defs share a table -/
theorem tabsOn_of {fa : List He.Fa} {fn : List He.DefD} {tf : List (He.Defn × Str)} {ex : PySem.W.Frag → Bool} {w : World} {h : Heap} {K : PySem.W.Frag} (c : He.SaysX fa fn [] (tf.map (·.1)) ex w h K) : TabsOn (tf.map fun p => He.cT K p.1) K h := fun q hq => by
  obtain ⟨p, hp, rfl⟩ := List.mem_map.mp hq
  have hp' : p.1 ∈ tf.map (·.1) := List.mem_map.mpr ⟨p, hp, rfl⟩
  exact ⟨c.empty _ hp', c.out _ hp', c.hd _ hp'⟩
end CP
namespace CP
open PySem PySem.Spec PyProof.Rows L2

abbrev noW : WX := fun _ _ _ _ => False
abbrev noE : XK := fun _ _ _ => False
/-- a try whose body raises nothing -/
theorem tryCalm {X : Cx} {body : List Stmt} {hd : ExceptHandler} {hds : List ExceptHandler} {pos : Pos} {tb : TS}
    (hb : ∀ (pn : List (Addr × Obj)) (xe : Value → Shared → Prop), PSs (X.tr pn xe) body tb) : PS X (.Try body (hd :: hds) [] [] pos) tb := by
  constructor
  intro pins s σ H Dn I h
  have k := I.ok
  refine wpAny_Try_except (wpAny_mono ((hb (X.pn ++ pins) _).run [] s σ H Dn (I.toTry _) h) (fun fl s1 z => ?_) fun _ _ z => z)
  cases fl with
  | next => exact let ⟨σ1, H1, J, q⟩ := z; wpAny_execs_nil ⟨σ1, H1, J.ofTry k, q⟩
  | brk => exact let ⟨σ1, H1, J, q⟩ := z; ⟨σ1, H1, J.ofTry k, q⟩
  | cont => exact let ⟨σ1, H1, J, q⟩ := z; ⟨σ1, H1, J.ofTry k, q⟩
  | ret u => exact let ⟨v, σ1, H1, J, r, q⟩ := z; ⟨v, σ1, H1, J.ofTry k, r, q⟩

section
variable {U : Univ} {c : Cs} {k : Nat} {X : Cx} {W : WX} {pins : List (Addr × Obj)} {sv : L2.St} {H : Hp} {s : Shared}
/-- the body of a lambda made by X, run below the frame of the def that got it -/
theorem lamCtx (C : CtxOk U c (k + 2) X W) {scope : Scope} (L : LamX.LamS X.env.scope scope) {A : Around} {outer : List PySem.Env} {s1 : Shared} {H1 : Hp} {f co : Addr} (hr : Room k (A.deeper (LamX.lamEnv X scope s1.heap.objs.size f co))) (hg : A.guards = some []) :
    CtxOk U ⟨c.N, scope, scope, none, false⟩ k (LamX.lamCx X A outer s1 H1 noE scope f co) noW where
  u := C.u
  n := C.n
  s := rfl
  nd := C.nd
  calm := fun _ => rfl
  tk := LamX.takes0
  po := passes_of rfl
  room := rmH_of hr
  hd := fun _ => hr.hd
  gd := hg
  fn := fun x h => absurd rfl (L.own _ (PySem.mem_of_lookup h)).2
  code := fun _ e => nomatch e
/-- what the call of the lambda asks: σ the maker's names -/
def tAct (U : Univ) (ad : List Addr) (H : Hp) (σ : Env) (m : DE) (f co : Addr) (q : Str) : TE := fun sz HZ Q => sz[0]? = some (some (.ref f)) ∧ HZ co = some (LamX.CodeO co q) ∧
  ∃ ad' O', Step ad H ad' HZ ∧ Sim U ad' O' HZ ∧ Post U ad' HZ Q noE (m σ O')
theorem peAct (C : CtxOk U c (k + 2) X W) {scope : Scope} {body : Expr} {m : DE} (L : LamX.LamS X.env.scope scope) (hE : SE U ⟨c.N, scope, scope, none, false⟩ k body m) (I : Inv X pins sv H s) {ad : List Addr} {σ : Env} (r : RepE U ad H σ sv)
    {f co g : Addr} {pm ctv cdg : Value} {params : Arguments} {a x : Str} {Ng : List Str} {sg : Scope} {Eg : XK} {pn : List (Addr × Obj)} {xe : Value → Shared → Prop} {p1 p2 : Pos}
    (of : s.heap.get? f = some (PySem.W.kla_obj "<lambda>" (X.env.qual ++ "<lambda>") params body scope (cloFrom X.env.cells scope.names []) pm co ctv)) (nf : H f = none) (fo : f ∉ frs X.stack)
    (bn : bindArgs (PySem.W.kla_fn "<lambda>" (X.env.qual ++ "<lambda>") params body scope (cloFrom X.env.cells scope.names []) pm (.ref co) ctv) ⟨[], []⟩ = pure [])
    (rm : Room (k + 1) (X.A.deeper (envOfC x sg s.heap.objs.size g cdg))) (h0 : Ng[0]? = some a) (va : Vis sg a) (d1 : (a == ("__debug__" : Str)) = false) (d2 : (a == ("__classdict__" : Str)) = false) :
    PE ((cxOf (L2.CX X.prog X.w) X.prog X.w X.K X.mg X.base Ng x sg g cdg X.A X.stack s H Eg).tr pn xe) (.Call (.Name a p1) [] [] p2) (tAct U ad H σ m f co (X.env.qual ++ "<lambda>")) := by
  constructor
  intro pz sz σz HZ Q IZ hq
  obtain ⟨q1, q2, ad', O', st, S', po⟩ := hq
  have named := (pe_var (pos := p1) (i := 0) h0 va d1 d2).run pz sz σz HZ (fun v H1 => v = .ref f ∧ H1 = HZ) IZ ⟨.ref f, q1, rfl, rfl⟩
  refine wpAny_Call_Name_kw (thn named fun u s1 got => ?_)
  obtain ⟨v, H1, I1, ru, ev, eH⟩ := got
  subst ev
  subst eH
  obtain rfl : u = Value.ref f := ru
  have at1 := I1.base.keep f _ of nf fo (fun z => nomatch (show f ∈ ([] : List Addr) from z))
  refine PySem.W.callWith_F0 ⟨_, _, _, _, at1⟩ ?_
  have und : Un (frs X.stack) [] H H1 s.heap s1.heap := I1.base
  obtain ⟨oc, vs, tk, c1, c2, c3⟩ := (I1.hok co _ q2).1
  refine wpAny_call (codeAny_mono (R := CR (L2.CX X.prog X.w) (envOfC x sg s.heap.objs.size g cdg :: X.stack) X.prog X.w H1 s1 Q noE) ?_ fun z s2 hz => ?_)
  · refine PySem.W.kla_callFunE rm.depth at1 rfl L.co L.gen rfl ⟨co, oc, vs, tk, rfl, c1, c2, c3⟩ ?_
    refine wpAny_of_eq bn (wpAny_newFunctionEnv (fun y hy => (L.own y hy).2) (fun y hy => absurd hy List.not_mem_nil) (fun h2 hn hs => ⟨I1.nolimit.fresh _ hs, ?_⟩) L.kind)
    have kept : ∀ b o, s1.heap.get? b = some o → h2.get? b = some o := fun b o e => hs.extBut b o (Nat.ne_of_lt (Heap.lt_size e)) (Heap.get?_push_of_some _ e)
    have J := LamX.lam_start2 (E := noE) (f := f) (c' := co) (tk := s1.toks + ([] : List (Str × Value)).length) I L I1.env0 rm.hd und hn kept
    obtain ⟨t, pt, ft⟩ := hE _ _ (lamCtx (outer := envOfC x sg s.heap.objs.size g cdg :: X.stack) (s1 := s1) (H1 := H1) (f := f) (co := co) C L (rm.deeper (LamX.lamEnv X scope s1.heap.objs.size f co)) C.gd)
    refine PySem.W.kla_codeExpr (wpAny_mono (pt.run [] _ sv H1 Q J (ft ad' O' H1 σ sv Q S' (r.keep st) po)) (fun v s' hv => ?_) fun e s' he => ?_)
    · obtain ⟨v', H', J', rv, qv⟩ := hv
      exact ⟨v', H', J'.os, J'.bare, J'.base, J'.hok, rv, qv⟩
    · exact he
  · cases z with
    | error e =>
      obtain ⟨_, _, _, _, _, _, _, _, _, _, _, _, no⟩ := hz
      exact no.elim
    | ok fl =>
      cases fl with
      | ret u => exact I1.after hz
      | next => exact hz.elim
      | brk => exact hz.elim
      | cont => exact hz.elim
/-- told, and what the call gave -/
def eTold (w : Str) (m : DE) : DE := fun σ O => (okOnly (m σ O)).bind fun d O1 => .ok (.lst [.str w, d]) O1
theorem Post.calm {U : Univ} {ad : List Addr} {H : Hp} {Q : VK} {E E' : XK} : ∀ {r : R D}, Post U ad H Q E (okOnly r) → Post U ad H Q E' r
  | .ok _ _, h => h
  | .err _ _, h => h.elim
  | .stuck, h => h.elim
/-- a def that calls what it got within a try and returns what the call gave in a list -/
structure Tells (U : Univ) (x : Str) (w : Str) (g : Addr) (a : Str) (Ng : List Str) (st : Stmt) (fd : FuncData) : Prop where
  at_ : U.mg x = some (.ref g)
  F : FunD U.K x x (defArgs st) (defBody st) (defScope st) [] [] g fd
  S : FnScope Ng [a] (defScope st)
  b : Binds U.K fd [a] []
  body : ∃ (b : Str) (pb p1 p2 p3 p4 p5 p6 p7 p8 : Pos) (j : Nat) (hd : ExceptHandler) (hds : List ExceptHandler), Ng[1]? = some b ∧ Loc (defScope st) b ∧ (b == ("__debug__" : Str)) = false ∧ (b == ("__classdict__" : Str)) = false ∧
    defBody st = [.Try [.Assign [.Name b pb] (.Call (.Name a p1) [] [] p2) p3] (hd :: hds) [] [] p4, .Return (some (.List [.Constant (.str w) j p5, .Name b p6] p7)) p8]
  a0 : Ng[0]? = some a
  va : Vis (defScope st) a
  d1 : (a == ("__debug__" : Str)) = false
  d2 : (a == ("__classdict__" : Str)) = false
theorem sTold {x w a : Str} {g : Addr} {Ng : List Str} {st : Stmt} {fd : FuncData} {params : Arguments} {body : Expr} {scope : Scope} {m : DE} {p lp pos : Pos} {kk : Nat} {cd P : Addr} {q : Str}
    (Tl : Tells U x w g a Ng st fd) (hj : k + 2 ≤ kk) (hx : c.sc.names.lookup x = some .globalImplicit) (hdb : (x == ("__debug__" : Str)) = false) (ho : c.own = some (cd, q)) (TB : LamX.TabB U.base U.mg cd P) (hT : (P, q ++ "<lambda>") ∈ U.T) (hu : ∀ p ∈ U.T, p.1 = P → p.2 = q ++ "<lambda>")
    (hL : LamX.lamSB c.sc scope = true) (hdef : ∀ env : PySem.Env, defaultsOf params env = ([], [])) (hbind : ∀ (q : Str) (cl : List (Str × Addr)) (pm cv ctv : Value), bindArgs (PySem.W.kla_fn "<lambda>" q params body scope cl pm cv ctv) ⟨[], []⟩ = pure [])
    (hE : SE U ⟨c.N, scope, scope, none, false⟩ k body m) (hh : c.hot = false := by rfl) : SE U c kk (.Call (.Name x p) [.Lambda params body scope lp] [] pos) (eTold w m) := by
  intro X W C0
  have C : CtxOk U c (k + 2) X W := ⟨C0.u, C0.n, C0.s, C0.nd, C0.calm, C0.tk, C0.po, C0.room.mono hj, C0.hd, C0.gd, C0.fn, C0.code⟩
  refine ⟨tG U W (eTold w m), ⟨fun pins s sv H Q I hq => ?_⟩, fun ad O H σ sv Q S r h => ⟨ad, O, σ, S, r, h⟩⟩
  obtain ⟨ad, O, σ, Sm, r, po⟩ := hq
  obtain ⟨hc1, hc2⟩ := C.code _ ho
  have hsc := C.s
  have L : LamX.LamS X.env.scope scope := by rw [hsc]; exact LamX.lamS_by hL
  obtain ⟨TT, eu⟩ := C.u
  have em : X.mg = U.mg := by rw [← eu]
  have eK : X.K = U.K := by rw [← eu]
  have eb : X.base = U.base := by rw [← eu]
  have eP : X.prog = U.P := by rw [← eu]
  have ew : X.w = U.w := by rw [← eu]
  have gl : Gl X x := by show X.env.scope.names.lookup x = _; rw [hsc]; exact hx
  have TBx : LamX.TabB X.base X.mg cd P := by rw [em, eb]; exact TB
  have hT' : (P, X.env.qual ++ "<lambda>") ∈ U.T := by rw [hc2]; exact hT
  have hu' : ∀ p ∈ U.T, p.1 = P → p.2 = X.env.qual ++ "<lambda>" := by rw [hc2]; exact hu
  refine wpAny_Call_Name_kw (ld_glob I gl (by rw [em]; exact Tl.at_) ?_ hdb)
  refine PySem.W.callWith_K (h₀ := X.base) I.ok.mod.kin (by rw [eK]; exact Tl.F.kp) ?_ (by rfl) (by rfl)
  show wpAny _ _ (spliced ((false, eval (.Lambda params body scope lp) X.env) :: backTo pos (starEach [] X.env))) _ _ s
  refine Calls.spliced_cons (LamX.lam_make2 I TBx hc1 hT' hu' Sm.tb (hdef _) (L.has I.ok) fun f co pm ctv H1 s1 I1 ex1 tb1 of nf fo oc => ?_)
  refine Calls.spliced_nil ⟨I1.kIn, ?_⟩
  have st1 : Step ad H ad H1 := ⟨⟨[], (List.append_nil _).symm⟩, fun b o e n z => ⟨ex1 b o e n, z⟩⟩
  have Sm1 : Sim U ad O H1 := ⟨Sm.nd, Sm.len, fun i b d e1 e2 => (Sm.at_ i b d e1 e2).keep st1 fun u e n => ex1 b u e n, tb1⟩
  obtain ⟨oc', od, dV, kV, doc, pm', an, cdv, ct, osl, rfl, lk, hcd, -, -⟩ := Tl.F.ex
  have inK : X.K.In s1.heap := I1.kIn
  have noLim : s1.heap.NoLimit := I1.nolimit
  obtain ⟨b, pb, p1, p2, p3, p4, p5, p6, p7, p8, j, hd, hds, b1, b2, b3, b4, hbody⟩ := Tl.body
  have bt := Tl.b s1 [.ref f] (by rw [← eK]; exact inK) rfl
  rw [List.append_nil] at bt
  have run : codeAny (model X.prog X.w) X.A (.call (.ref g) ⟨[.ref f], []⟩) (CR (L2.CX X.prog X.w) X.stack X.prog X.w H1 s1 Q noE) s1 := by
    refine codeAny_call_function C.room.depth (inK _ _ (by rw [eK]; exact lk)) rfl Tl.S.co Tl.S.gen rfl (PySem.W.codeRec_of inK (by rw [eK]; exact hcd)) (bt _ _ _ _ ?_)
    refine wpAny_newFunctionEnv_cells Tl.S.kind (fun y hy => ?_) fun env he s2 ic => ?_
    · obtain ⟨n, v⟩ := y
      rcases Tl.S.par n (List.of_mem_zip hy).1 with z | z
      · exact .inl z
      · exact .inr ⟨z, PySem.W.cellsFrom_some _ _ _ (.inl z)⟩
    subst he
    refine ⟨noLim.keeps ic.toInCall.keep, codeAny_func ?_⟩
    have rm : Room (k + 1) (X.A.deeper (envOfC x (defScope st) s1.heap.objs.size g cdv)) := (C.rm hh).deeper _
    have I0 : Inv (cxOf (L2.CX X.prog X.w) X.prog X.w X.K X.mg X.base Ng x (defScope st) g cdv X.A X.stack s1 H1 noE) [] (L2.start Ng [.ref f]) H1 s2 := inv_start Tl.S (C.rm hh).hd I1.env0 rfl (.cons rfl .nil) ic
    have bv : Vis (defScope st) b := b2.elim .inl fun z => .inr (.inl z)
    have pact := fun (pn : List (Addr × Obj)) (xe : Value → Shared → Prop) => peAct (p1 := p1) (p2 := p2) (Eg := noE) (cdg := cdv) (g := g) (x := x) (pn := pn) (xe := xe) C L hE I1 (r.keep st1) of nf fo (hbind _ _ _ _ _) rm Tl.a0 Tl.va Tl.d1 Tl.d2
    have pbody := pss_cons (tryCalm (X := cxOf (L2.CX X.prog X.w) X.prog X.w X.K X.mg X.base Ng x (defScope st) g cdv X.A X.stack s1 H1 noE) (hd := hd) (hds := hds) (pos := p4) fun pn xe => pss_one (ps_set (X := (cxOf (L2.CX X.prog X.w) X.prog X.w X.K X.mg X.base Ng x (defScope st) g cdv X.A X.stack s1 H1 noE).tr pn xe) (i := 1) (pos := p3) (pos' := pb) Tl.S.nd b1 b2 (pact pn xe) (by rfl) (.inl rfl)))
      (pss_one (ps_ret (pos := p8) (pe_lst (pos := p7) (pa_cons (pe_str (x := w) (pos := p5) (j := j)) (pa_cons (pe_var (pos := p6) (i := 1) b1 bv b3 b4) pa_nil)))))
    rw [← hbody] at pbody
    refine wpAny_mono (pbody.run [] s2 (L2.start Ng [.ref f]) H1 { nx := fun _ H' => Q .non H', rt := Q } I0 ?_) (fun fl s' hs => ?_) fun e s' hs => hs
    · have z0 : (L2.start Ng [.ref f])[0]? = some (some (.ref f)) := rfl
      have zl : 1 < (L2.start Ng [.ref f]).length := by
        have := (List.getElem?_eq_some_iff.mp b1).1
        show 1 < ([V.ref f].map some ++ List.replicate (Ng.length - [V.ref f].length) none).length
        simp; omega
      refine ⟨z0, oc, ad, O, .refl, Sm1, Post.mono (Post.step st1 (Post.calm (Post.bind po))) ?_⟩
      rintro v H2 ⟨ad2, O2, d, s2', S2, r2, h2⟩
      refine ⟨v, List.getElem?_set_self zl, ?_, fun p np => ?_⟩
      · exact (by decide : 2 ≤ sizeLine)
      · exact h2 ad2 _ _ (.new np (S2.out np)) (S2.new np) (rep_lst S2 np (.cons rfl (.cons r2 .nil)))
    · cases fl with
      | ret u => exact let ⟨v, σ', H', J, rv', q⟩ := hs; ⟨v, H', J.os, J.bare, J.base, J.hok, rv', q⟩
      | next => exact let ⟨σ', H', J, q⟩ := hs; ⟨V.non, H', J.os, J.bare, J.base, J.hok, rfl, q⟩
      | brk => exact let ⟨_, _, _, q⟩ := hs; q.elim
      | cont => exact let ⟨_, _, _, q⟩ := hs; q.elim
  refine wpAny_call (codeAny_mono run fun r s2 hz => ?_)
  cases r with
  | error e =>
    obtain ⟨_, _, _, _, _, _, _, _, _, _, _, _, no⟩ := hz
    exact no.elim
  | ok fl =>
    cases fl with
    | ret u => exact I1.after hz
    | next => exact hz.elim
    | brk => exact hz.elim
    | cont => exact hz.elim
end
theorem Says.tab {fa : List He.Fa} {fn : List He.DefD} {tf : List (He.Defn × Str)} {ex : PySem.W.Frag → Bool} {U : Univ} (c : Says fa fn tf ex U) {p : He.Defn × Str} (hp : p ∈ tf) :
    LamX.TabB U.base U.mg (He.cT U.K p.1).1 (He.cT U.K p.1).2 ∧ ((He.cT U.K p.1).2, p.2) ∈ U.T ∧ ∀ z ∈ U.T, z.1 = (He.cT U.K p.1).2 → z.2 = p.2 := by
  refine ⟨c.tb p hp, by rw [c.tabs]; exact List.mem_map.mpr ⟨p, hp, rfl⟩, fun z hz e => ?_⟩
  rw [c.tabs] at hz
  obtain ⟨y, hy, rfl⟩ := List.mem_map.mp hz
  obtain ⟨i, hi, rfl⟩ := List.mem_iff_getElem.mp hp
  obtain ⟨j, hj, rfl⟩ := List.mem_iff_getElem.mp hy
  have nd := c.nd
  have : i = j := by
    have h1 : i < (tf.map fun p => (He.cT U.K p.1).2).length := by rw [List.length_map]; exact hi
    have h2 : j < (tf.map fun p => (He.cT U.K p.1).2).length := by rw [List.length_map]; exact hj
    refine (List.getElem_inj nd (h₀ := h1) (h₁ := h2)).mp ?_
    rw [List.getElem_map, List.getElem_map]
    exact e.symm
  subst this; rfl
section
variable {U : Univ} {c : Cs}
theorem wTold {fa : List He.Fa} {fn : List He.DefD} {tf : List (He.Defn × Str)} {ex : PySem.W.Frag → Bool} {x w a : Str} {Ng : List Str} {st : Stmt} {params : Arguments} {body : Expr} {scope : Scope} {m : DE} {pp lp pos : Pos} {kk : Nat} {p : He.Defn × Str} {q : Str} (kb : Nat)
    (cs : Says fa fn tf ex U) (hp : p ∈ tf) (hq : p.2 = q ++ "<lambda>") (ho : c.own = some ((He.cT U.K p.1).1, q)) (Tl : ∃ g fd, Tells U x w g a Ng st fd) (hj : kb + 2 ≤ kk) (h : gB c x = true) (hL : LamX.lamSB c.sc scope = true) (hE : SE U ⟨c.N, scope, scope, none, false⟩ kb body m)
    (hdef : ∀ env : PySem.Env, defaultsOf params env = ([], []) := by intro _; rfl) (hbind : ∀ (q : Str) (cl : List (Str × Addr)) (pm cv ctv : Value), bindArgs (PySem.W.kla_fn "<lambda>" q params body scope cl pm cv ctv) ⟨[], []⟩ = pure [] := by intro _ _ _ _ _; rfl) (hh : c.hot = false := by rfl) :
    SE U c kk (.Call (.Name x pp) [.Lambda params body scope lp] [] pos) (eTold w m) := by
  obtain ⟨g, fd, T⟩ := Tl
  obtain ⟨t1, t2, t3⟩ := cs.tab hp
  rw [hq] at t2 t3
  exact sTold T hj (gB_lk h) (gB_db h) ho t1 t2 t3 hL hdef hbind hE hh
end
end CP
namespace CP
open PySem PySem.Spec PyProof.Rows L2

section
variable {X : Cx}
/-- tuple(xs) of a list, the new object told -/
def rTupX (K : PySem.W.Frag) : List V → Hp → VK → Prop := fun xs H Q => ∃ p ys, xs = [.ref p] ∧ ((SqL K H p ys ∧ ∀ l o, H l = none → o.dict = none → Q (.ref l) (upd H l (.frz o (.tup ys)))) ∨ (SqT K H p ys ∧ Q (.ref p) H))
theorem tupleX : CallR X (.type "tuple") (rTupX X.K) := by
  intro pins s σ H xs us Q I r hq
  obtain ⟨p, ys, rfl, hq⟩ := hq
  obtain ⟨u, rfl, ru⟩ := vals1 r
  cases ru
  rcases hq with ⟨sq, q⟩ | ⟨sq, q⟩
  · obtain ⟨its, rv, pl, hz⟩ := I.list sq
    have hl := rv.length
    refine call_tuple_list pl.isList (fun h2 kp => ?_) (by simp only [List.size_toArray]; omega)
    have J : Inv X pins σ H { s with heap := h2 } := I.kept (t' := s.toks) kp
    have okN : ObjOk X.prog X.w (upd H h2.objs.size (.frz { cls := .type "tuple", data := .seq its.toArray } (.tup ys))) (h2.push { cls := .type "tuple", data := .seq its.toArray }) h2.objs.size (.frz { cls := .type "tuple", data := .seq its.toArray } (.tup ys)) :=
      ⟨Heap.get?_push_size _ rfl, hz, its, rv, IsTup.new _ _⟩
    exact ⟨.ref h2.objs.size, _, J.laid (t' := s.toks) (fun b o e => Heap.get?_push_of_some _ e) (Nat.le_refl _) okN, rfl, q _ _ (J.hok.fresh (Nat.le_refl _)) rfl⟩
  · obtain ⟨its, rv, pl, hz⟩ := I.tuple sq
    exact call_tuple_same pl ⟨.ref p, H, I, rfl, q⟩
def tTupRgX (te : L2.St → Hp → (Int → Int → Hp → Prop) → Prop) : TE := fun σ H Q => te σ H fun a b H1 => RgOk a b ∧ ∀ p o, H1 p = none → o.dict = none → Q (.ref p) (upd H1 p (.frz o (.tup (rgV a b))))
theorem peTupRgX {e : Expr} {te : L2.St → Hp → (Int → Int → Hp → Prop) → Prop} {p pos : Pos} (hc : X.calm = true) (hg : Gl X "tuple") (hm : X.mg "tuple" = none) (he : PRg X e te) (na : starEach [e] X.env = (false, eval e X.env) :: starEach [] X.env) :
    PE X (.Call (.Name "tuple" p) [e] [] pos) (tTupRgX te) := by
  constructor
  intro pins s σ H Q I hq
  refine Call_ (ld_blt I hg hm boot_tuple (PyProof.Rows.callWith_type1 (args_cons (thn (he pins s σ H _ I hq) fun x s1 got => args_nil ?_) na) na))
  obtain ⟨r, a, b, t, u, v, H1, rfl, hr, I1, ⟨b1, b2, b3, b4, b5⟩, q⟩ := got
  refine call_tuple_range (n := (b - a).toNat) (I1.ok.hd hc) hr (small_one b1 b2 b3 b4) (rangeSize_nat a b) b5 fun h2 tk acc kp hi => ?_
  have J : Inv X pins σ H1 { s1 with heap := h2, toks := tk } := I1.kept kp
  have okN : ObjOk X.prog X.w (upd H1 h2.objs.size (.frz { cls := .type "tuple", data := .seq acc } (.tup (rgV a b)))) (h2.push { cls := .type "tuple", data := .seq acc }) h2.objs.size (.frz { cls := .type "tuple", data := .seq acc } (.tup (rgV a b))) := by
    refine ⟨Heap.get?_push_size _ rfl, ?_, acc.toList, vals_rg hi, ?_⟩
    · rw [rgV_length, sizeLine_eq]; omega
    · rw [Array.toArray_toList]; exact IsTup.new _ _
  exact ⟨.ref h2.objs.size, _, J.laid (t' := tk) (fun c o e => Heap.get?_push_of_some _ e) (Nat.le_refl _) okN, rfl, q _ _ (J.hok.fresh (Nat.le_refl _)) rfl⟩
end
/-- the value is a tuple without a dict -/
def plainTup (K : PySem.W.Frag) (x : V) (H : Hp) : Prop := ∃ p, x = .ref p ∧ ((∃ o, K.lookup p = some o ∧ o.cls = .type "tuple" ∧ o.dict = none) ∨ ∃ o xs, H p = some (.frz o (.tup xs)) ∧ o.dict = none)
section
variable {X : Cx} {o e : Expr} {es : List Expr} {to : TE} {t : TA} {name : Str} {apos cpos : Pos} {id : String} {r : V → List V → Hp → VK → Prop}
theorem plainTup_is {pins : List (Addr × Obj)} {σ : L2.St} {H : Hp} {s : Shared} {x : V} {v : Value} (I : Inv X pins σ H s) (rv : RelV x v) (h : plainTup X.K x H) : s.TypeIs v "tuple" ∧ ∀ a, v = .ref a → ∃ ob, s.heap.get? a = some ob ∧ ob.dict = none := by
  obtain ⟨p, rfl, h⟩ := h
  cases rv
  rcases h with ⟨ob, hk, hc, hd⟩ | ⟨ob, xs, hH, hd⟩
  · exact ⟨⟨ob, I.kIn p ob hk, hc⟩, fun a e => by cases e; exact ⟨ob, I.kIn _ ob hk, hd⟩⟩
  · obtain ⟨g, -, its, -, o2, g2, hc, -⟩ := I.hok p _ hH
    rw [g] at g2
    cases g2
    exact ⟨⟨ob, g, hc⟩, fun a e => by cases e; exact ⟨ob, g, hd⟩⟩
def tBMT (K : PySem.W.Frag) (r : V → List V → Hp → VK → Prop) (to : TE) (t : TA) : TE := fun σ H Q => to σ H fun x H1 => plainTup K x H1 ∧ t σ H1 fun xs H2 => r x xs H2 Q
theorem peBMT (slot : Slot "tuple" name id) (hty : typeOf (.builtin id) = pure (.type "method_descriptor")) (hm : MtR X id r) (ho : PE X o to) (ha : PA X (e :: es) t)
    (hbase : attributeBase o name X.env (eval o X.env) = eval o X.env)
    (hfew : ((backTo cpos (starEach (e :: es) X.env)).all (fun x => !x.1) && (backToKw cpos (keywordEach [] X.env)).all (fun x => x.1.isSome) && decide ((e :: es).length + ([] : List Keyword).length + (if ([] : List Keyword).isEmpty then 0 else 1) < 30)) = true)
    (hline : (apos.endLine == cpos.line) = true) (hs : starEach (e :: es) X.env = (false, eval e X.env) :: starEach es X.env) (hplain : (backTo cpos (starEach es X.env)).any (·.1) = false) :
    PE X (.Call (.Attribute o name apos) (e :: es) [] cpos) (tBMT X.K r to t) := by
  constructor
  intro pins s σ H Q I hq
  refine wpAny_Call_method_late hbase hfew hline rfl (thn (ho.run pins s σ H _ I hq) fun v s1 got => ?_)
  obtain ⟨x, H1, I1, r1, pt, q1⟩ := got
  obtain ⟨k1, k2⟩ := plainTup_is I1 r1 pt
  refine ⟨"tuple", id, PySem.F.plainAttrs_tuple, slot, hty, k1, k2, ?_⟩
  have args := ha.run cpos pins s1 σ H1 _ I1 q1
  rw [hs] at args ⊢
  refine Calls.callWith_builtin (by show (false || (backTo cpos (starEach es X.env)).any (·.1)) = false; rw [hplain]; rfl) (Calls.evalArgs_plain (thn args fun us s2 got2 => ?_))
  obtain ⟨vs, H2, I2, r2, q2⟩ := got2
  exact hm pins s2 σ H2 x vs v us Q I2 r1 r2 q2
/-- t.index(y) of data -/
def rIndexT (K : PySem.W.Frag) : V → List V → Hp → VK → Prop := fun x xs H Q => ∃ (a : Addr) (y : V) (d : PyData) (ds : List PyData) (j : Nat) (z : PyData), x = V.ref a ∧ xs = [y] ∧ Dp K H (V.ref a) (.tuple ds) ∧ Dp K H y d ∧
  SeqAt.shaped (.tuple ds) = true ∧ SeqAt.shaped d = true ∧ ds[j]? = some z ∧ PyData.eqv z d = true ∧ (∀ (m : Nat) (z' : PyData), m < j → ds[m]? = some z' → PyData.eqv z' d = false) ∧ Q (.int (j : Nat)) H
theorem mtIndexT (hu : X.A.units + 65 < cLine) : MtR X "tuple.index" (rIndexT X.K) := by
  intro pins s σ H x xs v us Q I rx rxs hq
  obtain ⟨a, y, d, ds, j, z, rfl, rfl, dl, dy, sl, sd, hz, hit, before, q⟩ := hq
  cases rx
  obtain ⟨uy, rfl, ry⟩ := vals1 rxs
  obtain ⟨bs, ready⟩ := Dp.reads I d y uy dy ry
  have lay : PyData.canLayAll0 ds = true := SeqAt.canLay_of_shaped sl
  have room := room_any (A := X.A) (ds := ds) sd hu
  cases dl with
  | tup sq da =>
    obtain ⟨its, rv, ⟨⟨cl, dd, dt, sls⟩, g, gc, n, gd⟩, _⟩ := I.tuple sq
    simp only at gc gd
    subst gc gd
    obtain ⟨as, rd⟩ := Dp.readsAll I ds _ its da rv
    have len : its.length = ds.length := SeqAt.ReadsAll.length ds its as rd
    have mp : its.map (SeqAt.readOf s.heap) = ds := SeqAt.readsAll_map ds its as lay rd
    have jl : j < its.toArray.size := by
      have := (List.getElem?_eq_some_iff.mp hz).1
      simp only [List.size_toArray]; omega
    have look : ∀ (m : Nat) (hm : m < its.toArray.size), ds[m]? = some (SeqAt.readOf s.heap its.toArray[m]) := fun m hm => by
      have hm' : m < its.length := by simpa using hm
      rw [← mp, List.getElem?_map, List.getElem?_eq_getElem hm']
      simp
    refine call_meets PySem.F.slot_tuple_index ⟨_, g, rfl⟩ PySem.F.entry_tuple_index (PySem.F.args_tuple_index_2 _ _)
      (TI.tuple_indexAt a its.toArray n dd sls uy (fun u => PyData.eqv (SeqAt.readOf s.heap u) d) j jl ?h1 ?h2) ⟨g, SeqAt.items_eqAt (vs := its.toArray) (show ReadsAll s.heap its.toArray.toList ds as from rd) ready lay (SeqAt.canLay_of_shaped sd) room, .int (j : Nat), H, I.tok _, ⟨_, rfl⟩, q⟩
    case h1 =>
      have := (look j jl).symm.trans hz
      show PyData.eqv (SeqAt.readOf s.heap its.toArray[j]) d = true
      rw [Option.some.inj this]; exact hit
    case h2 => exact fun m hm hmj => before m _ hmj (look m hm)
end

theorem rep_rot {U : Univ} {ad : List Addr} {O : Store} {H : Hp} {p : Addr} {o : Obj} {xs : List V} {ds : List D} (S : Sim U ad O H) (hp : H p = none) (r : Reps U ad H ds xs) (hd : o.dict = none) : Rep U ad (upd H p (.frz o (.tup xs))) (.rot ds) (.ref p) :=
  ⟨p, xs, rfl, .inr ⟨o, upd_same, hd, S.out hp⟩, r.keep (Step.new hp (S.out hp))⟩
/-- tuple(x), the object known -/
def dTupleX : FN := fun ds O => match ds with
  | [x] => (match der x O with
    | .lst l => some (.rot l)
    | .rol l => some (.rot l)
    | _ => none)
  | _ => none
section
variable {U : Univ}
theorem opTupleX : OpN U (.type "tuple") dTupleX := by
  intro X W c k hh C
  obtain ⟨_, eu⟩ := C.u
  subst eu
  refine ⟨_, tupleX, ?_⟩
  intro ds xs ad O H d Q S r e q
  unfold dTupleX at e
  split at e
  · rename_i x
    obtain ⟨v, rfl, rv⟩ := reps1 r
    split at e
    · rename_i l e1
      cases e
      obtain ⟨a, xs, rfl, h, t⟩ := der_lst S rv e1
      exact ⟨a, xs, rfl, .inl ⟨.of h, fun p o hp hd => q _ _ (.new hp (S.out hp)) (S.new hp) (rep_rot S hp t hd)⟩⟩
    · rename_i l e1
      cases e
      obtain ⟨a, xs, rfl, h, t⟩ := der_rol S rv e1
      exact ⟨a, xs, rfl, .inl ⟨h, fun p o hp hd => q _ _ (.new hp (S.out hp)) (S.new hp) (rep_rot S hp t hd)⟩⟩
    · cases e
  · cases e
/-- t.index(y) -/
def ixT (l : List D) (y : D) (O : Store) : Option D := match toPy y, toPys l with
  | some p, some ps => if SeqAt.shaped p && SeqAt.shaped (.tuple ps) then (ps.findIdx? fun z => PyData.eqv z p).map fun j => .int (j : Nat) else none
  | _, _ => none
def eIxT (mo me : DE) : DE := fun σ O => (mo σ O).bind fun x O1 => match x with
  | .rot l => (me σ O1).bind fun y O2 => lift (ixT l y O2) O2
  | _ => .stuck
variable {c : Cs} {k : Nat} {o e : Expr} {mo me : DE} {apos cpos : Pos}
theorem wIndexT (ho : SE U c k o mo) (he : SE U c k e me)
    (hbase : ∀ env : PySem.Env, attributeBase o "index" env (eval o env) = eval o env := by intro _; rfl)
    (hfew : ∀ env : PySem.Env, ((backTo cpos (starEach [e] env)).all (fun x => !x.1) && (backToKw cpos (keywordEach [] env)).all (fun x => x.1.isSome) && decide ([e].length + ([] : List Keyword).length + (if ([] : List Keyword).isEmpty then 0 else 1) < 30)) = true := by intro _; rfl)
    (hline : (apos.endLine == cpos.line) = true := by rfl) (hs : ∀ env : PySem.Env, starEach [e] env = (false, eval e env) :: starEach [] env := by intro _; rfl) (hplain : ∀ env : PySem.Env, (backTo cpos (starEach [] env)).any (·.1) = false := by intro _; rfl) :
    SE U c k (.Call (.Attribute o "index" apos) [e] [] cpos) (eIxT mo me) := by
  intro X W C
  obtain ⟨t, po, fo⟩ := ho X W C
  obtain ⟨t', pe, fe⟩ := saCons he saNil hs X W C
  obtain ⟨TT, eu⟩ := C.u
  subst eu
  have hu := units65 C.room
  refine ⟨_, peBMT PySem.F.slot_tuple_index PySem.F.type_tuple_index (mtIndexT hu) po pe (hbase _) (hfew _) hline (hs _) (hplain _), fun ad O H σ sv Q S rr h => fo ad O H σ sv _ S rr (Post.mono (Post.bind h) ?_)⟩
  rintro x H1 ⟨ad1, O1, dx, s1, S1, r1, h1⟩
  cases dx with
  | rot l =>
    obtain ⟨a, xs, rfl, fr, rl⟩ := r1
    have h1' : Post (⟨X.prog, X.w, X.K, X.mg, X.base, TT⟩ : Univ) ad1 H1 Q (fun cl d H' => W cl d sv H') ((me σ O1).bind fun y O2 => lift (ixT l y O2) O2) := h1
    refine ⟨⟨a, rfl, ?_⟩, ?_⟩
    · rcases fr with ⟨_, ob, k1, k2, k3⟩ | ⟨ob, k1, k2, _⟩
      · exact .inl ⟨ob, k1, k2, k3⟩
      · exact .inr ⟨ob, xs, k1, k2⟩
    · refine fe ad1 O1 H1 σ sv _ S1 (rr.keep s1) ?_
      show PostL _ _ _ _ _ ((me σ O1).bind fun d O1 => .ok [d] O1)
      revert h1'
      cases me σ O1 with
      | err x O2 => exact fun h2 => h2
      | stuck => exact fun h2 => h2.elim
      | ok y O2 =>
        intro h2 ad2 H2 vs s2 S2 rv
        obtain ⟨v, rfl, ry⟩ := reps1 rv
        have h3 : Post (⟨X.prog, X.w, X.K, X.mg, X.base, TT⟩ : Univ) ad1 H1 Q (fun cl d H' => W cl d sv H') (lift (ixT l y O2) O2) := h2
        cases e1 : ixT l y O2 with
        | none => rw [e1] at h3; exact h3.elim
        | some d =>
          rw [e1] at h3
          unfold ixT at e1
          split at e1
          · rename_i p ps e2 e3
            split at e1
            · rename_i hsh
              obtain ⟨s5, s6⟩ := Bool.and_eq_true_iff.mp hsh
              obtain ⟨j, e4, rfl⟩ := Option.map_eq_some_iff.mp e1
              obtain ⟨g1, g2, g3⟩ := List.findIdx?_eq_some_iff_getElem.mp e4
              have rl2 : Rep (⟨X.prog, X.w, X.K, X.mg, X.base, TT⟩ : Univ) ad2 H2 (.rot l) (.ref a) := ⟨a, xs, rfl, fr.keep s2, rl.keep s2⟩
              have dp : Dp X.K H2 (.ref a) (.tuple ps) := dp_of rl2 (by unfold toPy; rw [e3]; rfl)
              refine ⟨a, v, p, ps, j, ps[j], rfl, rfl, dp, dp_of ry e2, s6, s5, List.getElem?_eq_getElem g1, by simpa using g2, fun m z' hm hz => ?_, h3 ad2 H2 _ s2 S2 rfl⟩
              have hml : m < ps.length := by omega
              rw [List.getElem?_eq_getElem hml] at hz
              cases hz
              simpa using g3 m hm
            · cases e1
          · cases e1
  | _ => exact h1.elim
variable {p q qq : Pos} {m : DE}
theorem wTupRgX (h : gB c "tuple" = true) (hm : U.mg "tuple" = none) (h' : gB c "range" = true) (hm' : U.mg "range" = none) (he : SE U c k e m)
    (hs : ∀ env : PySem.Env, starEach [e] env = (false, eval e env) :: starEach [] env := by intro _; rfl) (hs2 : ∀ env : PySem.Env, starEach [.Call (.Name "range" q) [e] [] qq] env = (false, eval (.Call (.Name "range" q) [e] [] qq) env) :: starEach [] env := by intro _; rfl) (hh : c.hot = false := by rfl) :
    SE U c k (.Call (.Name "tuple" p) [.Call (.Name "range" q) [e] [] qq] [] cpos) (eRgOf .rot m) := by
  intro X W C
  obtain ⟨t, pt, f⟩ := he X W C
  obtain ⟨TT, eu⟩ := C.u
  subst eu
  refine ⟨_, peTupRgX (C.calm hh) (by show X.env.scope.names.lookup _ = _; rw [C.s]; exact gB_lk h) hm (prg_1 (by show X.env.scope.names.lookup _ = _; rw [C.s]; exact gB_lk h') hm' pt (hs _)) (hs2 _), fun ad O H σ sv Q S r hq => f ad O H σ sv _ S r (Post.mono (Post.bind hq) ?_)⟩
  rintro v H1 ⟨ad1, O1, d, s1, S1, r1, h1⟩
  cases d with
  | int j =>
    have h2 : Post (⟨X.prog, X.w, X.K, X.mg, X.base, TT⟩ : Univ) ad1 H1 Q (fun cl d H' => W cl d sv H') (if -(2 ^ 62) ≤ j ∧ j < 2 ^ 62 ∧ (j - 0).toNat ≤ 2 ^ 24 then .ok (.rot (rgD j)) O1 else .stuck) := h1
    split at h2
    · rename_i hb
      exact ⟨j, r1, ⟨by decide, by decide, hb.1, hb.2.1, hb.2.2⟩, fun z o hz hd => h2 ad1 _ _ (.new hz (S1.out hz)) (S1.new hz) (rep_rot S1 hz (reps_rg j) hd)⟩
    · exact h2.elim
  | _ => exact h1.elim
end
end CP
namespace CP
open PySem PySem.Spec PyProof.Rows L2

section
variable {prog : Program} {w : World} {A : Around} {E : Value → Shared → Prop} {s : Shared}
/-- a tuple's items in a new list -/
theorem collectTup {t : Addr} {vs : List Value} {Q : List Value → Shared → Prop} (it : IsTup s.heap t vs.toArray) (hz : vs.length ≤ sizeLine)
    (q : Q vs { s with heap := (s.heap.push (seqObj "list" #[] 0)).update s.heap.objs.size (Obj.mapSeq (· ++ vs.toArray)) }) : wpAny (model prog w) A (collect (.ref t)) Q E s := by
  obtain ⟨o, g, gc, n, gd⟩ := it
  have g2 : (s.heap.push (seqObj "list" #[] 0)).get? t = some o := Heap.get?_push_of_some _ g
  have gL : (s.heap.push (seqObj "list" #[] 0)).get? s.heap.objs.size = some (seqObj "list" #[] 0) := Heap.get?_push_size _ rfl
  unfold collect
  refine wpAny_bind (wpAny_runValue (codeAny_builtin entry_proto_collect' ?_))
  show wpAny _ _ (do let l ← newList []; again (.builtin "list.__iadd__" ⟨[l, .ref t], []⟩)) _ _ s
  refine wpAny_bind (wpAny_newList (wpAny_pure ⟨Code.quiet_builtin _ (by decide +kernel), ?_⟩))
  refine codeAny_builtin entry_list_iadd' ?_
  show wpAny _ _ (Builtin.List.listExtendWith (.ref s.heap.objs.size) (.ref t) (.ref s.heap.objs.size)) _ _ { s with heap := s.heap.push (seqObj "list" #[] 0) }
  unfold Builtin.List.listExtendWith
  refine wpAny_bind (wpAny_typeOf (T := "tuple") ⟨o, g2, gc⟩ ?_)
  have isT : (Value.type "tuple" == Value.type "tuple") = true := rfl
  rw [if_pos (by rw [isT]; simp)]
  refine wpAny_bind (listItems_at g2 gd (wpAny_bind (listItems_at gL rfl ?_)))
  rw [if_neg (by simp)]
  refine wpAny_bind (listUpdate_at gL rfl ?_ (Nat.zero_le _) (by
    show (#[] ++ vs.toArray).size ≤ sizeLine + 1
    simp only [Array.size_append, List.size_toArray, List.length_nil]; omega))
  refine wpAny_pure (wpAny_bind (wpAny_load (get?_update_seq (Heap.get?_push_size _ rfl) _) ?_))
  have es : ((#[] : Array Value) ++ vs.toArray).toList = vs := by simp
  show wpAny _ _ (pure ((#[] : Array Value) ++ vs.toArray).toList) Q E _
  rw [es]
  exact wpAny_pure q
/-- sorted(t), t a tuple of ints -/
theorem sortedTup {t : Addr} {vs : List Value} {ns : List Int} {Q : Value → Shared → Prop} (it : IsTup s.heap t vs.toArray) (hin : IntsAre vs ns) (few : vs.length < 64)
    (q : ∀ (out : Array Value) (ms : List Int), IntsAre out.toList ms → ms.Perm ns → ms.Pairwise (· ≤ ·) → Q (.ref (s.heap.objs.size + 1)) { s with heap := sortedAll s.heap vs out }) :
    wpAny (model prog w) A (call (.builtin "sorted") [.ref t]) Q E s := by
  have room : vs.length ≤ sizeLine := by rw [sizeLine_eq]; omega
  have grown : ((s.heap.push (seqObj "list" #[] 0)).update s.heap.objs.size (Obj.mapSeq (· ++ vs.toArray))).objs.size = s.heap.objs.size + 1 := by rw [Heap.size_update, size_push']
  refine Calls.call_function_entry kind_sorted plain_sorted entry_sorted
    (args_sorted1 _) ?_
  unfold Builtin.«sorted»
  refine wpAny_bind (m := checkCount "sorted" 1 1 _) (wpAny_pure (wpAny_bind (collectTup it room (wpAny_bind (wpAny_newList ?_)))))
  have made : (((s.heap.push (seqObj "list" #[] 0)).update s.heap.objs.size (Obj.mapSeq (· ++ vs.toArray))).push (seqObj "list" vs.toArray 0)).get? (s.heap.objs.size + 1) = some (seqObj "list" vs.toArray 0) := grown ▸ Heap.get?_push_size _ rfl
  show wpAny _ _ _ _ _ { s with heap := ((s.heap.push (seqObj "list" #[] 0)).update s.heap.objs.size (Obj.mapSeq (· ++ vs.toArray))).push (seqObj "list" vs.toArray 0) }
  rw [grown]
  refine wpAny_bind (wpAny_holding (wpAny_call_entry slot_list_sort ⟨_, made, rfl⟩ entry_list_sort (list_sort_tree made hin few fun out ms b1 b2 b3 => ⟨_, rfl, wpAny_pure ⟨_, rfl, q out ms b1 b2 b3⟩⟩)
    (args_list_sort _)))
end

def sortI (ns : List Int) : List Int := ns.mergeSort fun a b => decide (a ≤ b)
theorem sortI_eq {ns ms : List Int} (h : ms.Perm ns) (p : ms.Pairwise (· ≤ ·)) : ms = sortI ns := by
  have q := List.pairwise_mergeSort (le := fun a b : Int => decide (a ≤ b)) (fun a b c h1 h2 => by simp at *; omega) (fun a b => by simp; omega) ns
  refine List.Perm.eq_of_pairwise (le := (· ≤ ·)) (fun a b _ _ h1 h2 => Int.le_antisymm h1 h2) p (q.imp fun h => by simpa using h) (h.trans (List.mergeSort_perm _ _).symm)
def leS (a b : Str) : Bool := !ltCps b.cps.toList a.cps.toList
theorem ltC_irr : ∀ a : List Nat, ltCps a a = false
  | [] => rfl
  | x :: r => by simp [ltCps, ltC_irr r]
theorem ltC_tri : ∀ a b : List Nat, ltCps a b = false → ltCps b a = false → a = b
  | [], [], _, _ => rfl
  | [], _ :: _, h, _ => by cases h
  | _ :: _, [], _, h => by cases h
  | x :: r, y :: t, h1, h2 => by
    simp only [ltCps, Bool.or_eq_false_iff, decide_eq_false_iff_not] at h1 h2
    have e : x = y := by omega
    subst e
    simp at h1 h2
    rw [ltC_tri r t h1 h2]
theorem ltC_trans : ∀ a b c : List Nat, ltCps a b = true → ltCps b c = true → ltCps a c = true
  | [], [], _, h, _ => by cases h
  | [], _ :: _, [], _, h => by cases h
  | [], _ :: _, _ :: _, _, _ => rfl
  | _ :: _, [], _, h, _ => by cases h
  | _ :: _, _ :: _, [], _, h => by cases h
  | x :: r, y :: t, z :: u, h1, h2 => by
    simp only [ltCps, Bool.or_eq_true, Bool.and_eq_true, decide_eq_true_eq, beq_iff_eq] at h1 h2 ⊢
    rcases h1 with h1 | ⟨e1, h1⟩
    · rcases h2 with h2 | ⟨e2, h2⟩
      · exact .inl (by omega)
      · exact .inl (by omega)
    · rcases h2 with h2 | ⟨e2, h2⟩
      · exact .inl (by omega)
      · exact .inr ⟨by omega, ltC_trans r t u h1 h2⟩
theorem leS_trans (a b c : Str) (h1 : leS a b = true) (h2 : leS b c = true) : leS a c = true := by
  unfold leS at *
  simp only [Bool.not_eq_true'] at *
  cases h : ltCps c.cps.toList a.cps.toList with
  | false => rfl
  | true =>
    -- c < a, not b < a: c < b or c = ..
    cases hb : ltCps a.cps.toList b.cps.toList with
    | true => rw [ltC_trans _ _ _ h hb] at h2; cases h2
    | false =>
      have := ltC_tri _ _ hb h1
      rw [this, h2] at h; cases h
theorem leS_total (a b : Str) : (leS a b || leS b a) = true := by
  unfold leS
  cases h : ltCps b.cps.toList a.cps.toList with
  | false => rfl
  | true =>
    cases h2 : ltCps a.cps.toList b.cps.toList with
    | false => rfl
    | true => have := ltC_trans _ _ _ h h2; rw [ltC_irr] at this; cases this
def sortS (ss : List Str) : List Str := ss.mergeSort leS
theorem rising_pw : ∀ (ss : List Str) (p : Str), risingS p ss = true → (p :: ss).Pairwise (fun a b => leS a b = true)
  | [], p, _ => by simp
  | x :: r, p, h => by
    simp only [risingS, Bool.and_eq_true] at h
    have ih := rising_pw r x h.2
    refine List.pairwise_cons.mpr ⟨fun y hy => ?_, ih⟩
    have h1 : leS p x = true := h.1
    rcases List.mem_cons.mp hy with rfl | hy
    · exact h1
    · exact leS_trans _ _ _ h1 ((List.pairwise_cons.mp ih).1 y hy)
theorem sortS_eq {ss ys : List Str} (h : ys.Perm ss) (p : sortedS ys = true) : ys = sortS ss := by
  have q := List.pairwise_mergeSort (le := leS) leS_trans leS_total ss
  have p' : ys.Pairwise (fun a b => leS a b = true) := by
    cases ys with
    | nil => exact .nil
    | cons x r => exact rising_pw r x p
  refine List.Perm.eq_of_pairwise (le := fun a b => leS a b = true) (fun a b _ _ h1 h2 => ?_) p' q (h.trans (List.mergeSort_perm _ _).symm)
  unfold leS at h1 h2
  have e := ltC_tri _ _ (by simpa using h2) (by simpa using h1)
  cases a; cases b
  simpa using e
/-- sorted(xs): ints of a list or a tuple, texts of a list -/
def dSorted : FN := fun ds O => match ds with
  | [x] => (match intsOf ((seqR x O).getD [.non]) with
    | some ns => if ns.length < 64 then some (.lst ((sortI ns).map .int)) else none
    | none => match strsOf ((lstR x O).getD [.non]) with
      | some ss => if ss.length < 64 then some (.lst ((sortS ss).map .str)) else none
      | none => none)
  | _ => none
section
variable {X : Cx}
theorem callSortT : CallR X (.builtin "sorted") (fun vs H Q => ∃ (a : Addr) (ns : List Int), vs = [V.ref a] ∧ SqT X.K H a (ns.map V.int) ∧ ns.length < 64 ∧ ∀ (ms : List Int) (p : Addr), ms.Perm ns → ms.Pairwise (· ≤ ·) → H p = none → Q (.ref p) (upd H p (.lst (ms.map V.int)))) := by
  intro pins s σ H vs us Q I r hq
  obtain ⟨a, ns, rfl, sq, few, q⟩ := hq
  obtain ⟨its, rv, it, _⟩ := I.tuple sq
  obtain ⟨u, rfl, ru⟩ := vals1 r
  cases ru
  have hin := rv.ints
  refine sortedTup it hin (by rw [hin.length]; exact few) fun out ms b1 b2 b3 => ?_
  obtain ⟨ep, at2⟩ := PyProof.Rows.sortedAll_at s.heap its out
  have len : (ms.map V.int).length ≤ sizeLine := by rw [List.length_map, b2.length_eq, sizeLine_eq]; omega
  exact ⟨.ref _, upd H (s.heap.objs.size + 1) (.lst (ms.map V.int)), I.laid (t' := s.toks) (fun _ _ => PyProof.Rows.sortedAll_old) (Nat.le_succ _) ⟨len, out.toList, ep, vals_of_ints b1, at2⟩, rfl, q ms _ b2 b3 (I.hok.fresh (Nat.le_succ _))⟩
end
section
variable {U : Univ}
theorem opSorted : OpN U (.builtin "sorted") dSorted := by
  intro X W c k hh C
  obtain ⟨_, eu⟩ := C.u
  subst eu
  refine ⟨_, CallR.or cr_sorted (CallR.or callSortT cr_sortedS), ?_⟩
  intro ds xs ad O H d Q S r e q
  unfold dSorted at e
  split at e
  · rename_i x
    obtain ⟨v, rfl, rv⟩ := reps1 r
    split at e
    · rename_i ns e1
      split at e
      · rename_i few
        cases e
        cases e2 : seqR x O with
        | none => rw [e2] at e1; cases e1
        | some l =>
          rw [e2] at e1
          have el : l = ns.map D.int := intsOf_eq e1
          obtain ⟨a, ys, rfl, hsq, t⟩ := seqR_at S rv e2
          have ey := reps_ints t el
          subst ey
          have fin_ : ∀ (ms : List Int) (p : Addr), ms.Perm ns → ms.Pairwise (· ≤ ·) → H p = none → Q (.ref p) (upd H p (.lst (ms.map V.int))) := fun ms p h1 h2 hp => by
            rw [sortI_eq h1 h2]
            exact q _ _ (.new hp (S.out hp)) (S.new hp) (rep_lst S hp (reps_of_ints _))
          rcases hsq with h | h
          · exact .inl ⟨a, ns, rfl, h, few, fin_⟩
          · exact .inr (.inl ⟨a, ns, rfl, h, few, fin_⟩)
      · cases e
    · split at e
      · rename_i ss e1
        split at e
        · rename_i few
          cases e
          cases e2 : lstR x O with
          | none => rw [e2] at e1; cases e1
          | some l =>
            rw [e2] at e1
            have el : l = ss.map D.str := strsOf_eq e1
            obtain ⟨a, ys, rfl, h, t⟩ := lstR_at S rv e2
            have ey := reps_strs t el
            subst ey
            refine .inr (.inr ⟨a, ss, rfl, h, few, fun ys p h1 h2 hp => ?_⟩)
            rw [sortS_eq h1 h2]
            exact q _ _ (.new hp (S.out hp)) (S.new hp) (rep_lst S hp (reps_of_strs _))
        · cases e
      · cases e
  · cases e
end
end CP
namespace CP
open PySem PySem.Spec PyProof.Rows L2
/-- a text so many times -/
def strMul (x : Str) (n : Int) : Str := if n < 1 then Str.empty else if (n == 1 || x.length == 0) = true then x else ⟨(List.replicate n.toNat x.cps).foldl (· ++ ·) #[]⟩
section
variable {X : Cx}
theorem op_smul : OpR X (binaryOp .Mult) (fun x y H Q => ∃ i k, x = .str i ∧ y = .int k ∧ 0 ≤ k ∧ k < 2 ^ 31 ∧ i.length * k.toNat ≤ sizeLine ∧ Q (.str (strMul i k)) H) := by
  intro pins s σ H x y v u Q I rx ry h
  obtain ⟨i, k, rfl, rfl, h0, h1, hz, q⟩ := h
  obtain ⟨t, rfl⟩ := rx
  obtain ⟨t', rfl⟩ := ry
  refine PySem.P.mul_str ?_ ?_ ?_ ?_
  · rw [decide_eq_false (by omega), decide_eq_false (by omega)]; rfl
  · intro a b
    have hk : (k.toNat : Int) = k := Int.toNat_of_nonneg h0
    have hz' : (i.length : Int) * k ≤ sizeLine := by rw [← hk]; exact_mod_cast hz
    rw [sizeLine_eq] at hz'
    have : (i.length : Int) ≤ (2 ^ 63 - 1) / k := by
      rw [Int.le_ediv_iff_mul_le (by omega)]
      omega
    omega
  · intro a b
    exact decide_eq_false (by omega)
  · unfold strMul at q
    split
    · rename_i c
      rw [if_pos c] at q
      exact ⟨by decide, .str Str.empty, H, I.tok _, ⟨_, rfl⟩, q⟩
    · rename_i c
      rw [if_neg c] at q
      split
      · rename_i c2
        rw [if_pos c2] at q
        exact ⟨.str i, H, I, ⟨_, rfl⟩, q⟩
      · rename_i c2
        rw [if_neg c2] at q
        exact ⟨PySem.fits_reps (decide_eq_false (by omega)), .str _, H, I.tok _, ⟨_, rfl⟩, q⟩
end
def dMul : F2 := fun x y O => match x, y with
  | .str i, .int k => if 0 ≤ k ∧ k < 2 ^ 31 ∧ i.length * k.toNat ≤ sizeLine then some (.str (strMul i k)) else none
  | x, .int k => match lstT x O with
    | some i => if 0 ≤ k ∧ k < 2 ^ 31 ∧ i.length * k.toNat ≤ sizeLine then some (.lst (List.replicate k.toNat i).flatten) else none
    | none => none
  | _, _ => none
theorem Reps.rep {U : Univ} {ad : List Addr} {H : Hp} {ds : List D} {vs : List V} (h : Reps U ad H ds vs) : ∀ n, Reps U ad H (List.replicate n ds).flatten (List.replicate n vs).flatten
  | 0 => by simpa [Reps] using trivial
  | n + 1 => by
    rw [List.replicate_succ, List.replicate_succ, List.flatten_cons, List.flatten_cons]
    exact h.append (Reps.rep h n)
section
variable {U : Univ}
theorem opMul : Op2 U (binaryOp .Mult) dMul := by
  intro X W c k Cc
  obtain ⟨_, eu⟩ := Cc.u
  subst eu
  refine ⟨_, op_smul.or op_rep, ?_⟩
  intro dx dy x y ad O H d Q S r1 r2 e q
  unfold dMul at e
  split at e
  · rename_i i j
    split at e
    · rename_i hz
      cases e
      exact .inl ⟨i, j, r1, r2, hz.1, hz.2.1, hz.2.2, q _ _ .refl S rfl⟩
    · cases e
  · rename_i j _
    split at e
    · rename_i i e1
      split at e
      · rename_i hz
        cases e
        obtain ⟨a, xs, rfl, f1, p1⟩ := lstT_at S r1 e1
        have hl1 := p1.length
        refine .inr ⟨a, j, xs, rfl, r2, f1, by omega, by omega, by rw [← hl1]; exact hz.2.2, fun p hp => q _ _ (.new hp (S.out hp)) (S.new hp) (rep_lst S hp (p1.rep _))⟩
      · cases e
    · cases e
  · cases e
end
end CP
namespace CP
open PySem PySem.Spec PyProof.Rows L2
/-- a, b = a list -/
def gtLst (n : Nat) (gs : DGs) : DG := fun d σ O => match lstR d O with
  | some l => if l.length = n then gs l σ O else .stuck
  | none => .stuck
section
variable {U : Univ} {c : Cs} {k : Nat} {pos : Pos} {es : List Expr} {gs : DGs}
theorem g2Lst {n : Nat} (h : SGs2 U c k es gs) (hl : ∀ env : PySem.Env, (assignEach es env).length = es.length := by intro _; rfl)
    (hst : ∀ env : PySem.Env, (assignEach es env).findIdx? (·.1) = none := by intro _; rfl) (hh : c.hot = false := by rfl) : SG2 U c k (.Tuple es n pos) (gtLst es.length gs) := by
  intro X W C
  obtain ⟨t, p, f⟩ := h X W C
  obtain ⟨_, eu⟩ := C.u
  subst eu
  refine ⟨_, pg_unl (n := es.length) (C.calm hh) p (hl _) (hst _), fun ad O H σ sv d v Q S r q h => ?_⟩
  unfold gtLst at h
  split at h
  · rename_i l e1
    split at h
    · rename_i hn
      obtain ⟨a, xs, rfl, hs, t'⟩ := lstR_at S q e1
      exact ⟨a, xs, rfl, hs, by rw [← t'.length]; exact hn, f ad O H σ sv l xs Q S r t' h⟩
    · exact h.elim
  · exact h.elim
end
/-- list(x), for a name that will change -/
def dListM : FR := fun ds O => match ds with
  | [x] => (match seqR x O with
    | some l => if l.length ≤ sizeLine then .ok (.ptr O.length) (O ++ [.lst l]) else .stuck
    | none => .stuck)
  | _ => .stuck
section
variable {U : Univ} {c : Cs} {k : Nat} {p pos : Pos} {x : Str} {e : Expr} {es : List Expr} {ms : DA} {g : FR} {T : String}
theorem opListM : OpR2 U k (.type "list") dListM := by
  intro X W c hh C
  obtain ⟨_, eu⟩ := C.u
  subst eu
  refine ⟨_, call_list_of, ?_⟩
  intro ds xs ad O O' H d Q S r e q
  unfold dListM at e
  split at e
  · split at e
    · rename_i l e1
      split at e
      · cases e
        obtain ⟨v, rfl, rx⟩ := reps1 r
        obtain ⟨a, xs, rfl, h, t⟩ := seqR_at S rx e1
        exact ⟨a, xs, rfl, h, fun p hp => q _ _ _ (.alloc hp) (cell_alloc S hp t) (rep_ptr S)⟩
      · cases e
    · cases e
  · cases e
theorem sCallT2 (ho : OpR2 U k (.type T) g) (hg : c.sc.names.lookup x = some .globalImplicit) (hm : U.mg x = none) (hv : bootBuiltins x = some (.type T)) (ha : SA U c k (e :: es) ms) (hn : x ≠ "__name__") (hdb : (x == ("__debug__" : Str)) = false)
    (he : ∀ env, starEach (e :: es) env = (false, eval e env) :: starEach es env := by intro _; rfl) (hpl : ∀ env, (backTo pos (starEach es env)).any (·.1) = false := by intro _; rfl) (hh : c.hot = false := by rfl) :
    SE U c k (.Call (.Name x p) (e :: es) [] pos) (eN2 g ms) := by
  intro X W C
  obtain ⟨t, pa, fa⟩ := ha X W C
  obtain ⟨r, hr, hq⟩ := ho X W c hh C
  obtain ⟨_, eu⟩ := C.u
  subst eu
  exact ⟨_, pe_callTy hr (by show X.env.scope.names.lookup x = _; rw [C.s]; exact hg) hm hv pa hn hdb (he _) (hpl _), runN2 fa hq⟩
theorem wT2 {g : FR} (h : gB c x = true) (hm : U.mg x = none) (hv : bootBuiltins x = some (.type T)) (ho : OpR2 U k (.type T) g) (ha : SA U c k (e :: es) ms)
    (he : ∀ env, starEach (e :: es) env = (false, eval e env) :: starEach es env := by intro _; rfl) (hpl : ∀ env, (backTo pos (starEach es env)).any (·.1) = false := by intro _; rfl) (hh : c.hot = false := by rfl) : SE U c k (.Call (.Name x p) (e :: es) [] pos) (eN2 g ms) :=
  sCallT2 ho (gB_lk h) hm hv ha (gB_nm h) (gB_db h) he hpl hh
end
end CP
namespace CP
open PySem PySem.Spec PyProof.Rows L2
theorem walk_gen {J : It} {n : Nat} {G : Hp → Prop} {Y : Nat → Hp → V → Hp → Prop} (w : Walk J n G Y) (B : V → Hp → (Hp → Prop) → Prop) {H0 : Hp} {Q : Hp → Prop} (Pv : Nat → Hp → Prop) (h0 : Pv 0 H0) (hG : ∀ i H, i ≤ n → Pv i H → G H)
    (hs : ∀ i x H H', i < n → Pv i H → Y i H x H' → B x H' (Pv (i + 1))) (hd : ∀ H, Pv n H → Q H) :
    ∃ W : Nat → Nat → Hp → Prop, (∃ m, W 0 m H0) ∧ ∀ i m H, W i m H → (J.stop i H ∧ Q H) ∨ (J.go i H ∧ ∃ Nx : Hp → Prop, (∀ H', Nx H' → ∃ m', m' < m ∧ W (i + 1) m' H') ∧ ∀ x H', J.yld i H x H' → B x H' Nx) := by
  refine ⟨fun i m H => m = n - i ∧ i ≤ n ∧ Pv i H, ⟨n, by simp, Nat.zero_le _, h0⟩, ?_⟩
  rintro i m H ⟨rfl, hi, p⟩
  have q := hG i H hi p
  by_cases hlt : i < n
  · refine .inr ⟨w.goes i H hlt q, Pv (i + 1), fun H' p' => ⟨n - (i + 1), by omega, rfl, hlt, p'⟩, fun x H' y => hs i x H H' hlt p (w.yields i H x H' hlt q y)⟩
  · have e : i = n := by omega
    subst e
    exact .inl ⟨w.stops H q, hd H p⟩
noncomputable def lcTurn2 (g : Tg) (vs : List Nat) (tt : DT) (mi1 : DI) (g1 : Tg) (vs1 : List Nat) (tt1 : DT) (el : DE) (σ : Env) (d : D) (acc : List D) (O : Store) : Option (List D × Store) :=
  (tgt g d (O ++ [.lst acc]) (wipeE σ vs)).bind fun σ1 => (snip O acc (fun _ => true) (tt σ1 (O ++ [.lst acc]))).bind fun bO => if bO.1 = true then
    (match mi1 σ1 (bO.2 ++ [.lst acc]) with
    | .ok it O3 => if O3 = bO.2 ++ [.lst acc] then (match lcL it.w (lcTurn g1 vs1 tt1 el σ1) it.ds acc bO.2 with
        | .ok a O4 => some (a, O4)
        | _ => none) else none
    | _ => none)
    else some (acc, bO.2)
noncomputable def eLc2 (mi : DI) (g : Tg) (vs : List Nat) (tt : DT) (mi1 : DI) (g1 : Tg) (vs1 : List Nat) (tt1 : DT) (el : DE) : DE := fun σ O => match mi σ O with
  | .ok it O1 => (lcL it.w (lcTurn2 g vs tt mi1 g1 vs1 tt1 el σ) it.ds [] O1).bind fun acc O2 => .ok (.lst acc) O2
  | .err x O1 => .err x O1
  | .stuck => .stuck
theorem lcL_watch2 {w : Option (Nat × D)} {turn : D → List D → Store → Option (List D × Store)} {l acc a : List D} {O O' : Store} (h : lcL w turn l acc O = .ok a O') : watchOk w O := by
  by_cases hw : watchOk w O
  · exact hw
  · cases l with
    | nil => unfold lcL at h; rw [if_neg hw] at h; cases h
    | cons d r => unfold lcL at h; rw [if_neg hw] at h; cases h
section
variable {U : Univ} {c : Cs} {k : Nat} {pos : Pos} {tg iter tg1 iter1 elt : Expr} {ifs ifs1 : List Expr} {scope : Scope} {own : List (Str × Nat)} {mi mi1 : DI} {g g1 : Tg} {tt tt1 : DT} {el : DE}
theorem lc_in {ad1 : List Addr} {H2 : Hp} {O2 : Store} {D : Addr} {J : It} {it : Itm} {σ : Env} {sv : L2.St} {vs : List Nat} {acc acc' : List CP.D} {O' : Store} {N : Hp → Prop} (I : LcInv U ad1 H2 D it.w H2 O2 acc) (y : Yields U J (ad1 ++ [D]) H2 it.ds it.w) (r : RepE U (ad1 ++ [D]) H2 σ sv) (hsl : ∀ i ∈ g.slots, i ∈ vs)
    (e : lcL it.w (lcTurn g vs tt el σ) it.ds acc O2 = .ok acc' O') (hN : ∀ H', LcInv U ad1 H2 D none H' O' acc' → N H') :
    ∃ W : Nat → Nat → Hp → Prop, (∃ m, W 0 m H2) ∧ ∀ i m H, W i m H → (J.stop i H ∧ N H) ∨ (J.go i H ∧ ∃ Nx : Hp → Prop, (∀ H', Nx H' → ∃ m', m' < m ∧ W (i + 1) m' H') ∧ ∀ x H', J.yld i H x H' → gOf U.K g x (L2.wipe sv vs) H' fun σ2 H2 => L2.wipe σ2 vs = L2.wipe sv vs ∧ tGT U (fun _ _ _ _ => False) tt σ2 H2 fun b H3 =>
        if b = true then tG U (fun _ _ _ _ => False) el σ2 H3 fun y H4 => ∃ acc, H4 D = some (.lst acc) ∧ acc.length < sizeLine ∧ Nx (upd H4 D (.lst (acc ++ [y]))) else Nx H3) := by
  obtain ⟨G, Y, w, hG, hY⟩ := y
  refine walk_gen w (fun x H' Nx => gOf U.K g x (L2.wipe sv vs) H' fun σ2 H2 => L2.wipe σ2 vs = L2.wipe sv vs ∧ tGT U (fun _ _ _ _ => False) tt σ2 H2 fun b H3 =>
        if b = true then tG U (fun _ _ _ _ => False) el σ2 H3 fun y H4 => ∃ acc, H4 D = some (.lst acc) ∧ acc.length < sizeLine ∧ Nx (upd H4 D (.lst (acc ++ [y]))) else Nx H3) (fun i H => ∃ O acc, LcInv U ad1 H2 D it.w H O acc ∧ lcL it.w (lcTurn g vs tt el σ) (it.ds.drop i) acc O = .ok acc' O') ⟨O2, acc, I, e⟩ ?_ ?_ ?_
  · rintro i H hi ⟨O, ac, I1, _⟩
    exact hG _ _ H I1.2.1 I1.1 (watch_app I1.2.2.2.2)
  · rintro i x H H3 hi ⟨O, ac, I1, h1⟩ yy
    obtain ⟨s3, S3, d, ed, rd⟩ := hY i x H H3 _ _ hi I1.2.1 I1.1 (watch_app I1.2.2.2.2) yy
    have hdrop : it.ds.drop i = d :: it.ds.drop (i + 1) := by
      rw [List.drop_eq_getElem_cons hi]
      rw [List.getElem?_eq_getElem hi] at ed
      cases ed; rfl
    rw [hdrop] at h1
    unfold lcL at h1
    rw [if_pos I1.2.2.2.2] at h1
    cases et : lcTurn g vs tt el σ d ac O with
    | none => rw [et] at h1; cases h1
    | some q =>
      rw [et] at h1
      have I3 : LcInv U ad1 H2 D it.w H3 O ac := ⟨S3, I1.2.1.trans s3, I1.2.2.1, I1.2.2.2.1, I1.2.2.2.2⟩
      refine lc_turn (acc' := q.1) (O' := q.2) I3 (r.keep I3.2.1) rd hsl et fun H' I' => ⟨q.2, q.1, ⟨I'.1, I'.2.1, I'.2.2.1, I'.2.2.2.1, ?_⟩, h1⟩
      exact lcL_watch2 h1
  · rintro H ⟨O, ac, I1, h1⟩
    rw [List.drop_length] at h1
    unfold lcL at h1
    rw [if_pos I1.2.2.2.2] at h1
    cases h1
    exact hN H ⟨I1.1, I1.2.1, I1.2.2.1, I1.2.2.2.1, trivial⟩
theorem lc_turn2 {ad1 : List Addr} {B : Hp} {D : Addr} {w : Option (Nat × CP.D)} {σ : Env} {sv : L2.St} {vs vs1 : List Nat} {H2 : Hp} {O2 : Store} {acc : List CP.D} {x : V} {d : CP.D} {acc' : List CP.D} {O' : Store} {N : Hp → Prop}
    (I : LcInv U ad1 B D w H2 O2 acc) (rσ : RepE U (ad1 ++ [D]) H2 σ sv) (rd : Rep U (ad1 ++ [D]) H2 d x) (hsl : ∀ i ∈ g.slots, i ∈ vs) (hsl1 : ∀ i ∈ g1.slots, i ∈ vs1) (e : lcTurn2 g vs tt mi1 g1 vs1 tt1 el σ d acc O2 = some (acc', O'))
    (hN : ∀ H', LcInv U ad1 B D none H' O' acc' → N H') :
    gOf U.K g x (L2.wipe sv vs) H2 fun σ2 H3 => L2.wipe σ2 vs = L2.wipe sv vs ∧ tGT U (fun _ _ _ _ => False) tt σ2 H3 fun b H4 =>
      if b = true then tGI U (fun _ _ _ _ => False) mi1 σ2 H4 fun J1 H5 => ∃ W1 : Nat → Nat → Hp → Prop, (∃ m, W1 0 m H5) ∧ ∀ j k H, W1 j k H →
        (J1.stop j H ∧ N H) ∨ (J1.go j H ∧ ∃ Nx1 : Hp → Prop, (∀ H', Nx1 H' → ∃ k', k' < k ∧ W1 (j + 1) k' H') ∧ ∀ x H', J1.yld j H x H' → gOf U.K g1 x (L2.wipe σ2 vs1) H' fun σ3 H6 => L2.wipe σ3 vs1 = L2.wipe σ2 vs1 ∧ tGT U (fun _ _ _ _ => False) tt1 σ3 H6 fun b H7 =>
          if b = true then tG U (fun _ _ _ _ => False) el σ3 H7 fun y H8 => ∃ acc, H8 D = some (.lst acc) ∧ acc.length < sizeLine ∧ Nx1 (upd H8 D (.lst (acc ++ [y]))) else Nx1 H7)
      else N H4 := by
  obtain ⟨S2, s2, oa, oO, hw⟩ := I
  have hn : ad1.length = O2.length := by have := S2.len; simpa using this
  obtain ⟨σ1, e1, e⟩ := Option.bind_eq_some_iff.mp (show (tgt g d (O2 ++ [.lst acc]) (wipeE σ vs)).bind _ = some (acc', O') from e)
  refine tgt_run S2 (rσ.wipe vs) rd e1 fun xs r1 => ⟨wipe_set hsl, ad1 ++ [D], O2 ++ [.lst acc], σ1, S2, r1, ?_⟩
  obtain ⟨⟨b, O3⟩, e2, e⟩ := Option.bind_eq_some_iff.mp e
  obtain ⟨Oa, ha, c1, _, c3, rfl⟩ := snip_some e2
  rw [ha]
  intro ad' H3 s3 S3
  have S3' := snip_at S2 s3 S3 c1 c3
  have s23 := s2.trans s3.cut
  have oO3 : ∀ (i : Nat) (d : CP.D), (Oa.take O2.length)[i]? = some d → okD ad1.length d = true := fun i d h => by
    rcases c3 i d h with z | z
    · exact oO i d z
    · rw [hn]; exact z
  cases b with
  | false =>
    rw [if_neg Bool.false_ne_true]
    have e' : some (acc, Oa.take O2.length) = some (acc', O') := e
    cases e'
    exact hN H3 ⟨S3', s23, oa, oO3, trivial⟩
  | true =>
    rw [if_pos rfl]
    rw [if_pos rfl] at e
    refine ⟨ad1 ++ [D], Oa.take O2.length ++ [.lst acc], σ1, S3', r1.keep s3.cut, ?_⟩
    have e' : (match mi1 σ1 (Oa.take O2.length ++ [.lst acc]) with
      | .ok it O3 => if O3 = Oa.take O2.length ++ [.lst acc] then (match lcL it.w (lcTurn g1 vs1 tt1 el σ1) it.ds acc (Oa.take O2.length) with
        | .ok a O4 => some (a, O4)
        | _ => none) else none
      | _ => none) = some (acc', O') := e
    cases em : mi1 σ1 (Oa.take O2.length ++ [.lst acc]) with
    | err _ _ => rw [em] at e'; cases e'
    | stuck => rw [em] at e'; cases e'
    | ok it O5 =>
      rw [em] at e'
      simp only at e'
      split at e'
      · rename_i h5
        subst h5
        cases el2 : lcL it.w (lcTurn g1 vs1 tt1 el σ1) it.ds acc (Oa.take O2.length) with
        | err _ _ => rw [el2] at e'; cases e'
        | stuck => rw [el2] at e'; cases e'
        | ok a O6 =>
          rw [el2] at e'
          cases e'
          intro ad4 H4 J s4 S4 y4 w4
          obtain ⟨l, rfl⟩ := s4.pre
          have hl : l = [] := by
            have a1 := S4.len
            have a2 := S3'.len
            rw [List.length_append] at a1
            have : l.length = 0 := by omega
            exact List.eq_nil_of_length_eq_zero this
          subst hl
          rw [List.append_nil] at s4 S4 y4
          have I4 : LcInv U ad1 H4 D it.w H4 (Oa.take O2.length) acc := ⟨S4, .refl, oa, oO3, lcL_watch2 el2⟩
          exact lc_in I4 y4 ((r1.keep s3.cut).keep s4) hsl1 el2 fun H' I' => hN H' ⟨I'.1, (s23.trans s4).trans I'.2.1, I'.2.2.1, I'.2.2.2.1, trivial⟩
      · cases e'
theorem lc_run2 {ad1 : List Addr} {H1 : Hp} {O1 : Store} {J : It} {it : Itm} {σ : Env} {sv : L2.St} {vs vs1 : List Nat} {Qd : V → Hp → Prop} {E : XK} {D : Addr} (S1 : Sim U ad1 O1 H1) (r1 : RepE U ad1 H1 σ sv) (y : Yields U J ad1 H1 it.ds it.w) (hw : watchOk it.w O1) (hD : H1 D = none)
    (hsl : ∀ i ∈ g.slots, i ∈ vs) (hsl1 : ∀ i ∈ g1.slots, i ∈ vs1) (h : Post U ad1 H1 Qd E ((lcL it.w (lcTurn2 g vs tt mi1 g1 vs1 tt1 el σ) it.ds [] O1).bind fun acc O2 => .ok (.lst acc) O2)) :
    ∃ W : Nat → Nat → Hp → Prop, (∃ m, W 0 m (upd H1 D (.lst []))) ∧ ∀ i m H, W i m H →
      (J.stop i H ∧ Qd (.ref D) H) ∨ (J.go i H ∧ ∃ Nx : Hp → Prop, (∀ H', Nx H' → ∃ m', m' < m ∧ W (i + 1) m' H') ∧ ∀ x H', J.yld i H x H' → gOf U.K g x (L2.wipe sv vs) H' fun σ2 H2 => L2.wipe σ2 vs = L2.wipe sv vs ∧ tGT U (fun _ _ _ _ => False) tt σ2 H2 fun b H3 =>
        if b = true then tGI U (fun _ _ _ _ => False) mi1 σ2 H3 fun J1 H4 => ∃ W1 : Nat → Nat → Hp → Prop, (∃ m, W1 0 m H4) ∧ ∀ j k H, W1 j k H →
          (J1.stop j H ∧ Nx H) ∨ (J1.go j H ∧ ∃ Nx1 : Hp → Prop, (∀ H', Nx1 H' → ∃ k', k' < k ∧ W1 (j + 1) k' H') ∧ ∀ x H', J1.yld j H x H' → gOf U.K g1 x (L2.wipe σ2 vs1) H' fun σ3 H5 => L2.wipe σ3 vs1 = L2.wipe σ2 vs1 ∧ tGT U (fun _ _ _ _ => False) tt1 σ3 H5 fun b H6 =>
            if b = true then tG U (fun _ _ _ _ => False) el σ3 H6 fun y H7 => ∃ acc, H7 D = some (.lst acc) ∧ acc.length < sizeLine ∧ Nx1 (upd H7 D (.lst (acc ++ [y]))) else Nx1 H6)
        else Nx H3) := by
  obtain ⟨G, Y, w, hG, hY⟩ := y
  have al : Step ad1 H1 (ad1 ++ [D]) (upd H1 D (.lst [])) := Step.alloc hD
  refine walk_gen w (fun x H' Nx => gOf U.K g x (L2.wipe sv vs) H' fun σ2 H2 => L2.wipe σ2 vs = L2.wipe sv vs ∧ tGT U (fun _ _ _ _ => False) tt σ2 H2 fun b H3 =>
        if b = true then tGI U (fun _ _ _ _ => False) mi1 σ2 H3 fun J1 H4 => ∃ W1 : Nat → Nat → Hp → Prop, (∃ m, W1 0 m H4) ∧ ∀ j k H, W1 j k H →
          (J1.stop j H ∧ Nx H) ∨ (J1.go j H ∧ ∃ Nx1 : Hp → Prop, (∀ H', Nx1 H' → ∃ k', k' < k ∧ W1 (j + 1) k' H') ∧ ∀ x H', J1.yld j H x H' → gOf U.K g1 x (L2.wipe σ2 vs1) H' fun σ3 H5 => L2.wipe σ3 vs1 = L2.wipe σ2 vs1 ∧ tGT U (fun _ _ _ _ => False) tt1 σ3 H5 fun b H6 =>
            if b = true then tG U (fun _ _ _ _ => False) el σ3 H6 fun y H7 => ∃ acc, H7 D = some (.lst acc) ∧ acc.length < sizeLine ∧ Nx1 (upd H7 D (.lst (acc ++ [y]))) else Nx1 H6)
        else Nx H3) (fun i H2 => ∃ O2 acc, LcInv U ad1 (upd H1 D (.lst [])) D it.w H2 O2 acc ∧ Post U ad1 H1 Qd E ((lcL it.w (lcTurn2 g vs tt mi1 g1 vs1 tt1 el σ) (it.ds.drop i) acc O2).bind fun acc O2 => .ok (.lst acc) O2))
    ⟨O1, [], ⟨cell_alloc S1 hD .nil, .refl, rfl, fun i d e => S1.okGet e, hw⟩, h⟩ ?_ ?_ ?_
  · rintro i H2 hi ⟨O2, acc, I, h2⟩
    exact hG _ _ H2 (al.trans I.2.1) I.1 (watch_app I.2.2.2.2)
  · rintro i x H2 H3 hi ⟨O2, acc, I, h2⟩ yy
    obtain ⟨s3, S3, d, ed, rd⟩ := hY i x H2 H3 _ _ hi (al.trans I.2.1) I.1 (watch_app I.2.2.2.2) yy
    have hdrop : it.ds.drop i = d :: it.ds.drop (i + 1) := by
      rw [List.drop_eq_getElem_cons hi]
      rw [List.getElem?_eq_getElem hi] at ed
      cases ed; rfl
    rw [hdrop] at h2
    unfold lcL at h2
    rw [if_pos I.2.2.2.2] at h2
    cases et : lcTurn2 g vs tt mi1 g1 vs1 tt1 el σ d acc O2 with
    | none => rw [et] at h2; exact h2.elim
    | some q =>
      rw [et] at h2
      have I3 : LcInv U ad1 (upd H1 D (.lst [])) D it.w H3 O2 acc := ⟨S3, I.2.1.trans s3, I.2.2.1, I.2.2.2.1, I.2.2.2.2⟩
      refine lc_turn2 (acc' := q.1) (O' := q.2) I3 ((r1.keep al).keep I3.2.1) rd hsl hsl1 et fun H' I' => ⟨q.2, q.1, ⟨I'.1, I'.2.1, I'.2.2.1, I'.2.2.2.1, ?_⟩, h2⟩
      exact lcL_watch h2
  · rintro H2 ⟨O2, acc, I, h2⟩
    rw [List.drop_length] at h2
    unfold lcL at h2
    rw [if_pos I.2.2.2.2] at h2
    have hn : ad1.length = O2.length := by have := I.1.len; simpa using this
    have hDx : (ad1 ++ [D])[ad1.length]? = some D := by simp
    obtain ⟨xs, hx, rx⟩ := I.1.at_ ad1.length D (.lst acc) hDx (by rw [List.getElem?_append_right (by omega), hn]; simp)
    have Sc := I.1.cutad (ad := ad1) (l := [D]) (fun i d e => by
      rw [hn, List.take_left] at e
      exact I.2.2.2.1 i d e)
    rw [hn, List.take_left] at Sc
    exact h2 ad1 H2 _ (al.trans I.2.1).cut Sc ⟨D, xs, rfl, hx, S1.out hD, Reps.cutad I.2.2.1 rx⟩
theorem sLc2 {vs1 : List Nat} (hi : SI U c k tg iter mi) (hg : SG U (blkCs c scope) tg g) (ht : SIfs U (blkCs c scope) k ifs tt) (hi1 : SI U (blkCs c scope) k tg1 iter1 mi1) (hg1 : SG U (blkCs c scope) tg1 g1) (ht1 : SIfs U (blkCs c scope) k ifs1 tt1) (he : SE U (blkCs c scope) k elt el)
    (ok : blkC c.N c.sc scope own = true) (hsl : ∀ i ∈ g.slots, i ∈ own.map (·.2)) (hsl1 : ∀ i ∈ g1.slots, i ∈ vs1) (hv : ∀ i ∈ vs1, i ∈ own.map (·.2))
    (hs : ∀ (env : PySem.Env) x, foldedSetIterable iter env x = pure x := by intro _ _; rfl) (hs1 : ∀ (env : PySem.Env) x, foldedSetIterable iter1 env x = pure x := by intro _ _; rfl) (hh : c.hot = false := by rfl) :
    SE U c k (.ListComp elt [⟨tg, iter, ifs, 0⟩, ⟨tg1, iter1, ifs1, 0⟩] scope pos) (eLc2 mi g (own.map (·.2)) tt mi1 g1 vs1 tt1 el) := by
  intro X W C
  obtain ⟨ti, pi, fi⟩ := hi X W C
  refine ⟨_, pe_lc2 (own := own) (vs1 := vs1) (C.calm hh) (by rw [C.n]; exact C.nd) pi (by rw [C.n, C.s]; exact blkOk_by ok) hv (fun s H Ca cl fp => hg _ _ k (C.blk scope s H cl Ca fp)) (fun s H Ca cl fp => ht _ _ (C.blk scope s H cl Ca fp))
    (fun s H Ca cl fp => hi1.pi (C.blk scope s H cl Ca fp)) (fun s H Ca cl fp => hg1 _ _ k (C.blk scope s H cl Ca fp)) (fun s H Ca cl fp => ht1 _ _ (C.blk scope s H cl Ca fp)) (fun s H Ca cl fp => he.pe (C.blk scope s H cl Ca fp)) (hs _) hs1, ?_⟩
  intro ad O H σ sv Q S r h
  refine fi ad O H σ sv _ S r (postI_of h fun ad1 H1 O1 it J s1 S1 y hw h1 => ?_)
  intro D hD
  exact lc_run2 S1 (r.keep s1) y hw hD hsl hsl1 h1
/-- name = [..] on one line -/
theorem sSetLc2 {i : Nat} {y : Str} {py spos : Pos} {vs1 : List Nat} (hi : SI U c k tg iter mi) (hg : SG U (blkCs c scope) tg g) (ht : SIfs U (blkCs c scope) k ifs tt) (hi1 : SI U (blkCs c scope) k tg1 iter1 mi1) (hg1 : SG U (blkCs c scope) tg1 g1) (ht1 : SIfs U (blkCs c scope) k ifs1 tt1) (he : SE U (blkCs c scope) k elt el)
    (ok : blkC c.N c.sc scope own = true) (hsl : ∀ i ∈ g.slots, i ∈ own.map (·.2)) (hsl1 : ∀ i ∈ g1.slots, i ∈ vs1) (hv : ∀ i ∈ vs1, i ∈ own.map (·.2))
    (hy : c.N[i]? = some y) (hyl : c.sc.names.lookup y = some .local) (hk : c.sc.kind = .function) (hl : (py.line == pos.line) = true) (ha : (scope.names.any fun (n, k) => n == y && (k == .local || k == .cell)) = false)
    (hs : ∀ (env : PySem.Env) x, foldedSetIterable iter env x = pure x := by intro _ _; rfl) (hs1 : ∀ (env : PySem.Env) x, foldedSetIterable iter1 env x = pure x := by intro _ _; rfl) (hh : c.hot = false := by rfl) :
    SS U c k (.Assign [.Name y py] (.ListComp elt [⟨tg, iter, ifs, 0⟩, ⟨tg1, iter1, ifs1, 0⟩] scope pos) spos) (sSet i (eLc2 mi g (own.map (·.2)) tt mi1 g1 vs1 tt1 el)) := by
  intro X W C
  obtain ⟨ti, pi, fi⟩ := hi X W C
  refine ⟨_, ps_setLc2 (i := i) (own := own) (vs1 := vs1) (C.calm hh) (by rw [C.n]; exact C.nd) (by rw [C.n]; exact hy) (by rw [C.s]; exact hyl) (sw_true (by rw [C.s]; exact hk) (by rw [C.s]; exact hyl) hl ha) pi (by rw [C.n, C.s]; exact blkOk_by ok) hv (fun s H Ca cl fp => hg _ _ k (C.blk scope s H cl Ca fp)) (fun s H Ca cl fp => ht _ _ (C.blk scope s H cl Ca fp))
    (fun s H Ca cl fp => hi1.pi (C.blk scope s H cl Ca fp)) (fun s H Ca cl fp => hg1 _ _ k (C.blk scope s H cl Ca fp)) (fun s H Ca cl fp => ht1 _ _ (C.blk scope s H cl Ca fp)) (fun s H Ca cl fp => he.pe (C.blk scope s H cl Ca fp)) (hs _) hs1, ?_⟩
  intro ad O H σ sv Dn S r h
  have h' := PostS.of r h
  refine fi ad O H σ sv _ S r (postI_of h' fun ad1 H1 O1 it J s1 S1 y hw h1 => ?_)
  intro D hD
  refine lc_run2 (Qd := fun x H1 => gName i x sv H1 Dn.nx) (E := fun cl d H' => W cl d sv H') S1 (r.keep s1) y hw hD hsl hsl1 (Post.mono h1 ?_)
  rintro v H2 ⟨ad2, O2, d, s2, S2, r2, h2⟩
  exact h2 ad2 H2 _ .refl S2 ((r.keep s2).set i r2)
theorem wLc2 (own : List (Str × Nat)) (vs1 : List Nat) (hi : SI U c k tg iter mi) (hg : SG U (blkCs c scope) tg g) (ht : SIfs U (blkCs c scope) k ifs tt) (hi1 : SI U (blkCs c scope) k tg1 iter1 mi1) (hg1 : SG U (blkCs c scope) tg1 g1) (ht1 : SIfs U (blkCs c scope) k ifs1 tt1) (he : SE U (blkCs c scope) k elt el)
    (ok : (blkC c.N c.sc scope own && subB g.slots (own.map (·.2))) = true) (ok1 : (subB g1.slots vs1 && subB vs1 (own.map (·.2))) = true)
    (hs : ∀ (env : PySem.Env) x, foldedSetIterable iter env x = pure x := by intro _ _; rfl) (hs1 : ∀ (env : PySem.Env) x, foldedSetIterable iter1 env x = pure x := by intro _ _; rfl) (hh : c.hot = false := by rfl) :
    SE U c k (.ListComp elt [⟨tg, iter, ifs, 0⟩, ⟨tg1, iter1, ifs1, 0⟩] scope pos) (eLc2 mi g (own.map (·.2)) tt mi1 g1 vs1 tt1 el) :=
  sLc2 hi hg ht hi1 hg1 ht1 he (Bool.and_eq_true_iff.mp ok).1 (subB_of (Bool.and_eq_true_iff.mp ok).2) (subB_of (Bool.and_eq_true_iff.mp ok1).1) (subB_of (Bool.and_eq_true_iff.mp ok1).2) hs hs1 hh
theorem wSetLc2 {y : Str} {py spos : Pos} (i : Nat) (own : List (Str × Nat)) (vs1 : List Nat) (hi : SI U c k tg iter mi) (hg : SG U (blkCs c scope) tg g) (ht : SIfs U (blkCs c scope) k ifs tt) (hi1 : SI U (blkCs c scope) k tg1 iter1 mi1) (hg1 : SG U (blkCs c scope) tg1 g1) (ht1 : SIfs U (blkCs c scope) k ifs1 tt1) (he : SE U (blkCs c scope) k elt el)
    (ok : lcB c scope own g i y py.line pos.line = true) (ok1 : (subB g1.slots vs1 && subB vs1 (own.map (·.2))) = true)
    (hs : ∀ (env : PySem.Env) x, foldedSetIterable iter env x = pure x := by intro _ _; rfl) (hs1 : ∀ (env : PySem.Env) x, foldedSetIterable iter1 env x = pure x := by intro _ _; rfl) (hh : c.hot = false := by rfl) :
    SS U c k (.Assign [.Name y py] (.ListComp elt [⟨tg, iter, ifs, 0⟩, ⟨tg1, iter1, ifs1, 0⟩] scope pos) spos) (sSet i (eLc2 mi g (own.map (·.2)) tt mi1 g1 vs1 tt1 el)) := by
  obtain ⟨h1, h⟩ := Bool.and_eq_true_iff.mp ok
  obtain ⟨h2, h⟩ := Bool.and_eq_true_iff.mp h
  obtain ⟨h3, h⟩ := Bool.and_eq_true_iff.mp h
  obtain ⟨h4, h5⟩ := Bool.and_eq_true_iff.mp h
  refine sSetLc2 hi hg ht hi1 hg1 ht1 he (Bool.and_eq_true_iff.mp h1).1 (subB_of (Bool.and_eq_true_iff.mp h1).2) (subB_of (Bool.and_eq_true_iff.mp ok1).1) (subB_of (Bool.and_eq_true_iff.mp ok1).2) (lB_1 h2) (lB_2 h2) ?_ (beq_iff_eq.mpr (of_decide_eq_true h4)) (not_t h5) hs hs1 hh
  split at h3
  · assumption
  · cases h3
end
/-- a def that makes lambdas: its code object is the head's -/
theorem hz_of {K : PySem.W.Frag} {pq : Str × Option Str} {x qual : Str} {params : Arguments} {body : List Stmt} {scope : Scope} {fd : FuncData} {q : Str} (F : FunD K x qual params body scope [] [] (He.fAd K pq) fd) (hq : ∀ L f cv, (envOfC qual scope L f cv).qual = q) :
    ∀ z, some ((He.cT K pq).1, q) = some z → fd.code = .ref z.1 ∧ ∀ L, (envOfC qual scope L (He.fAd K pq) fd.code).qual = z.2 := by
  rintro z e
  cases e
  obtain ⟨oc, od, dV, kV, doc, pm, an, cdv, ct, osl, rfl, lk, hcd, _, _⟩ := F.ex
  obtain ⟨c, rfl⟩ := He.codeIn_ref hcd
  refine ⟨?_, fun L => hq _ _ _⟩
  show Value.ref c = .ref (He.codeOf K pq)
  rw [He.codeOf_eq lk rfl]
theorem sw_false {e : Expr} {x : Str} {p' : Pos} {l : Nat} {env : PySem.Env} (h : env.scope.names.lookup x = some .cell) : swapsWith e (some (.Name x p')) l env = pure false := by
  have h1 : env.kindOf x = some .cell := h
  have h2 : ((some NameKind.cell : Option NameKind) == some .local) = false := rfl
  unfold swapsWith
  cases e <;> first | rfl | (simp only [h1, h2, Bool.and_false, Bool.false_and])
def isCell (c : Cs) (x : Str) : Bool := match c.sc.names.lookup x with
  | some .cell => true
  | _ => false
section
variable {U : Univ} {c : Cs} {k : Nat} {pos p' : Pos} {x : Str}
theorem wSetC {e : Expr} {m : DE} (i : Nat) (he : SE U c k e m) (h : (aB c i x && isCell c x) = true) : SS U c k (.Assign [.Name x p'] e pos) (sSet i m) := by
  obtain ⟨h1, h2⟩ := Bool.and_eq_true_iff.mp h
  have hc : c.sc.names.lookup x = some .cell := by
    unfold isCell at h2
    split at h2
    · assumption
    · cases h2
  intro X W C
  obtain ⟨t, p, f⟩ := he X W C
  refine ⟨_, ps_set (i := i) (by rw [C.n]; exact C.nd) (by rw [C.n]; exact aB_1 h1) (by rw [C.s]; exact aB_2 h1) p (sw_false (by rw [C.s]; exact hc)) (fn_or C (aB_3 h1)), fun ad O H σ sv Dn S r h => f ad O H σ sv _ S r (Post.mono (PostS.of r h) ?_)⟩
  rintro v H1 ⟨ad1, O1, d, s1, S1, r1, h1⟩
  exact h1 ad1 H1 _ .refl S1 ((r.keep s1).set i r1)
end
end CP
namespace CP
open PySem PySem.Spec PyProof.Rows L2
section
variable {X : Cx}
def signVs (z : Str) : List V := z.cps.toList.map fun n => V.str ⟨#[n]⟩
theorem vals_signs {z : Str} {acc : Array Value} (h : ItemsOf (SignAt z) acc z.cps.size) : Vals (signVs z) acc.toList := by
  obtain ⟨h1, h2⟩ := h
  have key : ∀ (l : List Nat) (us : List Value), us.length = l.length → (∀ (j : Nat) (v : Value), us[j]? = some v → ∃ (c : Nat) (u : Tok), l[j]? = some c ∧ v = Value.str ⟨#[c]⟩ u) → Vals (l.map fun n => V.str ⟨#[n]⟩) us := by
    intro l
    induction l with
    | nil => intro us e _; rw [List.eq_nil_of_length_eq_zero e]; exact Paired.nil
    | cons c r ih =>
      intro us e hh
      cases us with
      | nil => cases e
      | cons u us =>
        obtain ⟨c', t, e1, e2⟩ := hh 0 u rfl
        have : c = c' := by simpa using e1
        subst this
        exact Paired.cons (show RelV (V.str ⟨#[c]⟩) u from ⟨t, e2⟩) (ih us (by simpa using e) fun j v hj => by
          obtain ⟨c2, t2, e3, e4⟩ := hh (j + 1) v (by simpa using hj)
          exact ⟨c2, t2, by simpa using e3, e4⟩)
  refine key z.cps.toList acc.toList (by simp [h1]) fun j v hj => ?_
  obtain ⟨c, u, e1, e2⟩ := h2 j v (by simpa using hj)
  exact ⟨c, u, by simpa using e1, e2⟩
theorem call_list_txt (hc : X.calm = true) : CallR X (.type "list") (fun xs H Q => ∃ z, xs = [V.str z] ∧ z.length ≤ sizeLine ∧ ∀ l, H l = none → Q (.ref l) (upd H l (.lst (signVs z)))) := by
  intro pins s σ H xs us Q I r h
  obtain ⟨z, rfl, hz, q⟩ := h
  obtain ⟨u, rfl, rx⟩ := vals1 r
  obtain ⟨t, rfl⟩ := rx
  refine call_list_str (I.ok.hd hc) z t (fun h' tk acc c' kp e hi => ?_) hz
  have hv := vals_signs hi
  exact ⟨.ref s.heap.objs.size, _, I.laid (t' := tk) kp (Nat.le_refl _) (show ObjOk X.prog X.w _ h' _ (.lst (signVs z)) from ⟨by rw [hv.length, Array.length_toList, hi.1]; exact hz, acc.toList, c', hv, e⟩), rfl, q _ (I.hok.fresh (Nat.le_refl _))⟩
end
/-- list(x), for a name that will change; x a text, too -/
def dListS : FR := fun ds O => match ds with
  | [.str z] => if z.length ≤ sizeLine then .ok (.ptr O.length) (O ++ [.lst (signsOf z)]) else .stuck
  | ds => dListM ds O
section
variable {U : Univ} {c : Cs} {k : Nat}
theorem reps_signs {ad : List Addr} {H : Hp} : ∀ l : List Nat, Reps U ad H (l.map fun n => D.str ⟨#[n]⟩) (l.map fun n => V.str ⟨#[n]⟩)
  | [] => rfl
  | c :: r => ⟨_, _, rfl, rfl, reps_signs r⟩
theorem opListS : OpR2 U k (.type "list") dListS := by
  intro X W c hh C
  obtain ⟨_, eu⟩ := C.u
  subst eu
  obtain ⟨r1, h1, h2⟩ := opListM (k := k) X W c hh C
  refine ⟨_, CallR.or (call_list_txt (C.calm hh)) h1, ?_⟩
  intro ds xs ad O O' H d Q S r e q
  unfold dListS at e
  split at e
  · rename_i z
    split at e
    · rename_i hz
      cases e
      obtain ⟨v, rfl, rx⟩ := reps1 r
      cases rx
      exact .inl ⟨z, rfl, hz, fun p hp => q _ _ _ (.alloc hp) (cell_alloc S hp (reps_signs _)) (rep_ptr S)⟩
    · cases e
  · exact .inr (h2 _ xs ad O O' H d Q S r e q)
end
end CP
namespace CP
open PySem PySem.Spec PyProof.Rows L2
section
variable {X : Cx} {es : List Expr} {t : TA} {pos : Pos}
def tTupX (t : TA) : TE := fun σ H Q => t σ H fun xs H1 => xs.length ≤ sizeLine ∧ ∀ p o, H1 p = none → o.dict = none → Q (.ref p) (upd H1 p (.frz o (.tup xs)))
theorem pe_tupX {x1} (h : PA X es t) : PE X (.Tuple es x1 pos) (tTupX t) := by
  refine ⟨fun pins s σ H Q I hq => ?_⟩
  refine wpAny_Tuple_spliced (thn (h.run pos pins s σ H _ I hq) fun us s1 ⟨xs, H1, I1, r, z, q⟩ => ⟨by rw [← r.length]; exact z, ?_⟩)
  have hf : H1 s1.heap.objs.size = none := I1.hok.fresh (Nat.le_refl _)
  refine ⟨.ref s1.heap.objs.size, upd H1 s1.heap.objs.size (.frz { cls := .type "tuple", data := .seq us.toArray } (.tup xs)), I1.laid (t' := s1.toks) (fun b u e => Heap.get?_push_of_some _ e) (Nat.le_refl _) ?_, rfl, q _ _ hf rfl⟩
  exact ⟨Heap.get?_push_size _ rfl, z, us, r, IsTup.new _ _⟩
end
noncomputable def mkTX (ds : List D) (O : Store) : R D := if ds.length ≤ sizeLine then .ok (.rot ds) O else .stuck
noncomputable def eTupX (ms : DA) : DE := fun σ O => (ms σ O).bind mkTX
section
variable {U : Univ} {c : Cs} {k : Nat} {pos : Pos} {es : List Expr} {ms : DA}
theorem sTupX {x1} (h : SA U c k es ms) : SE U c k (.Tuple es x1 pos) (eTupX ms) := by
  intro X W C
  obtain ⟨t, p, f⟩ := h X W C
  refine ⟨_, pe_tupX p, fun ad O H σ sv Q S r h => f ad O H σ sv _ S r (PostL.mono (PostL.bind h) ?_)⟩
  rintro vs H1 ⟨ad1, O1, ds, s1, S1, r1, h1⟩
  unfold mkTX at h1
  split at h1
  · rename_i hz
    exact ⟨by rw [← r1.length]; exact hz, fun p o hp hd => h1 ad1 _ _ (.new hp (S1.out hp)) (S1.new hp) (rep_rot S1 hp r1 hd)⟩
  · exact h1.elim
end
end CP
namespace CP
open PySem PySem.Spec PyProof.Rows L2
theorem tuple_mul1 (l : Addr) (items : Array Value) (n : Nat) (dd : Option Addr) (sl : Array (Option Value)) (u : Tok) :
    Meets (Builtin.«tuple.__mul__» ⟨[.ref l, .int 1 u], []⟩) (fun _ R s => s.heap.get? l = some { cls := .type "tuple", dict := dd, data := .seq items n, slots := sl } ∧ R (.ok (.ret (Value.ref l))) s) :=
  .of_wp fun prog w A R s h => by
    obtain ⟨hp, g, d, tk, os⟩ := s
    obtain ⟨hl, h⟩ := h
    have f1 := AutoSeq1.idx_int
    wp_walk using wpAny_loadPart' hl
    exact ⟨_, rfl, h⟩
section
variable {X : Cx}
theorem op_repT1 : OpR X (binaryOp .Mult) (fun x y H Q => ∃ l xs, x = .ref l ∧ y = .int 1 ∧ SqT X.K H l xs ∧ Q (.ref l) H) := by
  intro pins s σ H x y v u Q I rx ry h
  obtain ⟨l, xs, rfl, rfl, hT, q⟩ := h
  cases rx
  obtain ⟨t, rfl⟩ := ry
  obtain ⟨its, r, ⟨⟨cls, dd, data, sl⟩, ho, hc, n, hd⟩, hs⟩ := I.tuple hT
  simp only at hc hd
  subst hc hd
  refine wpAny_binaryOp_repeat_ref (T := "tuple") (U := "int") (by decide) ⟨_, ho, rfl⟩ (fun s' => typeIs_int s' 1 t) noFill_tuple_mul F.fills_int_mul F.slot_int_rmul repeat_tuple F.slot_int_index.lookup
    (call_meets F.slot_int_rmul (typeIs_int s 1 t) F.entry_int_rmul (F.args_int_rmul_2 _ _) (int_rmul_tuple 1 t l its.toArray n dd sl)
      ⟨ho, rfl, ⟨_, ho, rfl⟩, call_meets F.slot_tuple_mul ⟨_, ho, rfl⟩ F.entry_tuple_mul (F.args_tuple_mul_2 _ _) (tuple_mul1 l its.toArray n dd sl t) ⟨ho, ?_⟩⟩)
  exact ⟨.ref l, H, I, rfl, q⟩
end
/-- a tuple so many times -/
def dMulT : F2 := fun x y O => match x, y with
  | .tup l, .int k => if k = 1 then some (.tup l) else if l ≠ [] ∧ 2 ≤ k ∧ k ≤ 1000 ∧ l.length ≤ 1000 then some (.tup (List.replicate k.toNat l).flatten) else none
  | .rot l, .int k => if k = 1 then some (.rot l) else if l ≠ [] ∧ 2 ≤ k ∧ k ≤ 1000 ∧ l.length ≤ 1000 then some (.tup (List.replicate k.toNat l).flatten) else none
  | _, _ => none
section
variable {U : Univ}
theorem opMulT : Op2 U (binaryOp .Mult) dMulT := by
  intro X W c k Cc
  obtain ⟨_, eu⟩ := Cc.u
  subst eu
  refine ⟨_, op_repT1.or op_repT, ?_⟩
  intro dx dy x y ad O H d Q S r1 r2 e q
  unfold dMulT at e
  split at e
  · rename_i l j
    split at e
    · rename_i hj
      cases e
      subst hj
      obtain ⟨a, xs, rfl, hq, hr⟩ := seqT_at (d := .tup l) S r1 rfl
      exact .inl ⟨a, xs, rfl, r2, hq, q _ _ .refl S r1⟩
    · split at e
      · rename_i hz
        cases e
        obtain ⟨a, xs, rfl, hq, hr⟩ := seqT_at (d := .tup l) S r1 rfl
        have hl := hr.length
        refine .inr ⟨a, j, xs, rfl, r2, hq, fun e => hz.1 (List.length_eq_zero_iff.mp (by rw [hl, e]; rfl)), hz.2.1, hz.2.2.1, by rw [← hl]; exact hz.2.2.2, fun p hp => q _ _ (.new hp (S.out hp)) (S.new hp) (rep_tup S hp (hr.rep _))⟩
      · cases e
  · rename_i l j
    split at e
    · rename_i hj
      cases e
      subst hj
      obtain ⟨a, xs, rfl, hq, hr⟩ := seqT_at (d := .rot l) S r1 rfl
      exact .inl ⟨a, xs, rfl, r2, hq, q _ _ .refl S r1⟩
    · split at e
      · rename_i hz
        cases e
        obtain ⟨a, xs, rfl, hq, hr⟩ := seqT_at (d := .rot l) S r1 rfl
        have hl := hr.length
        refine .inr ⟨a, j, xs, rfl, r2, hq, fun e => hz.1 (List.length_eq_zero_iff.mp (by rw [hl, e]; rfl)), hz.2.1, hz.2.2.1, by rw [← hl]; exact hz.2.2.2, fun p hp => q _ _ (.new hp (S.out hp)) (S.new hp) (rep_tup S hp (hr.rep _))⟩
      · cases e
  · cases e
end
end CP
namespace CP
open PySem PySem.Spec PyProof.Rows L2 HT
theorem adjust_rev (n : Nat) : Builtin.Slice.sliceAdjust none none (-1) (n : Int) = ((n : Int) - 1, -1) := rfl
theorem places_rev (n : Nat) : Builtin.Slice.slicePlaces ((n : Int) - 1) (-1) (-1) = n := by
  unfold Builtin.Slice.slicePlaces
  rw [if_neg (by decide)]
  have e1 : (-(-1) : Int) = 1 := by decide
  rw [e1, Int.ediv_one]
  split <;> omega
theorem pick_rev (xs : Array Value) : ((List.range xs.size).filterMap fun (m : Nat) => xs[((xs.size : Int) - 1 + (m : Int) * (-1)).toNat]?).toArray = xs.toList.reverse.toArray := by
  congr 1
  have e : (List.range xs.size).filterMap (fun (m : Nat) => xs[((xs.size : Int) - 1 + (m : Int) * (-1)).toNat]?) = ((List.range xs.size).map fun k => xs.size - 1 - k).filterMap (xs[·]?) := by
    rw [List.filterMap_map]
    have all : ∀ l : List Nat, (∀ m ∈ l, m < xs.size) → l.filterMap (fun (m : Nat) => xs[((xs.size : Int) - 1 + (m : Int) * (-1)).toNat]?) = l.filterMap ((fun x => xs[x]?) ∘ fun k => xs.size - 1 - k) := fun l => by
      induction l with
      | nil => intro _; rfl
      | cons a r ih =>
        intro h
        have ha := h a List.mem_cons_self
        have e1 : ((xs.size : Int) - 1 + (a : Int) * (-1)).toNat = xs.size - 1 - a := by omega
        rw [List.filterMap_cons, List.filterMap_cons, ih fun m hm => h m (List.mem_cons_of_mem _ hm), e1]; rfl
    exact all _ fun m hm => List.mem_range.mp hm
  rw [e, PySem.W.krv_range, List.filterMap_reverse, PySem.W.krv_all]
section
variable {prog : Program} {w : World} {A : Around} {E : Value → Shared → Prop} {s : Shared}
theorem sliceApplied_rev {sl : Addr} {vl vu vs : Value} {n : Nat} {Q : Int × Int × Nat → Shared → Prop} (hs : s.heap.IsSliceOf sl vl vu vs) (pl : IsPart vl none) (pu : IsPart vu none) (ps : IsPart vs (some (-1)))
    (h : Q ((n : Int) - 1, -1, n) s) : wpAny (model prog w) A (Builtin.Slice.sliceApplied (.ref sl) (pure (n : Int))) Q E s := by
  obtain ⟨os, hos, hcs, hds⟩ := id hs
  unfold Builtin.Slice.sliceApplied Builtin.Slice.sliceFields
  refine wpAny_bind (wpAny_bind (wpAny_field hos hds (x := vl) rfl (wpAny_bind (wpAny_field hos hds (x := vu) rfl (wpAny_bind (wpAny_field hos hds (x := vs) rfl (wpAny_pure ?_)))))))
  refine wpAny_bind (slicePart_ ps ?_)
  show wpAny _ _ (if ((-1 : Int) == 0) = true then _ else _) _ _ s
  rw [if_neg (by decide)]
  refine wpAny_bind (slicePart_ pl (wpAny_bind (slicePart_ pu (wpAny_bind (wpAny_pure ?_)))))
  show wpAny _ _ (match Builtin.Slice.sliceAdjust none none (-1) (n : Int) with | (lo, hi) => pure (lo, (-1 : Int), Builtin.Slice.slicePlaces lo hi (-1))) _ _ s
  rw [adjust_rev n]
  show wpAny _ _ (pure ((n : Int) - 1, (-1 : Int), Builtin.Slice.slicePlaces ((n : Int) - 1) (-1) (-1))) _ _ s
  rw [places_rev]
  exact wpAny_pure h
theorem getItem_tuple_rev {t sl : Addr} {items : Array Value} {vl vu vs : Value} {Q : Value → Shared → Prop} (ht : IsTup s.heap t items) (hs : s.heap.IsSliceOf sl vl vu vs) (pl : IsPart vl none) (pu : IsPart vu none) (ps : IsPart vs (some (-1)))
    (h : Q (.ref s.heap.objs.size) { s with heap := s.heap.push { cls := .type "tuple", data := .seq items.toList.reverse.toArray } })
    (hsz : items.size ≤ sizeLine) : wpAny (model prog w) A (getItem (.ref t) (.ref sl)) Q E s := by
  have htake : sizeOk (.seq items.toList.reverse.toArray) := by
    show items.toList.reverse.toArray.size ≤ sizeLine
    rw [List.size_toArray, List.length_reverse, Array.length_toList]
    exact hsz
  obtain ⟨os, hos, hcs, hds⟩ := id hs
  have hTs : s.TypeIs (.ref sl) "slice" := ⟨os, hos, hcs⟩
  unfold getItem
  try with_reducible refine wpAny_holding ?_
  first | refine wpAny_bind (wpAny_pure ?_) | skip
  refine wpAny_bind (wpAny_sequenceKey ht.typeIs (by decide) ?_)
  refine wpAny_bind (wpAny_callSpecial?_slot (name := Str.ofString "__getitem__") ht.typeIs PyProof.Rows.slot_tuple_getitem
    (wpAny_call_entry PyProof.Rows.slot_tuple_getitem ht.typeIs entry_tuple_getitem ?_ (args_tuple_getitem _ _)))
  show wpAny _ _ (Builtin.Tuple.tupleItemsOf (.ref t) >>= _) _ _ s
  refine wpAny_bind (tupleItemsOf_ ht ?_)
  refine wpAny_bind (wpAny_typeOf hTs ?_)
  rw [if_pos (by decide)]
  refine wpAny_bind (sliceApplied_rev hs pl pu ps ?_)
  have hno : ¬ ((((items.size : Int) - 1) == 0 && (-1 : Int) == 1 && items.size == items.size) = true) := by
    intro q
    rw [Bool.and_eq_true, Bool.and_eq_true] at q
    exact absurd q.1.2 (by decide)
  show wpAny _ _ (if (((items.size : Int) - 1) == 0 && (-1 : Int) == 1 && items.size == items.size) = true then _ else _) _ _ s
  rw [if_neg hno, pick_rev]
  first
    | exact wpAny_bind (m := Builtin.Tuple.tupleExact _) (wpAny_newObj_type (wpAny_pure ⟨_, rfl, wpAny_pure h⟩) htake)
    | exact wpAny_bind (m := Builtin.Tuple.tupleExact _) (wpAny_newObj_type (wpAny_bind (wpAny_pure (wpAny_pure ⟨_, rfl, wpAny_pure h⟩))) htake)
    | exact wpAny_bind (wpAny_bind (m := Builtin.Tuple.tupleExact _) (wpAny_newObj_type (wpAny_pure (wpAny_pure ⟨_, rfl, wpAny_pure h⟩)) htake))
    | exact wpAny_bind (wpAny_bind (m := Builtin.Tuple.tupleExact _) (wpAny_newObj_type (wpAny_pure ⟨_, rfl, wpAny_pure h⟩) htake))
end
def tRevA (K : PySem.W.Frag) (te : TE) : TE := fun σ H Q => te σ H fun x H1 => ∃ a xs, x = .ref a ∧ ((SqL K H1 a xs ∧ ∀ p, H1 p = none → Q (.ref p) (upd H1 p (.lst xs.reverse))) ∨ (SqT K H1 a xs ∧ ∀ p, H1 p = none → Q (.ref p) (upd H1 p (.tup xs.reverse))))
theorem pe_revA {X : Cx} {e : Expr} {te : TE} {k : Nat} {p1 p2 p3 pos : Pos} (he : PE X e te) : PE X (.Subscript e (.Slice none none (some (.UnaryOp .USub (.Constant (.int 1) k p1) p2)) p3) pos) (tRevA X.K te) := by
  refine ⟨fun pins s σ H Q I h => ?_⟩
  refine Subscript_ (thn (he.run pins s σ H _ I h) fun v s1 ⟨x, H1, I1, r1, q1⟩ => ?_)
  obtain ⟨a, xs, ex, q1⟩ := q1
  subst ex
  cases r1
  have hst : PO X (some (.UnaryOp .USub (.Constant (.int 1) k p1) p2)) (tPart (tUn (rU fun i => .int (-i)) (tC (.int 1)))) := po_some (pe_un un_neg pe_int)
  refine wpAny_Slice (thn (po_none.run pins s1 σ H1 (fun o H2 => o = none ∧ H2 = H1) I1 ⟨rfl, rfl⟩) fun vl s2 ⟨l, H2, I2, pl, el, e2⟩ => ?_)
  subst el e2
  refine thn (po_none.run pins s2 σ H2 (fun o H3 => o = none ∧ H3 = H2) I2 ⟨rfl, rfl⟩) fun vu s3 ⟨u, H3, I3, pu, eu, e3⟩ => ?_
  subst eu e3
  refine thn (hst.run pins s3 σ H3 (fun o H4 => o = some (-1) ∧ H4 = H3) I3 ⟨1, rfl, -1, rfl, rfl, rfl⟩) fun vs s4 ⟨o, H4, I4, ps, eo, e4⟩ => ?_
  subst eo e4
  have I5 : Inv X pins σ H4 { s4 with heap := s4.heap.push { cls := .type "slice", data := .fields #[vl, vu, vs] } } := I4.kept (t' := s4.toks) fun b ob q => Heap.get?_push_of_some _ q
  show wpAny (model X.prog X.w) X.A (subscriptTail e (.Slice none none (some (.UnaryOp .USub (.Constant (.int 1) k p1) p2)) p3) (.ref a) (.ref s4.heap.objs.size)) (EP X pins σ Q) X.xe { s4 with heap := s4.heap.push { cls := .type "slice", data := .fields #[vl, vu, vs] } }
  rcases q1 with ⟨hx, q⟩ | ⟨hx, q⟩
  · obtain ⟨its, r, ht, hz⟩ := I5.list hx
    have hlen := r.length
    refine tail_any (ops := [.ref a, .ref s4.heap.objs.size]) ht.isList.typeIs (PySem.slot_list_getitem.lookup) ?_ (by with_unfolding_all rfl)
    refine wpAny_getItem_list_slice ht.isList (Heap.IsSliceOf.new _ vl vu vs) pl pu ps (by decide) ?_ (by rw [List.size_toArray]; omega)
    rw [PySem.W.krv_pick]
    refine ⟨.ref _, _, I5.laid (t' := s4.toks) (o := .lst xs.reverse) (fun b ob q => Heap.get?_push_of_some _ q) (Nat.le_refl _) ?_, rfl, q _ (I5.hok.fresh (Nat.le_refl _))⟩
    exact ⟨by rw [List.length_reverse]; exact hz, _, 0, r.reverse, Heap.get?_push_size _ rfl⟩
  · obtain ⟨its, r, ht, hz⟩ := I5.tuple hx
    have hlen := r.length
    refine tail_any (ops := [.ref a, .ref s4.heap.objs.size]) ht.typeIs (PyProof.Rows.slot_tuple_getitem.lookup) ?_ (by with_unfolding_all rfl)
    refine getItem_tuple_rev ht (Heap.IsSliceOf.new _ vl vu vs) pl pu ps ?_ (by rw [List.size_toArray]; omega)
    refine ⟨.ref _, _, I5.laid (t' := s4.toks) (o := .tup xs.reverse) (fun b ob q => Heap.get?_push_of_some _ q) (Nat.le_refl _) ?_, rfl, q _ (I5.hok.fresh (Nat.le_refl _))⟩
    exact ⟨by rw [List.length_reverse]; exact hz, _, r.reverse, IsTup.new _ _⟩
/-- x[::-1] -/
def dRev (x : D) (O : Store) : Option D := match der x O with
  | .lst l => some (.lst l.reverse)
  | .rol l => some (.lst l.reverse)
  | .tup l => some (.tup l.reverse)
  | .rot l => some (.tup l.reverse)
  | _ => none
def eRev (m : DE) : DE := fun σ O => (m σ O).bind fun d O1 => lift (dRev d O1) O1
section
variable {U : Univ} {ad : List Addr} {H : Hp}
theorem Reps.reverse : ∀ {ds : List D} {vs : List V}, Reps U ad H ds vs → Reps U ad H ds.reverse vs.reverse
  | [], _, h => by cases h; exact Reps.nil
  | d :: ds, _, h => by
    obtain ⟨v, r, rfl, q, t⟩ := h
    rw [List.reverse_cons, List.reverse_cons]
    exact (Reps.reverse t).append (.cons q .nil)
variable {c : Cs} {k : Nat} {pos p1 p2 p3 : Pos} {e : Expr} {m : DE}
theorem sRev {j : Nat} (he : SE U c k e m) : SE U c k (.Subscript e (.Slice none none (some (.UnaryOp .USub (.Constant (.int 1) j p1) p2)) p3) pos) (eRev m) := by
  intro X W C
  obtain ⟨t, p, f⟩ := he X W C
  obtain ⟨_, eu⟩ := C.u
  subst eu
  refine ⟨_, pe_revA p, fun ad O H σ sv Q S r h => f ad O H σ sv _ S r (Post.mono (Post.bind h) ?_)⟩
  rintro v H1 ⟨ad1, O1, d, s1, S1, r1, h1⟩
  cases e0 : dRev d O1 with
  | none => rw [e0] at h1; exact h1.elim
  | some z =>
    rw [e0] at h1
    unfold dRev at e0
    split at e0
    · rename_i l e1
      cases e0
      obtain ⟨p, xs, rfl, hp, t⟩ := der_lst S1 r1 e1
      exact ⟨p, xs, rfl, .inl ⟨.of hp, fun q hq => h1 ad1 _ _ (.new hq (S1.out hq)) (S1.new hq) (rep_lst S1 hq t.reverse)⟩⟩
    · rename_i l e1
      cases e0
      obtain ⟨p, xs, rfl, hp, t⟩ := der_rol S1 r1 e1
      exact ⟨p, xs, rfl, .inl ⟨hp, fun q hq => h1 ad1 _ _ (.new hq (S1.out hq)) (S1.new hq) (rep_lst S1 hq t.reverse)⟩⟩
    · rename_i l e1
      cases e0
      obtain ⟨p, xs, rfl, hp, np, t⟩ := der_tup S1 r1 e1
      exact ⟨p, xs, rfl, .inr ⟨.of hp, fun q hq => h1 ad1 _ _ (.new hq (S1.out hq)) (S1.new hq) (rep_tup S1 hq t.reverse)⟩⟩
    · rename_i l e1
      cases e0
      obtain ⟨p, xs, rfl, hp, t⟩ := der_rot S1 r1 e1
      exact ⟨p, xs, rfl, .inr ⟨hp.sq, fun q hq => h1 ad1 _ _ (.new hq (S1.out hq)) (S1.new hq) (rep_tup S1 hq t.reverse)⟩⟩
    · cases e0
end
end CP
namespace CP
open PySem PySem.Spec PyProof.Rows L2
def mx2 (i j : Int) : Int := if i < j then j else i
def mn2 (i j : Int) : Int := if j < i then j else i
def dMax3 : FN := fun ds _ => match ds with
  | [.int i, .int j, .int l] => some (.int (mx2 (mx2 i j) l))
  | _ => none
def dMin3 : FN := fun ds _ => match ds with
  | [.int i, .int j, .int l] => some (.int (mn2 (mn2 i j) l))
  | _ => none
theorem reps3 {U : Univ} {ad : List Addr} {H : Hp} {d e f : D} {xs : List V} (h : Reps U ad H [d, e, f] xs) : ∃ v u w, xs = [v, u, w] ∧ Rep U ad H d v ∧ Rep U ad H e u ∧ Rep U ad H f w := by
  obtain ⟨v, r, rfl, q, t⟩ := h
  obtain ⟨u, w, rfl, q2, q3⟩ := reps2 t
  exact ⟨v, u, w, rfl, q, q2, q3⟩
theorem nu_max (i j : Int) : nuMax2 (.int i) (.int j) = some (.int (mx2 i j)) := by
  show (nuLt (.int i) (.int j)).map _ = _
  have e : nuLt (.int i) (.int j) = some (decide (i < j)) := rfl
  rw [e]
  unfold mx2
  by_cases h : i < j <;> simp [h]
theorem nu_min (i j : Int) : nuMin2 (.int i) (.int j) = some (.int (mn2 i j)) := by
  show (nuLt (.int j) (.int i)).map _ = _
  have e : nuLt (.int j) (.int i) = some (decide (j < i)) := rfl
  rw [e]
  unfold mn2
  by_cases h : j < i <;> simp [h]
section
variable {U : Univ}
theorem opMax3 : OpN U (.builtin "max") dMax3 := by
  intro X W c k hh C
  refine ⟨_, call_max3Nu (C.calm hh), ?_⟩
  intro ds xs ad O H d Q S r e q
  unfold dMax3 at e
  split at e
  · cases e
    obtain ⟨v, u, w, rfl, rx, ry, rz⟩ := reps3 r
    cases rx; cases ry; cases rz
    refine ⟨_, _, _, _, rfl, ?_, q _ _ .refl S rfl⟩
    show (nuMax2 _ _).bind _ = _
    rw [nu_max, Option.bind_some, nu_max]
  · cases e
theorem opMin3 : OpN U (.builtin "min") dMin3 := by
  intro X W c k hh C
  refine ⟨_, call_min3Nu (C.calm hh), ?_⟩
  intro ds xs ad O H d Q S r e q
  unfold dMin3 at e
  split at e
  · cases e
    obtain ⟨v, u, w, rfl, rx, ry, rz⟩ := reps3 r
    cases rx; cases ry; cases rz
    refine ⟨_, _, _, _, rfl, ?_, q _ _ .refl S rfl⟩
    show (nuMin2 _ _).bind _ = _
    rw [nu_min, Option.bind_some, nu_min]
  · cases e
end
end CP
namespace PySem
namespace HandSPX
open Builtin Builtin.ObjectAttr
section
variable {prog : Program} {w : World} {A : Around} {E : Value → Shared → Prop} {R : Result → Shared → Prop} {hp : Heap} {g : Array GenState} {d : Drawn} {t : Nat} {os : OsState}
/-- self.name = v on an own exception without a dict, whatever its built-in base -/
theorem osaT {B : String} {bmB bm : List Value} {K : W.Frag} {name : Str} {tk : Tok} {v : Value} {x C : Addr} {fv : Array Value} {cd : ClassData} (SF : StoreFacts B bmB "object.__setattr__" "object")
    (X : K.In hp) (hx : hp.get? x = some { cls := .ref C, data := .fields fv }) (hcd : W.clsIn K C = some cd) (hm : cd.mro = .ref C :: bm) (ht : W.excTail bmB bm = true) (hh : cd.hasDict = true) (ha : W.findIn K (.ref C) name = some none)
    (hq : ∀ h' tk' dx, (∀ b o, b ≠ x → hp.get? b = some o → h'.get? b = some o) → hp.objs.size ≤ dx → dx ≠ x → h'.get? x = some { cls := .ref C, dict := some dx, data := .fields fv } →
      h'.Ns1 dx (fun y => if y = name then some v else none) → R (.ok (.ret .none)) ⟨h', g, d, tk', os⟩) :
    codeAny (model prog w) A (.call (.builtin "object.__setattr__") ⟨[.ref x, .str name tk, v], []⟩) R ⟨hp, g, d, t, os⟩ := by
  have I : W.InstAt hp x { cls := .ref C, data := .fields fv } C none := ⟨hx, rfl, rfl, trivial⟩
  have ne : cd.mro.isEmpty = false := by rw [hm]; rfl
  have hob : cd.mro.contains (.type "object") = true := by rw [hm, List.contains_cons, W.excTail_contains "object" _ ht, SF.hasOwner, Bool.or_true]
  have hxs : x ≠ hp.objs.size := Nat.ne_of_lt (Heap.lt_size hx)
  have sub : W.Looks (model prog w) hp (isInstance (.ref x) (.type "object")) true := I.type.andThen (W.looks_mroIn X (by unfold W.mroIn; rw [hcd, Option.bind_some, if_neg (by rw [ne]; decide), hob]))
  refine codeAny_call_builtin SF.slot.plain SF.entry (@W.check_slot (model prog w) _ _ ⟨hp, g, d, t, os⟩ "object.__setattr__" "object" "__setattr__" (.ref x) [.str name tk, v] [] _ SF.kind SF.split sub (SF.args (.ref x) (.str name tk) v) ?_)
  have hmr : W.Looks (model prog w) hp (mroOf (.ref C)) cd.mro := (W.looks_clsIn X hcd).andThen .now
  have L3 : W.Looks (model prog w) hp (storeTaker? none) none := .now
  have hcls : W.Looks (model prog w) hp (classData C) cd := W.looks_clsIn X hcd
  rw [W.osa_eq, refuse_eq]
  refine wpAny_bind (wpAny_bind (I.type.at (wpAny_bind (hmr.at ?_))))
  rw [hm, refuseLoop_ref, W.excTail_pass _ (SF.passes _) _ ht]
  refine wpAny_pure (wpAny_bind (I.type.at (wpAny_bind ((W.looks_findIn X ha).at (wpAny_bind (L3.at ?_))))))
  show wpAny _ _ (storeInOwnDict (.ref x) (.ref C) (.str name tk) name v false) _ _ _
  obtain ⟨nm, bs, mro, ns, qn, hd, sn, sb, ab, col, del⟩ := cd
  dsimp only at hh
  subst hh
  unfold storeInOwnDict ownDictForStores
  repeat (first | with_reducible refine store_in_new ?_ ?_ | with_reducible refine wpAny_loadPart_at hx ?_ | with_reducible refine hcls.at ?_ | wp_step)
  · exact ⟨_, #[], _, (Heap.get?_update_ne _ _ _ _ hxs.symm).trans (Heap.get?_push_at rfl rfl), rfl, fun e he => absurd he (by simp), fun _ => rfl⟩
  · intro h' tk' hn' hs
    have hx₁ : (hp.push { cls := .type "dict", data := .dict #[] }).get? x = some { cls := .ref C, data := .fields fv } := Heap.get?_push_of_some _ hx
    refine hq h' tk' hp.objs.size (fun b o hb ho => ?_) (Nat.le_refl _) hxs.symm ?_ hn'
    · exact (hs.2 b (Nat.ne_of_lt (Heap.lt_size ho))).trans ((Heap.get?_update_ne _ _ _ _ hb).trans (Heap.get?_push_of_some _ ho))
    · exact (hs.2 x hxs).trans (Heap.get?_update_self _ hx₁ rfl)
end
end HandSPX
end PySem
namespace CP
open PySem PySem.Spec PyProof.Rows L2

theorem EB.base : ∀ b : EB, ExcBaseFacts b.nm b.new b.init b.bm
  | .ve => F.excBase_ValueError
  | .le => F.excBase_LookupError
  | .ae => F.excBase_ArithmeticError
theorem EB.store : ∀ b : EB, StoreFacts b.nm b.bm "object.__setattr__" "object"
  | .ve => F.store_ValueError
  | .le => F.store_LookupError
  | .ae => F.store_ArithmeticError

structure ExcT (K : PySem.W.Frag) (b : EB) (C fI : Addr) (fld : Str) : Prop where
  ini : PySem.W.excInitIn K C b.bm b.new = true
  hd : PySem.W.hasDictIn K C = true
  sa : PySem.W.findIn K (.ref C) "__setattr__" = some (some (.builtin "object.__setattr__"))
  ga : PySem.W.findIn K (.ref C) "__getattribute__" = some (some (.builtin "BaseException.__getattribute__"))
  gg : PySem.W.findIn K (.ref C) "__getattr__" = some none
  nf : PySem.W.findIn K (.ref C) fld = some none
  iC : PySem.W.findIn K (.ref C) "__init__" = some (some (.ref fI))
  tI : PySem.W.typeIn K (.ref fI) = some (.type "function")
  kC : PySem.W.keepIn K (.ref C) = true
  eC : PySem.W.subIn K (.ref C) (.type "BaseException") = some true
  tC : PySem.W.typeIn K (.ref C) = some (.type "type")
theorem excT_of {K : PySem.W.Frag} {b : EB} {c fld : Str} (h : excB K b c fld = true) : ExcT K b (He.ga K c) (He.ma K (He.ga K c) "__init__") fld := by
  unfold excB at h
  obtain ⟨h1, h⟩ := Bool.and_eq_true_iff.mp h
  obtain ⟨h2, h⟩ := Bool.and_eq_true_iff.mp h
  obtain ⟨h3, h⟩ := Bool.and_eq_true_iff.mp h
  obtain ⟨h4, h⟩ := Bool.and_eq_true_iff.mp h
  obtain ⟨h5, h⟩ := Bool.and_eq_true_iff.mp h
  obtain ⟨h6, h⟩ := Bool.and_eq_true_iff.mp h
  obtain ⟨h7, h⟩ := Bool.and_eq_true_iff.mp h
  obtain ⟨h8, h⟩ := Bool.and_eq_true_iff.mp h
  obtain ⟨h9, h⟩ := Bool.and_eq_true_iff.mp h
  obtain ⟨h10, h11⟩ := Bool.and_eq_true_iff.mp h
  exact ⟨h1, h2, He.eqO_ok h3, He.eqO_ok h4, He.eqO_ok h5, He.eqO_ok h6, He.eqO_ok h7, of_decide_eq_true h8, h9, of_decide_eq_true h10, of_decide_eq_true h11⟩
/-- def __init__(self, p): self.fld = p -/
structure ExcIni (K : PySem.W.Frag) (fI : Addr) (fld : Str) : Prop where
  ex : ∃ (st : Stmt) (qual par : Str) (fd : FuncData) (q1 q2 q3 q4 : Pos), FunD K "__init__" qual (defArgs st) (defBody st) (defScope st) [] [] fI fd ∧ FnScope ["self", par] ["self", par] (defScope st) ∧ Binds K fd ["self", par] [] ∧
    defBody st = [.Assign [.Attribute (.Name "self" q1) fld q2] (.Name par q3) q4] ∧ (defScope st).names.lookup ("self" : Str) = some .local ∧ (defScope st).names.lookup par = some .local ∧ (par == ("__debug__" : Str)) = false ∧ (par == ("self" : Str)) = false
section
variable {prog : Program} {w : World} {A : Around} {E : Value → Shared → Prop} {R : Result → Shared → Prop} {s : Shared} {K : PySem.W.Frag} {b : EB} {C fI : Addr} {fld : Str}
/-- what __init__ leaves of a fresh exception at x -/
structure InitEnd (h h' : Heap) (x C dx t1 : Addr) (fld : Str) (v : Value) : Prop where
  keep : ∀ b o, b ≠ x → h.get? b = some o → h'.get? b = some o
  obj : h'.get? x = some { cls := .ref C, dict := some dx, data := .fields #[.ref t1, .none, .none, .none, .bool false, .none] }
  dbig : h.objs.size ≤ dx
  dne : dx ≠ x
  ns : h'.Ns1 dx (fun y => if y = fld then some v else none)
/-- a made error -/
structure OwnMade (h h' : Heap) (e C d : Addr) (fld : Str) (v : Value) : Prop where
  keep : ∀ b o, h.get? b = some o → h'.get? b = some o
  new : h.objs.size ≤ e
  obj : ∃ oe vs, h'.get? e = some oe ∧ oe.cls = .ref C ∧ oe.dict = some d ∧ oe.data = .fields vs ∧ vs[1]? = some .none
  dbig : h.objs.size ≤ d
  dne : d ≠ e
  ns : h'.Ns1 d (fun y => if y = fld then some v else none)
theorem ldL {M : Model} {name : Str} {scope : Scope} {L a : Addr} {cd : Value} {m : Str → Option Value} {x : Str} {pos : Pos} {v : Value} {Q : Value → Shared → Prop} (hn : s.heap.Ns L m) (hv : m x = some v) (h : Q v s)
    (hk : scope.kind = .function) (hl : scope.names.lookup x = some .local) (hd : (x == ("__debug__" : Str)) = false) :
    wpAny M A (eval (.Name x pos) (envOfC name scope L a cd)) Q E s := wpAny_Name (wpAny_loadName_local hk hl hn hv h) hd
theorem exc_init (T : ExcT K b C fI fld) (N : ExcIni K fI fld) {x t0 : Addr} {v : Value} (X : K.In s.heap) (hlim : s.heap.NoLimit) (hx : s.heap.get? x = some (HandSPX.excO C t0)) (hroom : A.depth < recursionLimit)
    (hq : ∀ h' tk dx, InitEnd s.heap h' x C dx t0 fld v → R (.ok (.ret .none)) { s with heap := h', toks := tk }) :
    codeAny (model prog w) A (.call (.ref fI) ⟨[.ref x, v], []⟩) R s := by
  obtain ⟨st, qual, par, fd, q1, q2, q3, q4, F, S, bi, hbody, hs, hp, hdb, hps⟩ := N.ex
  obtain ⟨oc, od, dV, kV, doc, pm, an, cdv, ct, osl, rfl, lk, hcd, -, -⟩ := F.ex
  obtain ⟨cd, hcl, hdct⟩ := PySem.W.any_some T.hd
  have hini := T.ini
  obtain ⟨bm, hmro, htl⟩ : ∃ bm, cd.mro = .ref C :: bm ∧ PySem.W.excTail b.bm bm = true := by
    unfold PySem.W.excInitIn at hini
    unfold PySem.W.clsIn at hcl
    split at hini
    · rename_i dd cd' sl ho
      rw [ho] at hcl
      simp only at hcl
      cases hcl
      split at hini
      · rename_i C' bm k0 k1 k2 k3 n k5 hm hsl
        simp only [Bool.and_eq_true, beq_iff_eq, Bool.not_eq_true'] at hini
        obtain ⟨⟨⟨rfl, rfl⟩, hdel⟩, ht⟩ := hini
        exact ⟨bm, hm, ht⟩
      · cases hini
    · cases hini
  have bt := bi s [.ref x, v] X rfl
  rw [List.append_nil] at bt
  refine codeAny_call_function hroom (X _ _ lk) rfl S.co S.gen rfl (PySem.W.codeRec_of X hcd) (bt _ _ _ _ ?_)
  refine wpAny_newFunctionEnv_cells S.kind (fun y hy => ?_) fun env he s₁ IC => ?_
  · obtain ⟨n, v⟩ := y
    rcases S.par n (List.of_mem_zip hy).1 with z | z
    · exact .inl z
    · exact .inr ⟨z, PySem.W.cellsFrom_some _ _ _ (.inl z)⟩
  subst he
  refine ⟨hlim.keeps IC.toInCall.keep, codeAny_func ?_⟩
  obtain ⟨h₁, tk₁, rfl⟩ := IC.toInCall.same
  have k : ∀ b o, s.heap.get? b = some o → h₁.get? b = some o := IC.toInCall.keep
  have hn := IC.toInCall.ns
  have hxL : s.heap.objs.size ≠ x := Nat.ne_of_gt (Heap.lt_size hx)
  have X₁ : K.In h₁ := X.keeps k
  have hx₁ := k _ _ hx
  rw [hbody]
  refine wpAny_execs_cons (plainObj_wpAny_Assign_Attribute ?_)
  have nd : (["self", par] : List Str).Nodup := S.nd
  have g0 : bindL (envOfC qual (defScope st) s.heap.objs.size fI cdv).kindOf ((["self", par] : List Str).zip [.ref x, v]) (fun _ => none) ("self" : Str) = some (.ref x) := bindL_get nd (i := 0) rfl rfl hs
  have g1 : bindL (envOfC qual (defScope st) s.heap.objs.size fI cdv).kindOf ((["self", par] : List Str).zip [.ref x, v]) (fun _ => none) par = some v := bindL_get nd (i := 1) rfl rfl hp
  refine ldL (v := v) hn g1 (ldL (v := .ref x) hn g0 ?_ S.kind hs (by decide)) S.kind hp hdb
  refine PySem.W.set_plain X₁ (ox := HandSPX.excO C t0) (od := none) ⟨hx₁, rfl, rfl, trivial⟩ T.sa ?_
  refine HandSPX.osaT b.store X₁ hx₁ hcl hmro htl hdct T.nf (fun h₃ tk₃ dx k₃ dn dne hx₃ hn₃ => ?_)
  show wpAny _ _ (execs _ _) _ _ _
  have z : s.heap.objs.size < h₁.objs.size := hn.lt
  exact wpAny_execs_nil (hq h₃ tk₃ dx ⟨fun b o hb e => k₃ b o hb (k b o e), hx₃, Nat.le_of_lt (Nat.lt_of_lt_of_le z dn), dne, hn₃⟩)
theorem exc_made (T : ExcT K b C fI fld) (N : ExcIni K fI fld) {v : Value} (X : K.In s.heap) (hlim : s.heap.NoLimit) (hroom : A.depth + 1 < recursionLimit)
    (hq : ∀ h' tk e d, OwnMade s.heap h' e C d fld v → R (.ok (.ret (.ref e))) { s with heap := h', toks := tk }) :
    codeAny (model prog w) A (.call (.ref C) ⟨[v], []⟩) R s := by
  obtain ⟨nm, N', qn, bs, bm, hdct, sn, sub, ab, col, dd, k0, k1, k2, k3, k5, hC, hT⟩ := PySem.W.excInit_of X T.ini
  obtain ⟨hp, g, dr, tk, os⟩ := s
  have k : ∀ b o, hp.get? b = some o → ((hp.push (PySem.W.kdv_tup [v])).push (HandSPX.excO C hp.objs.size)).get? b = some o := fun b o e => Heap.get?_push_of_some _ (Heap.get?_push_of_some _ e)
  have hget : ((hp.push (PySem.W.kdv_tup [v])).push (HandSPX.excO C hp.objs.size)).get? (hp.objs.size + 1) = some (HandSPX.excO C hp.objs.size) := by heap_get
  refine HandSPX.call_own b.base hT hC (PySem.W.looks_findIn X T.iC) (fun self => PySem.W.bind_fn X self T.tI) (show [v].length ≤ sizeLine by rw [sizeLine_eq]; exact (by decide : 1 ≤ 16777216)) ?_
  refine exc_init (s := ⟨(hp.push (PySem.W.kdv_tup [v])).push (HandSPX.excO C hp.objs.size), g, dr, tk, os⟩) T N (X.keeps k) (hlim.keeps k) hget ?_ fun h' tk' dx ⟨k', hx, dn, dne, hns⟩ => ?_
  · show A.depth + 1 < recursionLimit
    exact hroom
  · have old : ∀ b o, hp.get? b = some o → h'.get? b = some o := fun b o e => k' b o (Nat.ne_of_lt (Nat.lt_succ_of_lt (Heap.lt_size e))) (k b o e)
    have z : hp.objs.size + 1 + 1 ≤ dx := by
      first
        | (simpa only [Heap.size_push] using dn)
        | exact dn
        | (have q := dn; rw [Heap.size_push, Heap.size_push] at q; exact q)
    exact ⟨rfl, hq h' tk' (hp.objs.size + 1) dx ⟨old, Nat.le_succ _, ⟨_, _, hx, rfl, rfl, rfl, rfl⟩, Nat.le_trans (Nat.le_trans (Nat.le_succ _) (Nat.le_succ _)) z, dne, hns⟩⟩
end
theorem relO_fld {v : V} {v' : Value} {fld : Str} (r : RelV v v') (f : Str) : RelO (List.lookup f [(fld, v)]) (if f = fld then some v' else none) := by
  by_cases hw : f = fld
  · subst hw
    rw [if_pos rfl]
    have q : List.lookup f [(f, v)] = some v := by simp [List.lookup]
    rw [q]
    exact r
  · rw [if_neg hw]
    have qw : (f == fld) = false := by simpa using hw
    have q2 : List.lookup f [(fld, v)] = none := by simp [List.lookup, qw]
    rw [q2]
    trivial
section
variable {X : Cx} {b : EB} {C fI : Addr} {fld : Str}
/-- C(e) -/
def tMkE (C : Addr) (fld : Str) (ta : TA) : L2.St → Hp → XK → Prop := fun σ H Q => ta σ H fun vs H1 => ∃ v, vs = [v] ∧ ∀ d, H1 d = none → Q (.ref C) (some d) (upd H1 d (.xd [(fld, v)]))
theorem pmkE {x : Str} {a : Expr} {ta : TA} {p pos : Pos} (T : ExcT X.K b C fI fld) (N : ExcIni X.K fI fld) (gC : X.mg x = some (.ref C)) (hr : X.A.depth + 1 < recursionLimit) (ha : PA X [a] ta) (hg : Gl X x) (hdb : (x == ("__debug__" : Str)) = false)
    (he : starEach (a :: []) X.env = (false, eval a X.env) :: starEach [] X.env := by rfl) (hpl : (backTo pos (starEach [] X.env)).any (·.1) = false := by rfl) :
    PMk X (.Call (.Name x p) [a] [] pos) (tMkE C fld ta) := by
  intro pins s σ H Q I h
  refine wpAny_Call_Name_kw (ld_glob I hg gC ?_ hdb)
  refine PySem.W.callWith_K (h₀ := X.base) I.ok.mod.kin T.kC (thn (ha.run pos pins s σ H _ I h) fun us s1 hh => ?_) he hpl
  obtain ⟨vs, H1, I1, r1, v, ev, q1⟩ := hh
  subst ev
  refine ⟨I1.kIn, ?_⟩
  cases r1 with
  | cons rv rn =>
    rename_i v' us'
    cases rn
    show wpAny _ _ (call (.ref C) [v']) _ _ _
    have hlim := I1.nolimit
    obtain ⟨hp, g, dr, tk, os⟩ := s1
    refine wpAny_call (exc_made T N I1.kIn hlim hr fun h' tk' e d M => ?_)
    show MkP X pins σ Q (.ref e) ⟨h', g, dr, tk', os⟩
    obtain ⟨oe, fv, hoe, hc, hd, hdat, h1⟩ := M.obj
    have hns := M.ns
    obtain ⟨G', g1, g2⟩ := restrict h' fun b => decide (b ≠ e)
    have gk : ∀ b, b ≠ e → G'.get? b = h'.get? b := fun b hb => g1 b (decide_eq_true hb)
    have ge : G'.get? e = none := g2 e (by simp)
    have old : ∀ b o, hp.get? b = some o → G'.get? b = some o := fun b o q => (gk b (Nat.ne_of_lt (Nat.lt_of_lt_of_le (Heap.lt_size q) M.new))).trans (M.keep b o q)
    have ob : ObjOk X.prog X.w (upd H1 d (.xd [(fld, v)])) G' d (.xd [(fld, v)]) :=
      ⟨_, hns.at (fun o q => (gk d M.dne).trans q), fun f => relO_fld rv f⟩
    have J : Inv X pins σ (upd H1 d (.xd [(fld, v)])) ⟨G', g, dr, tk', os⟩ := I1.laid (t' := tk') old M.dbig ob
    refine ⟨e, oe, fv, ⟨G', g, dr, tk', os⟩, _, .ref C, some d, rfl, J, fun b o q => ?_, ge, hoe, ⟨hc, hd⟩, hdat, h1, ?_, rfl, I1.bare, raises_own T.eC T.tC, q1 d (I1.hok.fresh M.dbig)⟩
    · by_cases hb : b = e
      · have q' : G'.get? b = some o := q
        rw [hb, ge] at q'; cases q'
      · exact (gk b hb).symm.trans q
    · rw [upd_ne (Ne.symm M.dne)]
      exact I1.hok.fresh M.new
end

/-- an error's class of the program -/
structure ExcAt (U : Univ) (x fld : Str) : Prop where
  ex : ∃ b C fI, U.mg x = some (.ref C) ∧ ExcT U.K b C fI fld ∧ ExcIni U.K fI fld
/-- raise x(e) -/
def sRaise (x fld : Str) (ms : DA) : DS := fun σ O => (ms σ O).st σ fun ds O1 => match ds with
  | [d] => .er ⟨true, x, [fld], [d]⟩ σ O1
  | _ => .stuck
theorem wRaise {U : Univ} {c : Cs} {k : Nat} {x fld : Str} {a : Expr} {ms : DA} {p pos pos2 : Pos} (F : ExcAt U x fld) (hg : gB c x = true) (ha : SA U c k [a] ms)
    (he : ∀ env : PySem.Env, starEach (a :: []) env = (false, eval a env) :: starEach [] env := by intro _; rfl) (hpl : ∀ env : PySem.Env, (backTo pos (starEach [] env)).any (·.1) = false := by intro _; rfl) (hh : c.hot = false := by rfl) :
    SS U c k (.Raise (some (.Call (.Name x p) [a] [] pos)) none pos2) (sRaise x fld ms) := by
  intro X W Cc
  obtain ⟨b, C, fI, gC, T, N⟩ := F.ex
  obtain ⟨t, pa, fa⟩ := ha X W Cc
  obtain ⟨_, eu⟩ := Cc.u
  subst eu
  refine ⟨_, ps_raise (Cc.calm hh) Cc.tk (pmkE T N gC (by have := Cc.room.dp; omega) pa (by show X.env.scope.names.lookup x = _; rw [Cc.s]; exact gB_lk hg) (gB_db hg) (he _) (hpl _)), fun ad O H σ sv Dn S r h => ?_⟩
  refine fa ad O H σ sv _ S r ?_
  have h' : PostS _ ad H Dn W ((ms σ O).st σ fun ds O1 => match ds with
    | [d] => .er ⟨true, x, [fld], [d]⟩ σ O1
    | _ => .stuck) := h
  cases e : ms σ O with
  | stuck => rw [e] at h'; exact h'.elim
  | err y O1 =>
    rw [e] at h'
    exact fun ad' H' c dx s1 S1 rx => h' ad' H' sv c dx s1 S1 (r.keep s1) rx
  | ok ds O1 =>
    rw [e] at h'
    intro ad' H' vs s1 S1 rs
    match ds, h', rs with
    | [d], h', rs =>
      obtain ⟨v, tl, rfl, rv, rfl⟩ := rs
      refine ⟨v, rfl, fun dd hd => ?_⟩
      have nd := S1.out hd
      have st2 : Step ad' H' ad' (upd H' dd (.xd [(fld, v)])) := .new hd nd
      exact h' ad' _ sv (.ref C) (some dd) (s1.trans st2) (S1.new hd) ((r.keep s1).keep st2) ⟨gC, .inr ⟨dd, [(fld, v)], rfl, upd_same, rfl, .cons (rv.keep st2) .nil⟩⟩
    | [], h', _ => exact h'.elim
    | _ :: _ :: _, h', _ => exact h'.elim
end CP
namespace CP
open PySem PySem.Spec PyProof.Rows L2
section
variable {X : Cx} {pins : List (Addr × Obj)} {σ : L2.St} {H : Hp} {s sI s' : Shared} {B : Heap}
theorem flying_keeps {l : List PySem.Env} {e : Addr} {Z : Obj → Prop} {h h' : Heap} (x : HandSPX.FlyingZ B l e Z h) (k : ∀ b o, h.get? b = some o → h'.get? b = some o) : HandSPX.FlyingZ B l e Z h' := by
  obtain ⟨a1, a2, a3, oe, vs, T, oT, ts, h1, h2, h3, h4, h5, h6, h7, h8, h9⟩ := x
  exact ⟨fun b o e => k b o (a1 b o e), a2, a3.of_keeps fun b o hb _ => ⟨o, k b o hb, rfl⟩, oe, vs, T, oT, ts, k _ _ h1, h2, h3, h4, h5, h6, k _ _ h7, h8, h9⟩
/-- back on the ground, the exception tracked -/
theorem landedX {a : Addr} {cl : Value} {dx : Option Addr} (I : Inv X pins σ H sI) (nb : ∀ b o, sI.heap.get? b = some o → b ∉ frs X.stack → B.get? b = some o) (fl : HandSPX.FlyingZ B X.stack a (Zc cl dx) s'.heap) (na : H a = none)
    (up : sI.heap.UpToSlots s'.heap) (os : s'.os = sI.os) (ag : AllBare s'.gens) (nfr : a ∉ frs X.stack) : Inv X pins σ (upd H a (ExcO cl dx a)) s' := by
  have st : B.StaysIn s'.heap := fl.1
  have ns : sI.heap.get? a = none := by
    cases e : sI.heap.get? a with
    | none => rfl
    | some o =>
      have z := nb a o e nfr
      rw [fl.2.1] at z; cases z
  have ne : ∀ b o, sI.heap.get? b = some o → b ≠ a := fun b o e z => by rw [z, ns] at e; cases e
  have nf : ∀ b ∈ frs X.stack, ∀ o, sI.heap.get? b = some o → ∃ sl, s'.heap.get? b = some { o with slots := sl } := fun b hb o e => by
    obtain ⟨_, o', e', hd⟩ := I.stack.mem hb
    rw [e] at e'; cases e'
    exact up b o e hd
  obtain ⟨oe, vs, he, hz, hd⟩ := fl.there
  have ob : ObjOk X.prog X.w (upd H a (ExcO cl dx a)) s'.heap a (ExcO cl dx a) :=
    ⟨⟨oe, vs, he, hz.1, hz.2, hd⟩, ⟨oe, he⟩, fun _ _ ⟨o, v, q, r⟩ k => ⟨o, v, k o q, r⟩⟩
  have hk : HOk X.prog X.w (upd H a (ExcO cl dx a)) s'.heap := ((I.inGround nb).kept st).laidN (fun _ _ z => z) na ob
  have J := I.call (ch := []) (h' := s'.heap) (g' := s'.gens) (t' := s'.toks) (d' := s'.drawn) (H' := upd H a (ExcO cl dx a))
    ⟨fun b o e _ hb _ => st b o (nb b o e hb), fun b o e _ hb _ => nf b hb o e, fun b o e n _ => by rw [upd_ne (ne b o e)]; exact n, fun b o e _ => by
      by_cases hb : b ∈ frs X.stack
      · obtain ⟨sl, q⟩ := nf b hb o e
        exact ⟨_, q⟩
      · exact ⟨o, st b o (nb b o e hb)⟩, fun b xs e => by rw [upd_ne (ne_of_none e na)]; exact e, fun b u xs e => by rw [upd_ne (ne_of_none e na)]; exact e, fun b ps e => ⟨#[], by rw [upd_ne (ne_of_none e na), e]; simp⟩⟩
    hk ag (fun _ z => nomatch z)
  obtain ⟨a1, a2, a3, a4, a5⟩ := s'
  have e5 : a5 = sI.os := os
  subst e5
  exact J
theorem inv_toSuite (I : Inv X pins σ H s) (a : Addr) : Inv (X.suite a (X.pn ++ pins)) [] σ H s :=
  ⟨I.ok.suite _ _, I.os, I.bare, I.base, I.loc, I.cell, I.free, I.freeC, fun p hp => I.pin p (by rw [List.append_nil] at hp; exact hp), I.hok, I.len⟩
theorem inv_ofSuite {a : Addr} {pn' : List (Addr × Obj)} (I : Inv (X.suite a (X.pn ++ pins)) pn' σ H s) (ok : X.Ok) : Inv X pins σ H s :=
  ⟨ok, I.os, I.bare, I.base, I.loc, I.cell, I.free, I.freeC, fun p hp => I.pin p (List.mem_append_left _ hp), I.hok, I.len⟩
theorem ldNames {x : Str} {c : Value} {a : Addr} {np : Pos} {pn : List (Addr × Obj)} {Q : Value → Shared → Prop} {E : Value → Shared → Prop} (hc : Names X x c) (I : Inv (X.suite a pn) pins σ H s) (q : Q c s) :
    wpAny (model X.prog X.w) (X.A.mark (some (.ref a))) (eval (.Name x np) X.env) Q E s := by
  obtain ⟨hg, hdbg, hm | ⟨hm, hv, hnn⟩⟩ := hc
  · exact ld_glob (X := X.suite a pn) I hg hm q hdbg
  · exact ld_blt (X := X.suite a pn) I hg hm hv q hnn hdbg
end
/-- what the clause 'except (..) as n' wishes of an exception of the body -/
def wTup (K : PySem.W.Frag) (cs : List Value) (i : Nat) (ts : Addr → TS) (D : Ends) : WX := fun cls d σ H =>
  PySem.W.exmAny K cls cs = some true ∧ ∀ a, H a = none → ts a { nx := fun σ' H' => D.nx (σ'.set i none) H', rt := D.rt, bk := fun σ' H' => D.bk (σ'.set i none) H', ct := fun σ' H' => D.ct (σ'.set i none) H' } (σ.set i (some (.ref a))) (upd H a (ExcO cls d a))
section
variable {X : Cx} {x1 x2 x3 n : Str} {c1 c2 c3 : Value} {i kk : Nat} {body suite : List Stmt} {b₀ : Stmt} {np1 np2 np3 tpos pos pos' : Pos} {hr : List ExceptHandler} {tb : WX → TS} {ts : Addr → TS}
theorem ps_try_tup (hs : X.stack = X.env :: X.outer) (hf : X.env.frame = some X.env.locals) (hN : X.N.Nodup) (hi : X.N[i]? = some n) (hln : X.env.kindOf n = some .local) (hc1 : Names X x1 c1) (hc2 : Names X x2 c2) (hc3 : Names X x3 c3)
    (hb : ∀ (W : WX) (pn : List (Addr × Obj)) (xe : Value → Shared → Prop), Takes (X.tr pn xe) W → PassesOwn (model X.prog X.w) X.A X.env xe → PSs (X.tr pn xe) body (tb W))
    (hsu : ∀ (a : Addr) (pn : List (Addr × Obj)), PSs (X.suite a pn) (b₀ :: suite) (ts a)) :
    PS X (.Try body (.ExceptHandler (some (.Tuple [.Name x1 np1, .Name x2 np2, .Name x3 np3] kk tpos)) (some n) (b₀ :: suite) pos' :: hr) [] [] pos) (fun D σ H => tb (wTup X.K [c1, c2, c3] i ts D) D σ H) := by
  refine ⟨fun pins s σ H D I h => ?_⟩
  have ok := I.ok
  have hfr : X.A.frames = some (X.env :: X.outer) := by rw [ok.frames, hs]
  have hloc : Loc X.env.scope n := .inl hln
  refine wpAny_Try_except ?_
  refine wpAny_mono ((hb (wTup X.K [c1, c2, c3] i ts D) (X.pn ++ pins) (fun e s₁ => wpAny (model X.prog X.w) X.A (noteFrame e X.env) (fun _ s₂ => wpAny (model X.prog X.w) X.A (setFlight e none) (fun _ s₃ =>
    wpAny (model X.prog X.w) X.A (handleBy e X.env (.ExceptHandler (some (.Tuple [.Name x1 np1, .Name x2 np2, .Name x3 np3] kk tpos)) (some n) (b₀ :: suite) pos' :: hr)) (SP X pins D) X.xe s₃) X.xe s₂) X.xe s₁) (fun u s' xx => ?_) PassesOwn.looking).run [] s σ H D (I.toTry _) h) (fun f s1 hsp => ?_) (fun e s1 he => he)
  · obtain ⟨a, B, sI, pins', σ', H', cls, d, rfl, J', nb, up, sky, na, os, ag, hb1, hyes⟩ := xx
    have J : Inv X pins σ' H' sI := J'.ofTry ok
    have sky' : Sky B (X.env :: X.outer) a (Zc cls d) X.env.locals s'.heap := by rw [← hs]; exact sky
    show wpAny (model X.prog X.w) X.A (noteFrame (.ref a) X.env) _ _ _
    refine Sky.land Zc.steady hfr hf sky' fun h3 fl3 up3 => ?_
    have J3 : Inv X pins σ' H' { s' with heap := h3 } := J.landed nb fl3.1 (up.trans up3) os ag
    obtain ⟨oe3, vs3, he3, hz3, hd3⟩ := fl3.there
    have notFr : ∀ {h : Heap} {o : Obj} {vs : Array Value}, h.FunFrames B (X.env :: X.outer) → h.get? a = some o → o.data = .fields vs → a ∉ frs (X.env :: X.outer) := fun {h o vs} ff e dd hm => by
      obtain ⟨_, o', e', hnf⟩ := ff.mem hm
      rw [e] at e'; cases e'
      exact hnf _ dd
    have nfr := notFr fl3.2.2.1 he3 hd3
    have S3 := inv_toSuite J3 a
    refine wpAny_handleBy_cons (codeAny_handlers_test ?_) (by intro q; cases q)
    have LT : PySem.W.Looks (model X.prog X.w) h3 (typeOf (.ref a)) cls := fun A Q E s k q => wpAny_typeOf_ref (k _ _ he3) (by rw [hz3.1]; exact q)
    refine wpAny_Tuple ?_
    refine wpAny_items_cons (ldNames hc1 S3 ?_)
    refine wpAny_items_cons (ldNames hc2 S3 ?_)
    refine wpAny_items_cons (ldNames hc3 S3 ?_)
    refine wpAny_items_nil ⟨by size_fits, ?_⟩
    have kp : ∀ q o, h3.get? q = some o → (h3.push { cls := .type "tuple", data := .seq [c1, c2, c3].toArray }).get? q = some o := fun _ _ z => Heap.get?_push_of_some _ z
    have fl3' := flying_keeps fl3 kp
    refine (PySem.W.exm_tup3 (M := model X.prog X.w) (J3.kIn.keeps kp) (LT.keeps kp) (Heap.get?_push_size h3 rfl) hb1).here ?_
    refine codeAny_handlers_suite_as ?_
    refine HandSPX.lands_againZ fl3' fun h4 fl4 up4 => ?_
    have up5 : sI.heap.UpToSlots h4 := ((up.trans up3).trans (Heap.UpToSlots.of_keeps kp)).trans up4
    have J4 : Inv X pins σ' (upd H' a (ExcO cls d a)) { s' with heap := h4 } := landedX J nb (by rw [hs]; exact fl4) na up5 os ag (by rw [hs]; exact nfr)
    have S4 := inv_toSuite J4 a
    refine store_ok (X := X.suite a (X.pn ++ pins)) (v := .ref a) S4 hN hi hloc rfl (fun s5 S5 => ?_) (.inr hln)
    refine wpAny_mono ((hsu a (X.pn ++ pins)).run [] s5 _ _ _ S5 (hyes a na)) (fun f s6 hsp => ?_) (fun _ _ z => False.elim z)
    have end_ : ∀ {σ6 : L2.St} {H6 : Hp} {Q : Shared → Prop}, Inv (X.suite a (X.pn ++ pins)) [] σ6 H6 s6 → (∀ s7, Inv X pins (σ6.set i none) H6 s7 → Q s7) →
        wpAny (model X.prog X.w) X.A (do bindName X.env n .none; unbindBehindTheSuite X.env n pos') (fun _ s7 => Q s7) X.xe s6 := fun {σ6 H6 Q} S6 hq => gone_ok (inv_ofSuite S6 ok) hN hi hln hq
    cases f with
    | next =>
      obtain ⟨σ6, H6, S6, q6⟩ := hsp
      exact end_ S6 fun s7 J7 => ⟨_, _, J7, q6⟩
    | brk =>
      obtain ⟨σ6, H6, S6, q6⟩ := hsp
      exact end_ S6 fun s7 J7 => ⟨_, _, J7, q6⟩
    | cont =>
      obtain ⟨σ6, H6, S6, q6⟩ := hsp
      exact end_ S6 fun s7 J7 => ⟨_, _, J7, q6⟩
    | ret u =>
      obtain ⟨v6, σ6, H6, S6, r6, q6⟩ := hsp
      exact end_ S6 fun s7 J7 => ⟨_, _, _, J7, r6, q6⟩
  · cases f with
    | next =>
      obtain ⟨σ', H', J', q⟩ := hsp
      exact wpAny_execs_nil ⟨σ', H', J'.ofTry ok, q⟩
    | brk =>
      obtain ⟨σ', H', J', q⟩ := hsp
      exact ⟨σ', H', J'.ofTry ok, q⟩
    | cont =>
      obtain ⟨σ', H', J', q⟩ := hsp
      exact ⟨σ', H', J'.ofTry ok, q⟩
    | ret u =>
      obtain ⟨v, σ', H', J', r, q⟩ := hsp
      exact ⟨v, σ', H', J'.ofTry ok, r, q⟩
end
/-- the tracked exception as data -/
theorem rep_exc {U : Univ} {ad : List Addr} {H : Hp} {O : Store} {x : Exn} {cl : Value} {dx : Option Addr} {a : Addr} (S : Sim U ad O H) (r : RepX U ad H x cl dx) (hn : x.ns = [] → x.vs = []) (na : H a = none) : Rep U ad (upd H a (ExcO cl dx a)) (.exc x.own x.c x.ns x.vs) (.ref a) := by
  have st : Step ad H ad (upd H a (ExcO cl dx a)) := .new na (S.out na)
  obtain ⟨hc, hd⟩ := r
  rcases hd with ⟨hd, hdx⟩ | ⟨d, fs, rfl, h1, h2, h3⟩
  · exact ⟨a, cl, dx, [], rfl, S.out na, upd_same, hc, hd, .inl ⟨rfl, hdx⟩, by rw [hn hd]; rfl⟩
  · have nd : d ∉ ad := fun z => by
      obtain ⟨k, hk, e⟩ := List.mem_iff_getElem.mp z
      have hO : k < O.length := by rw [← S.len]; exact hk
      have cc := S.at_ k d O[k] (by rw [List.getElem?_eq_getElem hk, e]) (List.getElem?_eq_getElem hO)
      revert cc
      cases O[k] <;> intro cc <;> first | exact cc.elim | skip
      · obtain ⟨_, q, _⟩ := cc; rw [h1] at q; cases q
      · rename_i t _ _
        cases t <;> (obtain ⟨_, q, _⟩ := cc; rw [h1] at q; cases q)
      · obtain ⟨_, _, _, q, _⟩ := cc; rw [h1] at q; cases q
    exact ⟨a, cl, some d, fs, rfl, S.out na, upd_same, hc, h2.symm, .inr ⟨d, rfl, by rw [upd_ne (ne_of_none h1 na)]; exact h1, nd⟩, h3.keep st⟩
end CP
namespace PySem.W
open PySem PySem.Spec PySem.Calls PyProof.Rows
section
variable {prog : Program} {w : World} {A : Around} {E : Value → Shared → Prop} {s : Shared} {K : Frag} {x D : Addr} {ox : Obj} {od : Option Obj}
theorem findObj_dataD {C : Addr} {name : Str} {a g : Value} (hc : (clsIn K C).isSome = true) (ha : findIn K (.ref C) name = some (some a)) (hg : specialIn K a "__get__" = some (some g)) (ht : takesIn K a = some true) : findObj K C od name = some (.bind g a) := by
  obtain ⟨cd, hc⟩ := Option.isSome_iff_exists.mp hc
  unfold findObj
  rw [hc, Option.bind_some, ha, Option.bind_some]
  simp [hg, ht]
theorem kin_classD {Q : Option Value → Shared → Prop} (hga : findIn K (.ref D) "__getattribute__" = some (some (.builtin "BaseException.__getattribute__"))) (hgt : findIn K (.ref D) "__getattr__" = some none) (hsub : subIn K (.ref D) (.type "BaseException") = some true)
    (hdct : hasDictIn K D = true) (ha : findIn K (.ref D) "__class__" = some (some (.builtin "object.__class__")))
    (hn : specialIn K (.builtin "object.__class__") "__get__" = some (some (.builtin "getset_descriptor.__get__"))) (htk : takesIn K (.builtin "object.__class__") = some true) (hm : mroIn K D (.type "object") = some true)
    (X : K.In s.heap) (I : InstAt s.heap x ox D od) (h : Q (some (.ref D)) { s with toks := s.toks + 1 }) : wpAny (model prog w) A (getAttr? (.ref x) "__class__") Q E s := by
  have hf : findObj K D od "__class__" = some (.bind (.builtin "getset_descriptor.__get__") (.builtin "object.__class__")) := findObj_dataD (by obtain ⟨cd, hc, _⟩ := any_some hdct; rw [hc]; rfl) ha hn htk
  obtain ⟨hp, g, d, t, os⟩ := s
  have L0 := I.type (M := model prog w)
  have L1 := looks_findIn (M := model prog w) X hga
  have L2 := looks_findIn (M := model prog w) X hgt
  have L3 := looks_find (M := model prog w) X I hf
  have sub : Looks (model prog w) hp (isInstance (.ref x) (.type "BaseException")) true := L0.andThen (looks_subIn X hsub)
  have hx0 : (false && onTheHeap (Value.builtin "BaseException.__getattribute__")) = false := rfl
  have hx2 : (Value.builtin "BaseException.__getattribute__" == Value.builtin "object.__getattribute__") = false := by decide +kernel
  have hx1 : (onTheHeap (Value.ref D) && Value.builtin "BaseException.__getattribute__" == Value.builtin "object.__getattribute__") = false := by rw [hx2]; rfl
  unfold getAttr? getAttrBy? getAttrBy
  refine wpAny_bind (wpAny_mkText (wpAny_bind (wpAny_attempt (wpAny_holding (wpAny_bind (L0.at (wpAny_bind (L1.at ?_))))))))
  show wpAny _ _ (if (onTheHeap (Value.ref D) && Value.builtin "BaseException.__getattribute__" == Value.builtin "object.__getattribute__") = true then _ else _) _ _ _
  rw [hx1, if_neg Bool.false_ne_true]
  unfold getAttrByItsOwn hookBefore
  refine wpAny_bind ?_
  rw [if_pos (show onTheHeap (Value.ref D) = true from rfl)]
  refine L2.at ?_
  refine wpAny_bind (wpAny_attempt (wpAny_holding ?_))
  unfold callGetattribute
  rw [hx0, if_neg Bool.false_ne_true]
  unfold boundAndCalled
  rw [PySem.F.excAttr_ValueError.ga.bind (.ref x)]
  refine wpAny_bind (wpAny_pure ?_)
  show wpAny _ _ (call (.builtin "BaseException.__getattribute__") [.ref x, .str "__class__" t]) _ _ _
  refine wpAny_call (codeAny_call_builtin PySem.F.excAttr_ValueError.ga.plain PySem.F.entry_bexc_ga ?_)
  refine @check_slot (model prog w) _ _ ⟨hp, g, d, t + 1, os⟩ "BaseException.__getattribute__" "BaseException" "__getattribute__" (.ref x) [.str "__class__" t] [] _ (by decide +kernel) (by decide +kernel) sub (PySem.F.args_bexc_ga (.ref x) (.str "__class__" t)) ?_
  unfold Builtin.«object.__getattribute__»
  refine wpAny_bind (wpAny_of_eq (a := ((Value.ref x : Value), [Value.str "__class__" t])) (by first | rfl | (simp only [slotArgs]; rfl)) ?_)
  refine wpAny_bind (wpAny_pure (wpAny_bind (L0.at (wpAny_bind (L3.at ?_)))))
  show wpAny _ _ (holding [Value.builtin "object.__class__"] (call (.builtin "getset_descriptor.__get__") [.builtin "object.__class__", .ref x, .ref D]) >>= ret) _ _ _
  refine wpAny_bind (wpAny_holding (wpAny_call (class_get (s := ⟨hp, g, d, t + 1, os⟩) (ox := ox) (od := od) X I hm ?_)))
  refine wpAny_pure ?_
  show wpAny _ _ (handedOut (.ref D)) _ _ _
  rw [handedOut_of (v := .ref D) rfl]
  first
    | exact wpAny_pure (wpAny_pure h)
    | exact wpAny_pure h
    | exact wpAny_pure (wpAny_bind (wpAny_pure (wpAny_pure h)))
theorem kitx_excD (C : L2.ExcC K D) : KitX K (.ref x) (.ref D) (fun h => InstAt h x ox D od) where
  ty := fun _ _ _ I => I.type
  it := fun _ _ X _ => by
    obtain ⟨cdD, hcD, _⟩ := any_some C.hd
    unfold clsIn at hcD
    split at hcD
    · rename_i c' d' cd' sl' ho
      intro A' Q' E' s' k q
      unfold isType loadHead
      exact wpAny_bind (wpAny_loadPart (k _ _ (X _ _ ho)) (wpAny_pure q))
    · cases hcD
  ne := fun h tp dd its n sl X htp => by
    obtain ⟨cdD, hcD, _⟩ := any_some C.hd
    refine Bool.eq_false_iff.mpr fun q => ?_
    have e : D = tp := Value.ref.inj (beq_iff_eq.mp q)
    subst e
    unfold clsIn at hcD
    split at hcD
    · rename_i c' d' cd' sl' ho
      have z := (X _ _ ho).symm.trans htp
      cases z
    · cases hcD
  ca := fun X I k => kin_classD C.hg C.hk C.hs C.hd C.ha C.hn C.ht C.hm X I k
end
end PySem.W
namespace CP
open PySem PySem.Spec PyProof.Rows L2
/-- a tracked exception with a dict, as an object of the heap -/
theorem exc_inst {X : Cx} {pins : List (Addr × Obj)} {σ : L2.St} {H : Hp} {s : Shared} {D a d : Addr} {fs : List (Str × V)} (I : Inv X pins σ H s) (h : H a = some (ExcO (.ref D) (some d) a)) (hd : H d = some (.xd fs)) :
    ∃ (oe od : Obj) (mA : Str → Option Value), PySem.W.InstAt s.heap a oe D (some od) ∧ (∀ f, PySem.W.lookIn f od = some (mA f)) ∧ ∀ f, RelO (fs.lookup f) (mA f) := by
  obtain ⟨⟨oe, vs, h1, h2, h3, h4⟩, _⟩ := (show ObjOk X.prog X.w H s.heap a (ExcO (.ref D) (some d) a) from I.hok a _ h)
  obtain ⟨mA, hns, hr⟩ := (show ObjOk X.prog X.w H s.heap d (.xd fs) from I.hok d _ hd)
  obtain ⟨od, ho, hl⟩ := lookIn_ns hns
  exact ⟨oe, od, mA, ⟨h1, h2, by unfold PySem.W.notCls; rw [h4] <;> rfl, by rw [h3]; exact ho⟩, hl, hr⟩
/-- .. with or without a dict -/
def DxOk (H : Hp) (dx : Option Addr) : Prop := dx = none ∨ ∃ d fs, dx = some d ∧ H d = some (.xd fs)
theorem exc_instN {X : Cx} {pins : List (Addr × Obj)} {σ : L2.St} {H : Hp} {s : Shared} {D a : Addr} {dx : Option Addr} (I : Inv X pins σ H s) (h : H a = some (ExcO (.ref D) dx a)) (hd : DxOk H dx) : ∃ (oe : Obj) (od : Option Obj), PySem.W.InstAt s.heap a oe D od := by
  rcases hd with rfl | ⟨d, fs, rfl, hd⟩
  · obtain ⟨⟨oe, vs, h1, h2, h3, h4⟩, _⟩ := (show ObjOk X.prog X.w H s.heap a (ExcO (.ref D) none a) from I.hok a _ h)
    exact ⟨oe, none, h1, h2, by unfold PySem.W.notCls; rw [h4] <;> rfl, by rw [h3]; trivial⟩
  · obtain ⟨oe, od, _, J, _, _⟩ := exc_inst I h hd
    exact ⟨oe, some od, J⟩
/-- isinstance(e, c) -/
def rIsD (K : PySem.W.Frag) : List V → Hp → VK → Prop := fun xs H Q => ∃ (D a : Addr) (dx : Option Addr) (c : V) (cv : Value) (b : Bool), xs = [.ref a, c] ∧ H a = some (ExcO (.ref D) dx a) ∧ DxOk H dx ∧ L2.ExcC K D ∧
  (∀ u, RelV c u → u = cv) ∧ PySem.W.kitOne K (.ref D) cv = some b ∧ Q (.bl b) H
theorem call_isD {X : Cx} : CallR X (.builtin "isinstance") (rIsD X.K) := by
  intro pins s σ H xs us Q I r h
  obtain ⟨D, a, dx, c, cv, b, rfl, h1, h2, C, hcv, e, q⟩ := h
  cases r with
  | cons rx rr =>
    cases rr with
    | cons rt rr =>
      cases rr
      cases rx
      have ec := hcv _ rt
      subst ec
      obtain ⟨oe, od, J⟩ := exc_instN I h1 h2
      exact PySem.W.kia_one (PySem.W.kitx_excD C) I.kIn J e (fun z => nomatch z) fun tk => ⟨.bl b, H, I.kept (t' := tk) fun _ _ z => z, rfl, q⟩
def dIsiE (ta : List Str) (tab : Str → Str → Option Bool) (tabT : Str → String → Option Bool) : FN := fun ds _ => match ds with
  | [.exc true c _ _, .ty t] => if c ∈ ta then (tabT c t).map .bl else none
  | [.exc true c _ _, .glo g] => if c ∈ ta then (tab c g).map .bl else none
  | _ => none
structure IsiE (U : Univ) (ta : List Str) (tab : Str → Str → Option Bool) (tabT : Str → String → Option Bool) : Prop where
  cls : ∀ c ∈ ta, ∃ C, U.mg c = some (.ref C) ∧ L2.ExcC U.K C
  own : ∀ c ∈ ta, ∀ g b, tab c g = some b → ∃ C G, U.mg c = some (.ref C) ∧ U.mg g = some (.ref G) ∧ PySem.W.kitOne U.K (.ref C) (.ref G) = some b
  ty : ∀ c ∈ ta, ∀ n b, tabT c n = some b → ∃ C, U.mg c = some (.ref C) ∧ PySem.W.kitOne U.K (.ref C) (.type n) = some b
theorem rep_exc_invN {U : Univ} {ad : List Addr} {H : Hp} {c : Str} {ns : List Str} {vs : List D} {v : V} {C : Addr} (hm : U.mg c = some (.ref C)) (r : Rep U ad H (.exc true c ns vs) v) : ∃ a dx, v = .ref a ∧ H a = some (ExcO (.ref C) dx a) ∧ DxOk H dx := by
  obtain ⟨a, cl, dx, fs, rfl, _, h1, h2, h3, h4, h5⟩ := r
  have h2' : U.mg c = some cl := h2
  rw [hm] at h2'
  cases h2'
  rcases h4 with ⟨_, rfl⟩ | ⟨d, rfl, h6, _⟩
  · exact ⟨a, none, rfl, h1, .inl rfl⟩
  · exact ⟨a, some d, rfl, h1, .inr ⟨d, fs, rfl, h6⟩⟩
theorem rep_exc_inv {U : Univ} {ad : List Addr} {H : Hp} {c n : Str} {ns : List Str} {vs : List D} {v : V} {C : Addr} (hm : U.mg c = some (.ref C)) (r : Rep U ad H (.exc true c (n :: ns) vs) v) :
    ∃ a d fs, v = .ref a ∧ H a = some (ExcO (.ref C) (some d) a) ∧ H d = some (.xd fs) ∧ fs.map (·.1) = n :: ns ∧ Reps U ad H vs (fs.map (·.2)) := by
  obtain ⟨a, cl, dx, fs, rfl, _, h1, h2, h3, h4, h5⟩ := r
  have h2' : U.mg c = some cl := h2
  rw [hm] at h2'
  cases h2'
  rcases h4 with ⟨rfl, _⟩ | ⟨d, rfl, h6, _⟩
  · cases h3
  · exact ⟨a, d, fs, rfl, h1, h6, h3.symm, h5⟩
theorem opIsiE {U : Univ} {ta : List Str} {tab : Str → Str → Option Bool} {tabT : Str → String → Option Bool} (F : IsiE U ta tab tabT) : OpNH U (.builtin "isinstance") (dIsiE ta tab tabT) := by
  intro X W c k C
  obtain ⟨_, eu⟩ := C.u
  subst eu
  refine ⟨_, call_isD, ?_⟩
  intro ds xs ad O H d Q S r e q
  unfold dIsiE at e
  split at e
  · rename_i c' ns vs t
    obtain ⟨v, u, rfl, rx, ry⟩ := reps2 r
    cases ry
    split at e
    · rename_i hc
      obtain ⟨b, e1, rfl⟩ := Option.map_eq_some_iff.mp e
      obtain ⟨Ca, hm, hE⟩ := F.cls c' hc
      obtain ⟨C2, h1, h2⟩ := F.ty c' hc t b e1
      have : C2 = Ca := by
        have := h1.symm.trans hm
        cases this; rfl
      subst this
      obtain ⟨a, dx, rfl, g1, g2⟩ := rep_exc_invN hm rx
      exact ⟨C2, a, dx, .ty t, .type t, b, rfl, g1, g2, hE, fun _ z => z, h2, q _ _ .refl S rfl⟩
    · cases e
  · rename_i c' ns vs g
    obtain ⟨v, u, rfl, rx, ry⟩ := reps2 r
    split at e
    · rename_i hc
      obtain ⟨b, e1, rfl⟩ := Option.map_eq_some_iff.mp e
      obtain ⟨Ca, hm, hE⟩ := F.cls c' hc
      obtain ⟨C2, G, h1, h3, h2⟩ := F.own c' hc g b e1
      have : C2 = Ca := by
        have := h1.symm.trans hm
        cases this; rfl
      subst this
      obtain ⟨uu, m1, m2⟩ := ry
      have : uu = .ref G := by
        have := m1.symm.trans h3
        cases this; rfl
      subst this
      have ev := rel_ref m2
      subst ev
      obtain ⟨a, dx, rfl, g1, g2⟩ := rep_exc_invN hm rx
      exact ⟨C2, a, dx, .ref G, .ref G, b, rfl, g1, g2, hE, fun _ z => z, h2, q _ _ .refl S rfl⟩
    · cases e
  · cases e

def tFldE (K : PySem.W.Frag) (f : Str) (te : TE) : TE := fun σ H Q => te σ H fun x H1 => ∃ (b : EB) (fI D a d : Addr) (v : V), x = .ref a ∧ H1 a = some (ExcO (.ref D) (some d) a) ∧ H1 d = some (.xd [(f, v)]) ∧ ExcT K b D fI f ∧ Q v H1
theorem pe_fldE {X : Cx} {e : Expr} {te : TE} {f : Str} {pos : Pos} (he : PE X e te) (hb : attributeBase e f X.env (eval e X.env) = eval e X.env) : PE X (.Attribute e f pos) (tFldE X.K f te) := by
  refine ⟨fun pins s σ H Q I h => ?_⟩
  refine attr_of hb (thn (he.run pins s σ H _ I h) fun u s1 hh => ?_)
  obtain ⟨x, H1, I1, rx, b, fI, D, a, d, v, rfl, h1, h2, T, q⟩ := hh
  obtain rfl : u = Value.ref a := rx
  obtain ⟨oe, od, mA, J, hl, hr⟩ := exc_inst I1 h1 h2
  have l : List.lookup f [(f, v)] = some v := by simp [List.lookup]
  obtain ⟨u, hu, ru⟩ := RelO.some_of (v := v) (o := mA f) (by rw [← l]; exact hr f)
  exact HandSPX.exc_get I1.kIn J T.ga T.gg T.eC (PySem.W.findObj_own T.hd T.nf rfl (by rw [hl, hu])) (handed_of ru) ⟨v, H1, I1.tok _, ru, q⟩
def dAttrE (tab : List (Str × Str)) (f : Str) : D → Option D
  | .exc true c [n] [v] => if (c, n) ∈ tab ∧ n = f then some v else none
  | _ => none
def eAttrE (tab : List (Str × Str)) (f : Str) (m : DE) : DE := fun σ O => (m σ O).bind fun d O1 => lift (dAttrE tab f d) O1
theorem wAttrE {U : Univ} {c : Cs} {k : Nat} {tab : List (Str × Str)} {e : Expr} {f : Str} {m : DE} {pos : Pos} (hf : ∀ p ∈ tab, ExcAt U p.1 p.2) (he : SE U c k e m) (hb : ∀ env : PySem.Env, attributeBase e f env (eval e env) = eval e env := by intro _; rfl) :
    SE U c k (.Attribute e f pos) (eAttrE tab f m) := by
  intro X W C
  obtain ⟨t, p, g⟩ := he X W C
  obtain ⟨_, eu⟩ := C.u
  subst eu
  refine ⟨_, pe_fldE p (hb _), fun ad O H σ sv Q S r h => g ad O H σ sv _ S r (Post.mono (Post.bind h) ?_)⟩
  rintro v H1 ⟨ad1, O1, d, s1, S1, r1, h1⟩
  cases e0 : dAttrE tab f d with
  | none => rw [e0] at h1; exact h1.elim
  | some z =>
    rw [e0] at h1
    unfold dAttrE at e0
    split at e0
    · rename_i c' n v'
      split at e0
      · rename_i hc
        cases e0
        obtain ⟨hc, rfl⟩ := hc
        obtain ⟨b, Ca, fI, hm, T, _⟩ := hf _ hc
        obtain ⟨a, dd, fs, rfl, g1, g2, g3, g4⟩ := rep_exc_inv hm r1
        match fs, g2, g3, g4 with
        | [(n', u)], g2, g3, g4 =>
          simp only [List.map_cons, List.map_nil, List.cons.injEq, and_true] at g3
          subst g3
          obtain ⟨w, tl, e2, rw', e3⟩ := g4
          simp only [List.map_cons, List.map_nil, List.cons.injEq] at e2
          obtain ⟨rfl, rfl⟩ := e2
          exact ⟨b, fI, Ca, a, dd, u, rfl, g1, g2, T, h1 ad1 H1 u .refl S1 rw'⟩
        | [], _, g3, _ => cases g3
        | _ :: _ :: _, _, g3, _ => simp at g3
      · cases e0
    · cases e0

structure SFH (U : Univ) (k : Nat) (f : Addr) (fd : FuncData) (ps : List Str) (m : DF) : Prop where
  run : ∀ (A : Around) (outer : List PySem.Env) (s : Shared) (H : Hp) (args : Args) (us : List Value) (vs : List V) (Q : VK) (E : XK) (ad : List Addr) (O : Store) (ds : List D),
    RmH k A → A.guards = some [] → Env0 U.P U.w U.K U.mg U.base A outer s H → BindsTo s fd args (ps.zip us) → Vals vs us →
    Sim U ad O H → Reps U ad H ds vs → ds.length = ps.length → Post U ad H Q E (m ds O) →
    codeAny (model U.P U.w) A (.call (.ref f) args) (CR (L2.CX U.P U.w) outer U.P U.w H s Q E) s
theorem SFH.calm {U : Univ} {k : Nat} {f : Addr} {fd : FuncData} {ps : List Str} {m : DF} (F : SFH U k f fd ps m) : SF U k f fd ps m :=
  ⟨fun A outer s H args us vs Q E ad O ds hr => F.run A outer s H args us vs Q E ad O ds (rmH_of hr)⟩
abbrev cxN (CX : CXT) (P : Program) (w : World) (K : PySem.W.Frag) (mg : Str → Option Value) (base : Heap) (N : List Str) (qual : Str) (scope : Scope) (f : Addr) (cd : Value) (A : Around) (outer : List PySem.Env) (s : Shared) (H : Hp) (E : XK) : Cx :=
  { cxOf CX P w K mg base N qual scope f cd A outer s H E with calm := false }
theorem inv_startN {CX : CXT} {P : Program} {w : World} {K : PySem.W.Frag} {mg : Str → Option Value} {base : Heap} {N ps : List Str} {qual : Str} {scope : Scope} {f : Addr} {cd : Value} {A : Around} {outer : List PySem.Env} {s s1 : Shared} {H : Hp} {E : XK} {us : List Value} {vs : List V}
    (S : FnScope N ps scope) (e0 : Env0 P w K mg base A outer s H) (hl : vs.length = ps.length) (r : Vals vs us)
    (x : InCallC s s.heap.objs.size (bindL (envOfC qual scope s.heap.objs.size f cd).kindOf (ps.zip us) fun _ => none) (cellsFrom (s.heap.objs.size + 1) scope.names []) (bindC (envOfC qual scope s.heap.objs.size f cd).kindOf (ps.zip us) fun _ => none) s1) :
    Inv (cxN CX P w K mg base N qual scope f cd A outer s H E) [] (L2.start N vs) H s1 := by
  have hpl : ps.length ≤ N.length := by have := congrArg List.length S.pre; rw [List.length_take] at this; omega
  obtain ⟨h1, tk, rfl, hk⟩ := x.done
  have noA : ∀ b : Addr, b ∉ (cxN CX P w K mg base N qual scope f cd A outer s H E).ex := fun b z => absurd (show b ∈ ([] : List Addr) from z) (by simp)
  refine ⟨⟨e0.mod, S.kind, rfl, rfl, Nat.le_refl _, fun y z c h1 h2 => ?_, fun y hy => ?_, fun y c _ h => ?_, (fun z => Bool.noConfusion (show false = true from z)), Around.frames_deeper e0.frames, .inr ⟨rfl, rfl⟩, fun b z => absurd z (noA b), e0.bs, e0.bsz, fun b _ _ => noA b, fun b z => absurd z (noA b), e0.funs, e0.frf⟩,
    rfl, e0.bare, Un.kept hk, ⟨_, x.toInCall.ns, fun i y v h1 h2 h3 => ?_⟩, fun y c h => ⟨_, x.cell y c h⟩, e0.hok.fresh (Nat.le_refl _), fun y c h => ?_, fun q hq => absurd (show q ∈ ([] : List (Addr × Obj)) from hq) (by simp), e0.hok.kept hk, ?_⟩
  · exact name_of_addr x.apart (PySem.mem_of_lookup h1) (PySem.mem_of_lookup h2)
  · have hy : scope.names.lookup y = some .cell ∨ scope.names.lookup y = some .free := hy
    rcases hy with hy | hy
    · exact cell_has hy
    · exact absurd rfl (S.nofree _ (PySem.mem_of_lookup hy))
  · exact Nat.le_of_lt (x.above y c (PySem.mem_of_lookup h))
  · have hi : i < vs.length := by
      unfold L2.start at h2
      by_cases hi : i < vs.length
      · exact hi
      · rw [List.getElem?_append_right (by simpa using hi)] at h2
        rw [List.getElem?_replicate] at h2
        split at h2 <;> cases h2
    have ha : vs[i]? = some v := by
      unfold L2.start at h2
      rw [List.getElem?_append_left (by simpa using hi), List.getElem?_map] at h2
      cases e : vs[i]? with
      | none => rw [e] at h2; cases h2
      | some a => rw [e] at h2; cases h2; rfl
    obtain ⟨u, hu, rv⟩ := r.get ha
    have hp : ps[i]? = some y := by
      rw [← S.pre, List.getElem?_take_of_lt (by omega)]; exact h1
    have ndP : ps.Nodup := by rw [← S.pre]; exact S.nd.sublist (List.take_sublist _ _)
    refine ⟨u, rv, ?_⟩
    rcases S.par y (List.mem_of_getElem? hp) with k | k
    · exact .inl ⟨k, bindL_get ndP hp hu k⟩
    · obtain ⟨c, e⟩ := cell_has (n := s.heap.objs.size + 1) k
      refine .inr ⟨.inl k, c, e, ?_⟩
      have q := x.cell y c e
      rw [bindC_get ndP hp hu (by show scope.names.lookup y ≠ _; rw [k]; decide)] at q
      exact q
  · exact e0.hok.fresh (Nat.le_of_lt (x.above y c (PySem.mem_of_lookup h)))
  · unfold L2.start
    show _ = N.length
    rw [List.length_append, List.length_map, List.length_replicate]
    omega
/-- a def by its body, whatever is in hand -/
theorem defOkH {U : Univ} {x qual : Str} {st : Stmt} {f : Addr} {fd : FuncData} {N ps : List Str} {k : Nat} {m : DS} (drop : Bool) (F : Fun U.K x qual st f fd) (S : FnScope N ps (defScope st)) (hb : SB U ⟨N, defScope st, defScope st, none, true⟩ k (defBody st) m) :
    SFH U (k + 1) f fd ps (fnD drop N.length m) := by
  obtain ⟨oc, od, kV, doc, pm, an, cdv, ct, osl, rfl, lk, hcd⟩ := F.ex
  constructor
  intro A outer s H args us vs Q E ad O ds hr hg e0 bt rv Sm rd hl hp
  have inK : U.K.In s.heap := e0.mod.kin.keeps fun b o e => (e0.bs b o e).1
  have noLim : s.heap.NoLimit := e0.mod.nolimit.keeps fun b o e => (e0.bs b o e).1
  have hvl : vs.length = ps.length := rd.length ▸ hl
  refine codeAny_call_function hr.depth (inK _ _ lk) rfl S.co S.gen rfl (PySem.W.codeRec_of inK hcd) (bt _ _ _ _ ?_)
  refine wpAny_newFunctionEnv_cells S.kind (fun y hy => ?_) fun env he s1 ic => ?_
  · obtain ⟨n, v⟩ := y
    rcases S.par n (List.of_mem_zip hy).1 with q | q
    · exact .inl q
    · exact .inr ⟨q, PySem.W.cellsFrom_some _ _ _ (.inl q)⟩
  subst he
  refine ⟨noLim.keeps ic.toInCall.keep, codeAny_func ?_⟩
  have hr2 : RmH k (A.deeper (envOfC qual (defScope st) s.heap.objs.size f cdv)) := hr.deeper _
  have I0 : Inv (cxN (L2.CX U.P U.w) U.P U.w U.K U.mg U.base N qual (defScope st) f cdv A outer s H E) [] (L2.start N vs) H s1 := inv_startN S e0 hvl rv ic
  obtain ⟨t, pt, rt⟩ := hb (cxN (L2.CX U.P U.w) U.P U.w U.K U.mg U.base N qual (defScope st) f cdv A outer s H E) (fun cl d _ H' => E cl d H')
    ⟨⟨U.T, rfl⟩, rfl, rfl, S.nd, fun z => Bool.noConfusion (show true = false from z), takes_of rfl rfl rfl rfl, passes_of rfl, hr2, fun z => Bool.noConfusion (show true = false from z), hg, fun _ _ => rfl, fun z e => nomatch e⟩
  have goal : t { nx := fun _ H' => Q .non H', rt := Q } (L2.start N vs) H := by
    refine rt ad O H _ _ _ Sm (repE_start rd) ?_
    have h2 : Post U ad H Q E (exitF drop O (m (ds.map some ++ List.replicate (N.length - ds.length) none) O)) := hp
    revert h2
    generalize m (ds.map some ++ List.replicate (N.length - ds.length) none) O = fl
    intro h2
    cases fl with
    | nx σ O' => exact fun ad' H' sv st' Sm' r' => post_fin (d := .non) h2 Sm st' Sm' rfl
    | rt d O' => exact fun ad' H' v st' Sm' r' => post_fin h2 Sm st' Sm' r'
    | er x σ O' => exact fun ad' H' sv c dx st' Sm' _ r' => post_finX h2 Sm st' Sm' r'
    | bk σ O' => exact h2.elim
    | ct σ O' => exact h2.elim
    | stuck => exact h2.elim
  refine wpAny_mono (pt.run [] s1 (L2.start N vs) H _ I0 goal) (fun fl s' hs => ?_) fun e s' hs => hs
  cases fl with
  | ret u => exact let ⟨v, σ', H', J, rv', q⟩ := hs; ⟨v, H', J.os, J.bare, J.base, J.hok, rv', q⟩
  | next => exact let ⟨σ', H', J, q⟩ := hs; ⟨V.non, H', J.os, J.bare, J.base, J.hok, rfl, q⟩
  | brk => exact let ⟨_, _, _, q⟩ := hs; q.elim
  | cont => exact let ⟨_, _, _, q⟩ := hs; q.elim
structure DefAtH (U : Univ) (x : Str) (k : Nat) (ps : List Str) (m : DF) : Prop where
  ex : ∃ f fd, U.mg x = some (.ref f) ∧ PySem.W.keepIn U.K (.ref f) = true ∧ Binds U.K fd ps [] ∧ SFH U k f fd ps m
section
variable {U : Univ} {c : Cs} {k j : Nat} {x : Str} {ps : List Str} {m : DF} {p pos : Pos} {e : Expr} {es : List Expr} {ms : DA}
theorem wCallH (F : DefAtH U x j ps m) (hj : j ≤ k) (hg : gB c x = true) (ha : SA U c k (e :: es) ms)
    (he : ∀ env, starEach (e :: es) env = (false, eval e env) :: starEach es env := by intro _; rfl) (hpl : ∀ env, (backTo pos (starEach es env)).any (·.1) = false := by intro _; rfl) :
    SE U c k (.Call (.Name x p) (e :: es) [] pos) (eCall ps.length m ms) := by
  intro X W C
  obtain ⟨f, fd, hm, hk, hb, hF⟩ := F.ex
  obtain ⟨t, pa, fa⟩ := ha X W C
  refine ⟨fun sv H Q => t sv H fun vs H1 => ∃ ad O ds, Sim U ad O H1 ∧ Reps U ad H1 ds vs ∧ ds.length = ps.length ∧ Post U ad H1 Q (fun cl d H' => W cl d sv H') (m ds O), ⟨fun pins s sv H Q I h => ?_⟩, ?_⟩
  · obtain ⟨_, eu⟩ := C.u
    subst eu
    refine wpAny_Call_Name_kw (ld_glob I (u := .ref f) (by show X.env.scope.names.lookup x = _; rw [C.s]; exact gB_lk hg) hm ?_ (gB_db hg))
    refine PySem.W.callWith_K (h₀ := X.base) I.ok.mod.kin hk (thn (pa.run pos pins s sv H _ I h) fun us s1 ⟨vs, H1, I1, r, ad, O, ds, S, rd, hl, hp⟩ => ⟨I1.kIn, ?_⟩) (he _) (hpl _)
    have hul : us.length = ps.length := by rw [← r.length, ← rd.length]; exact hl
    have hb' := hb s1 us I1.kIn (by rw [List.append_nil]; exact hul)
    rw [List.append_nil] at hb'
    refine wpAny_call (codeAny_mono (hF.run X.A X.stack s1 H1 ⟨us, []⟩ us vs Q (fun cl d H' => W cl d sv H') ad O ds (C.room.mono hj) C.gd I1.env0 hb' r S rd hl hp) fun z s' hq => ?_)
    cases z with
    | error e => exact C.tk e s' (XE.of_call I1 (fun _ _ _ w => w) hq)
    | ok fl =>
      cases fl with
      | ret u => exact I1.after hq
      | next => exact hq
      | brk => exact hq
      | cont => exact hq
  · intro ad O H σ sv Q S rr h
    refine fa ad O H σ sv _ S rr (PostL.mono (PostL.bind h) ?_)
    rintro vs H1 ⟨ad1, O1, ds, s1, S1, r1, h1⟩
    split at h1
    · rename_i hl
      exact ⟨ad1, O1, ds, S1, r1, hl, h1⟩
    · exact h1.elim
end
end CP
namespace CP
open PySem PySem.Spec PyProof.Rows L2
/-- a mirror as a reading of statements -/
def tGS (U : Univ) (m : DS) : TS := fun Dn sv H => ∃ ad O σ, Sim U ad O H ∧ RepE U ad H σ sv ∧ PostS U ad H Dn noW (m σ O)
section
variable {U : Univ} {c : Cs} {k k' : Nat} {X : Cx} {W : WX} {pins : List (Addr × Obj)} {sv : L2.St} {H : Hp} {s : Shared}
theorem lamCtxE (C : CtxOk U c k' X W) {scope : Scope} (L : LamX.LamS X.env.scope scope) {A : Around} {outer : List PySem.Env} {s1 : Shared} {H1 : Hp} {f co : Addr} {E : XK} (hr : Room k (A.deeper (LamX.lamEnv X scope s1.heap.objs.size f co))) (hg : A.guards = some []) :
    CtxOk U ⟨c.N, scope, scope, none, false⟩ k (LamX.lamCx X A outer s1 H1 E scope f co) (fun cls d _ H => E cls d H) where
  u := C.u
  n := C.n
  s := rfl
  nd := C.nd
  calm := fun _ => rfl
  tk := takes_of rfl rfl rfl rfl
  po := passes_of rfl
  room := rmH_of hr
  hd := fun _ => hr.hd
  gd := hg
  fn := fun x h => absurd rfl (L.own _ (PySem.mem_of_lookup h)).2
  code := fun _ e => nomatch e
/-- what the call of the lambda asks: σ the maker's names -/
def tActE (U : Univ) (ad : List Addr) (H : Hp) (σ : Env) (m : DE) (f co : Addr) (q : Str) (W' : WX) : TE := fun sz HZ Q => sz[0]? = some (some (.ref f)) ∧ HZ co = some (LamX.CodeO co q) ∧
  ∃ ad' O', Step ad H ad' HZ ∧ Sim U ad' O' HZ ∧ Post U ad' HZ Q (fun cls d H' => W' cls d sz H') (m σ O')
theorem peActE (C : CtxOk U c k' X W) {scope : Scope} {body : Expr} {m : DE} (L : LamX.LamS X.env.scope scope) (hE : SE U ⟨c.N, scope, scope, none, false⟩ k body m) (I : Inv X pins sv H s) {ad : List Addr} {σ : Env} (r : RepE U ad H σ sv)
    {f co g : Addr} {pm ctv cdg : Value} {params : Arguments} {a x : Str} {Ng : List Str} {sg : Scope} {Eg : XK} {pn : List (Addr × Obj)} {xe : Value → Shared → Prop} {p1 p2 : Pos} {W' : WX}
    (tk : Takes ((cxOf (L2.CX X.prog X.w) X.prog X.w X.K X.mg X.base Ng x sg g cdg X.A X.stack s H Eg).tr pn xe) W')
    (of : s.heap.get? f = some (PySem.W.kla_obj "<lambda>" (X.env.qual ++ "<lambda>") params body scope (cloFrom X.env.cells scope.names []) pm co ctv)) (nf : H f = none) (fo : f ∉ frs X.stack)
    (bn : bindArgs (PySem.W.kla_fn "<lambda>" (X.env.qual ++ "<lambda>") params body scope (cloFrom X.env.cells scope.names []) pm (.ref co) ctv) ⟨[], []⟩ = pure [])
    (rm : Room (k + 1) (X.A.deeper (envOfC x sg s.heap.objs.size g cdg))) (h0 : Ng[0]? = some a) (va : Vis sg a) (d1 : (a == ("__debug__" : Str)) = false) (d2 : (a == ("__classdict__" : Str)) = false) :
    PE ((cxOf (L2.CX X.prog X.w) X.prog X.w X.K X.mg X.base Ng x sg g cdg X.A X.stack s H Eg).tr pn xe) (.Call (.Name a p1) [] [] p2) (tActE U ad H σ m f co (X.env.qual ++ "<lambda>") W') := by
  constructor
  intro pz sz σz HZ Q IZ hq
  obtain ⟨q1, q2, ad', O', st, S', po⟩ := hq
  have named := (pe_var (pos := p1) (i := 0) h0 va d1 d2).run pz sz σz HZ (fun v H1 => v = .ref f ∧ H1 = HZ) IZ ⟨.ref f, q1, rfl, rfl⟩
  refine wpAny_Call_Name_kw (thn named fun u s1 got => ?_)
  obtain ⟨v, H1, I1, ru, ev, eH⟩ := got
  subst ev
  subst eH
  obtain rfl : u = Value.ref f := ru
  have at1 := I1.base.keep f _ of nf fo (fun z => nomatch (show f ∈ ([] : List Addr) from z))
  refine PySem.W.callWith_F0 ⟨_, _, _, _, at1⟩ ?_
  have und : Un (frs X.stack) [] H H1 s.heap s1.heap := I1.base
  obtain ⟨oc, vs, tk0, c1, c2, c3⟩ := (I1.hok co _ q2).1
  refine wpAny_call (codeAny_mono (R := CR (L2.CX X.prog X.w) (envOfC x sg s.heap.objs.size g cdg :: X.stack) X.prog X.w H1 s1 Q (fun cls d H' => W' cls d σz H')) ?_ fun z s2 hz => ?_)
  · refine PySem.W.kla_callFunE rm.depth at1 rfl L.co L.gen rfl ⟨co, oc, vs, tk0, rfl, c1, c2, c3⟩ ?_
    refine wpAny_of_eq bn (wpAny_newFunctionEnv (fun y hy => (L.own y hy).2) (fun y hy => absurd hy List.not_mem_nil) (fun h2 hn hs => ⟨I1.nolimit.fresh _ hs, ?_⟩) L.kind)
    have kept : ∀ b o, s1.heap.get? b = some o → h2.get? b = some o := fun b o e => hs.extBut b o (Nat.ne_of_lt (Heap.lt_size e)) (Heap.get?_push_of_some _ e)
    have J := LamX.lam_start2 (E := fun cls d H' => W' cls d σz H') (f := f) (c' := co) (tk := s1.toks + ([] : List (Str × Value)).length) I L I1.env0 rm.hd und hn kept
    obtain ⟨t, pt, ft⟩ := hE _ _ (lamCtxE (E := fun cls d H' => W' cls d σz H') (outer := envOfC x sg s.heap.objs.size g cdg :: X.stack) (s1 := s1) (H1 := H1) (f := f) (co := co) C L (rm.deeper (LamX.lamEnv X scope s1.heap.objs.size f co)) C.gd)
    refine PySem.W.kla_codeExpr (wpAny_mono (pt.run [] _ sv H1 Q J (ft ad' O' H1 σ sv Q S' (r.keep st) po)) (fun v s' hv => ?_) fun e s' he => ?_)
    · obtain ⟨v', H', J', rv, qv⟩ := hv
      exact ⟨v', H', J'.os, J'.bare, J'.base, J'.hok, rv, qv⟩
    · exact he
  · cases z with
    | error e => exact tk _ _ (XE.of_call I1 (fun _ _ _ h => h) hz)
    | ok fl =>
      cases fl with
      | ret u => exact I1.after hz
      | next => exact hz.elim
      | brk => exact hz.elim
      | cont => exact hz.elim
/-- told, and what the call gave; or what the suite gives of the error -/
def eToldX (w : Str) (L : List Str) (N i : Nat) (ms : DS) (m : DE) : DE := fun σ O => match m σ O with
  | .ok d O1 => .ok (.lst [.str w, d]) O1
  | .err x O1 => if x.own = true ∧ x.c ∈ L ∧ (x.ns = [] → x.vs = []) then (match ms ((List.replicate N none).set i (some (.exc x.own x.c x.ns x.vs))) O1 with
    | .rt d O2 => .ok d O2
    | _ => .stuck) else .stuck
  | .stuck => .stuck
/-- a def that calls what it got within a try, returns what the call gave in a list, and else what its suite returns -/
structure TellsX (U : Univ) (x : Str) (w : Str) (L : List Str) (i ks : Nat) (g : Addr) (a : Str) (Ng : List Str) (st : Stmt) (fd : FuncData) (ms : DS) : Prop where
  at_ : U.mg x = some (.ref g)
  F : FunD U.K x x (defArgs st) (defBody st) (defScope st) [] [] g fd
  S : FnScope Ng [a] (defScope st)
  b : Binds U.K fd [a] []
  body : ∃ (b n x1 x2 x3 : Str) (C1 C2 C3 : Addr) (b0 : Stmt) (suite : List Stmt) (pb p1 p2 p3 p4 p5 p6 p7 p8 np1 np2 np3 tpos pos' : Pos) (j kk : Nat) (hr : List ExceptHandler), Ng[1]? = some b ∧ Loc (defScope st) b ∧ (b == ("__debug__" : Str)) = false ∧ (b == ("__classdict__" : Str)) = false ∧
    Ng[i]? = some n ∧ (defScope st).names.lookup n = some .local ∧ gB ⟨Ng, defScope st, defScope st, none, true⟩ x1 = true ∧ gB ⟨Ng, defScope st, defScope st, none, true⟩ x2 = true ∧ gB ⟨Ng, defScope st, defScope st, none, true⟩ x3 = true ∧
    U.mg x1 = some (.ref C1) ∧ U.mg x2 = some (.ref C2) ∧ U.mg x3 = some (.ref C3) ∧ (∀ c ∈ L, ∃ C, U.mg c = some (.ref C) ∧ PySem.W.exmAny U.K (.ref C) [.ref C1, .ref C2, .ref C3] = some true) ∧
    SB U ⟨Ng, defScope st, defScope st, none, true⟩ ks (b0 :: suite) ms ∧
    defBody st = [.Try [.Assign [.Name b pb] (.Call (.Name a p1) [] [] p2) p3] (.ExceptHandler (some (.Tuple [.Name x1 np1, .Name x2 np2, .Name x3 np3] kk tpos)) (some n) (b0 :: suite) pos' :: hr) [] [] p4, .Return (some (.List [.Constant (.str w) j p5, .Name b p6] p7)) p8]
  a0 : Ng[0]? = some a
  va : Vis (defScope st) a
  d1 : (a == ("__debug__" : Str)) = false
  d2 : (a == ("__classdict__" : Str)) = false
theorem sToldX {x w a : Str} {LL : List Str} {i ks : Nat} {g : Addr} {Ng : List Str} {st : Stmt} {fd : FuncData} {ms : DS} {params : Arguments} {body : Expr} {scope : Scope} {m : DE} {p lp pos : Pos} {kk : Nat} {cd P : Addr} {q : Str}
    (Tl : TellsX U x w LL i ks g a Ng st fd ms) (hj : k + 2 ≤ kk) (hj2 : ks + 1 ≤ kk) (hx : c.sc.names.lookup x = some .globalImplicit) (hdb : (x == ("__debug__" : Str)) = false) (ho : c.own = some (cd, q)) (TB : LamX.TabB U.base U.mg cd P) (hT : (P, q ++ "<lambda>") ∈ U.T) (hu : ∀ p ∈ U.T, p.1 = P → p.2 = q ++ "<lambda>")
    (hL : LamX.lamSB c.sc scope = true) (hdef : ∀ env : PySem.Env, defaultsOf params env = ([], [])) (hbind : ∀ (q : Str) (cl : List (Str × Addr)) (pm cv ctv : Value), bindArgs (PySem.W.kla_fn "<lambda>" q params body scope cl pm cv ctv) ⟨[], []⟩ = pure [])
    (hE : SE U ⟨c.N, scope, scope, none, false⟩ k body m) (hh : c.hot = false := by rfl) : SE U c kk (.Call (.Name x p) [.Lambda params body scope lp] [] pos) (eToldX w LL Ng.length i ms m) := by
  intro X W C
  refine ⟨tG U W (eToldX w LL Ng.length i ms m), ⟨fun pins s sv H Q I hq => ?_⟩, fun ad O H σ sv Q S r h => ⟨ad, O, σ, S, r, h⟩⟩
  obtain ⟨ad, O, σ, Sm, r, po⟩ := hq
  obtain ⟨hc1, hc2⟩ := C.code _ ho
  have hsc := C.s
  have L : LamX.LamS X.env.scope scope := by rw [hsc]; exact LamX.lamS_by hL
  obtain ⟨TT, eu⟩ := C.u
  have em : X.mg = U.mg := by rw [← eu]
  have eK : X.K = U.K := by rw [← eu]
  have eb : X.base = U.base := by rw [← eu]
  have eP : X.prog = U.P := by rw [← eu]
  have ew : X.w = U.w := by rw [← eu]
  have gl : Gl X x := by show X.env.scope.names.lookup x = _; rw [hsc]; exact hx
  have TBx : LamX.TabB X.base X.mg cd P := by rw [em, eb]; exact TB
  have hT' : (P, X.env.qual ++ "<lambda>") ∈ U.T := by rw [hc2]; exact hT
  have hu' : ∀ p ∈ U.T, p.1 = P → p.2 = X.env.qual ++ "<lambda>" := by rw [hc2]; exact hu
  refine wpAny_Call_Name_kw (ld_glob I gl (by rw [em]; exact Tl.at_) ?_ hdb)
  refine PySem.W.callWith_K (h₀ := X.base) I.ok.mod.kin (by rw [eK]; exact Tl.F.kp) ?_ (by rfl) (by rfl)
  show wpAny _ _ (spliced ((false, eval (.Lambda params body scope lp) X.env) :: backTo pos (starEach [] X.env))) _ _ s
  refine Calls.spliced_cons (LamX.lam_make2 I TBx hc1 hT' hu' Sm.tb (hdef _) (L.has I.ok) fun f co pm ctv H1 s1 I1 ex1 tb1 of nf fo oc => ?_)
  refine Calls.spliced_nil ⟨I1.kIn, ?_⟩
  have st1 : Step ad H ad H1 := ⟨⟨[], (List.append_nil _).symm⟩, fun b o e n z => ⟨ex1 b o e n, z⟩⟩
  have Sm1 : Sim U ad O H1 := ⟨Sm.nd, Sm.len, fun i b d e1 e2 => (Sm.at_ i b d e1 e2).keep st1 fun u e n => ex1 b u e n, tb1⟩
  obtain ⟨oc', od, dV, kV, doc, pm', an, cdv, ct, osl, rfl, lk, hcd, -, -⟩ := Tl.F.ex
  have inK : X.K.In s1.heap := I1.kIn
  have noLim : s1.heap.NoLimit := I1.nolimit
  obtain ⟨b, n, x1, x2, x3, C1, C2, C3, b0, suite, pb, p1, p2, p3, p4, p5, p6, p7, p8, np1, np2, np3, tpos, pos', j, kn, hr, b1, b2, b3, b4, n1, n2, g1, g2, g3, m1, m2, m3, hex, hSu, hbody⟩ := Tl.body
  have bt := Tl.b s1 [.ref f] (by rw [← eK]; exact inK) rfl
  rw [List.append_nil] at bt
  have run : codeAny (model X.prog X.w) X.A (.call (.ref g) ⟨[.ref f], []⟩) (CR (L2.CX X.prog X.w) X.stack X.prog X.w H1 s1 Q noE) s1 := by
    refine codeAny_call_function C.room.depth (inK _ _ (by rw [eK]; exact lk)) rfl Tl.S.co Tl.S.gen rfl (PySem.W.codeRec_of inK (by rw [eK]; exact hcd)) (bt _ _ _ _ ?_)
    refine wpAny_newFunctionEnv_cells Tl.S.kind (fun y hy => ?_) fun env he s2 ic => ?_
    · obtain ⟨n, v⟩ := y
      rcases Tl.S.par n (List.of_mem_zip hy).1 with z | z
      · exact .inl z
      · exact .inr ⟨z, PySem.W.cellsFrom_some _ _ _ (.inl z)⟩
    subst he
    refine ⟨noLim.keeps ic.toInCall.keep, codeAny_func ?_⟩
    have rm0 : Room (kk - 1) (X.A.deeper (envOfC x (defScope st) s1.heap.objs.size g cdv)) := ((C.rm hh).mono (show kk - 1 + 1 ≤ kk by omega)).deeper _
    have rm : Room (k + 1) (X.A.deeper (envOfC x (defScope st) s1.heap.objs.size g cdv)) := rm0.mono (by omega)
    have I0 : Inv (cxOf (L2.CX X.prog X.w) X.prog X.w X.K X.mg X.base Ng x (defScope st) g cdv X.A X.stack s1 H1 noE) [] (L2.start Ng [.ref f]) H1 s2 := inv_start Tl.S (C.rm hh).hd I1.env0 rfl (.cons rfl .nil) ic
    have bv : Vis (defScope st) b := b2.elim .inl fun z => .inr (.inl z)
    have pact := fun (W' : WX) (pn : List (Addr × Obj)) (xe : Value → Shared → Prop) (tk : Takes ((cxOf (L2.CX X.prog X.w) X.prog X.w X.K X.mg X.base Ng x (defScope st) g cdv X.A X.stack s1 H1 noE).tr pn xe) W') =>
      peActE (p1 := p1) (p2 := p2) (Eg := noE) (cdg := cdv) (g := g) (x := x) (pn := pn) (xe := xe) C L hE I1 (r.keep st1) tk of nf fo (hbind _ _ _ _ _) rm Tl.a0 Tl.va Tl.d1 Tl.d2
    have psu : ∀ (e : Addr) (pn : List (Addr × Obj)), PSs ((cxOf (L2.CX X.prog X.w) X.prog X.w X.K X.mg X.base Ng x (defScope st) g cdv X.A X.stack s1 H1 noE).suite e pn) (b0 :: suite) (tGS U ms) := fun e pn => by
      obtain ⟨t, pt, rt⟩ := hSu ((cxOf (L2.CX X.prog X.w) X.prog X.w X.K X.mg X.base Ng x (defScope st) g cdv X.A X.stack s1 H1 noE).suite e pn) noW
        ⟨⟨TT, eu⟩, rfl, rfl, Tl.S.nd, fun z => Bool.noConfusion (show true = false from z), takes0, PassesOwn.never, ⟨(rm0.mono (show ks ≤ kk - 1 by omega)).dp, (rm0.mono (show ks ≤ kk - 1 by omega)).un⟩, fun z => Bool.noConfusion (show true = false from z), C.gd, fun _ _ => rfl, fun z e => nomatch e⟩
      refine ⟨fun pz sz σz HZ Dn IZ hq => ?_⟩
      obtain ⟨ad2, O2, σ2, S2, r2, p2⟩ := hq
      exact pt.run pz sz σz HZ Dn IZ (rt ad2 O2 HZ σ2 σz Dn S2 r2 p2)
    have nmOk : ∀ {y : Str} {Cy : Addr}, gB ⟨Ng, defScope st, defScope st, none, true⟩ y = true → U.mg y = some (.ref Cy) → Names (cxOf (L2.CX X.prog X.w) X.prog X.w X.K X.mg X.base Ng x (defScope st) g cdv X.A X.stack s1 H1 noE) y (.ref Cy) := fun {y Cy} h1 h2 =>
      ⟨gB_lk h1, gB_db h1, .inl (by show X.mg y = _; rw [em]; exact h2)⟩
    have pbody := pss_cons (ps_try_tup (X := cxOf (L2.CX X.prog X.w) X.prog X.w X.K X.mg X.base Ng x (defScope st) g cdv X.A X.stack s1 H1 noE) (i := i) (n := n) (pos := p4) (pos' := pos') (kk := kn) (hr := hr) (tpos := tpos) (np1 := np1) (np2 := np2) (np3 := np3) (tb := fun W' => tAsg (tActE U ad H1 σ m f co (X.env.qual ++ "<lambda>") W') (gName 1)) (ts := fun _ => tGS U ms) rfl rfl Tl.S.nd n1 n2 (nmOk g1 m1) (nmOk g2 m2) (nmOk g3 m3)
        (fun W' pn xe tk _ => pss_one (ps_set (X := (cxOf (L2.CX X.prog X.w) X.prog X.w X.K X.mg X.base Ng x (defScope st) g cdv X.A X.stack s1 H1 noE).tr pn xe) (i := 1) (pos := p3) (pos' := pb) Tl.S.nd b1 b2 (pact W' pn xe tk) (by rfl) (.inl rfl))) psu)
      (pss_one (ps_ret (pos := p8) (pe_lst (pos := p7) (pa_cons (pe_str (x := w) (pos := p5) (j := j)) (pa_cons (pe_var (pos := p6) (i := 1) b1 bv b3 b4) pa_nil)))))
    rw [← hbody] at pbody
    refine wpAny_mono (pbody.run [] s2 (L2.start Ng [.ref f]) H1 { nx := fun _ H' => Q .non H', rt := Q } I0 ?_) (fun fl s' hs => ?_) fun e s' hs => hs
    · have z0 : (L2.start Ng [.ref f])[0]? = some (some (.ref f)) := rfl
      have zlen : (L2.start Ng [.ref f]).length = Ng.length := by
        have := (List.getElem?_eq_some_iff.mp b1).1
        show ([V.ref f].map some ++ List.replicate (Ng.length - [V.ref f].length) none).length = _
        simp; omega
      have zl : 1 < (L2.start Ng [.ref f]).length := by
        have := (List.getElem?_eq_some_iff.mp b1).1
        rw [zlen]; exact this
      refine ⟨z0, oc, ad, O, .refl, Sm1, ?_⟩
      have po' : Post U ad H1 Q noE (eToldX w LL Ng.length i ms m σ O) := by
        have po2 := Post.step st1 po
        unfold eToldX at po2 ⊢
        cases e : m σ O with
        | stuck => rw [e] at po2; exact po2.elim
        | ok d O1 => rw [e] at po2; exact po2
        | err y O1 =>
          rw [e] at po2
          dsimp only at po2 ⊢
          split at po2
          · rename_i hc
            rw [if_pos hc]
            split at po2
            · exact po2
            · exact po2.elim
          · exact po2.elim
      unfold eToldX at po'
      cases e : m σ O with
      | stuck => rw [e] at po'; exact po'.elim
      | ok d O1 =>
        rw [e] at po'
        intro ad2 H2 v s2' S2 r2
        refine ⟨v, List.getElem?_set_self zl, ?_, fun p np => ?_⟩
        · exact (by decide : 2 ≤ sizeLine)
        · exact po' ad2 _ _ (s2'.trans (.new np (S2.out np))) (S2.new np) (rep_lst S2 np (.cons rfl (.cons r2 .nil)))
      | err y O1 =>
        rw [e] at po'
        dsimp only at po'
        split at po'
        · rename_i hc
          obtain ⟨hc1, hc2, hc3⟩ := hc
          intro ad2 H2 cl dx s2' S2 rx
          obtain ⟨Cy, my, ey⟩ := hex y.c hc2
          have ecl : cl = .ref Cy := by
            have h1 := rx.1
            rw [if_pos hc1, my] at h1
            cases h1; rfl
          subst ecl
          refine ⟨by show PySem.W.exmAny X.K _ _ = _; rw [eK]; exact ey, fun e' ne => ?_⟩
          have rexc := rep_exc S2 rx hc3 ne
          have stn : Step ad2 H2 ad2 (upd H2 e' (ExcO (.ref Cy) dx e')) := .new ne (S2.out ne)
          refine ⟨ad2, O1, (List.replicate Ng.length none).set i (some (.exc y.own y.c y.ns y.vs)), S2.new ne, ⟨by rw [List.length_set, List.length_set, List.length_replicate, zlen], fun i' d' ei => ?_⟩, ?_⟩
          · by_cases hi : i' = i
            · subst hi
              have hl : i' < Ng.length := (List.getElem?_eq_some_iff.mp n1).1
              rw [List.getElem?_set_self (by rw [List.length_replicate]; exact hl)] at ei
              cases ei
              exact ⟨.ref e', List.getElem?_set_self (by rw [zlen]; exact hl), rexc⟩
            · rw [List.getElem?_set_ne (Ne.symm hi), List.getElem?_replicate] at ei
              split at ei <;> cases ei
          · split at po'
            · rename_i d O2 e2
              rw [e2]
              exact fun ad3 H3 v s3 S3 r3 => po' ad3 H3 v ((s2'.trans stn).trans s3) S3 r3
            · exact po'.elim
        · exact po'.elim
    · cases fl with
      | ret u => exact let ⟨v, σ', H', J, rv', q⟩ := hs; ⟨v, H', J.os, J.bare, J.base, J.hok, rv', q⟩
      | next => exact let ⟨σ', H', J, q⟩ := hs; ⟨V.non, H', J.os, J.bare, J.base, J.hok, rfl, q⟩
      | brk => exact let ⟨_, _, _, q⟩ := hs; q.elim
      | cont => exact let ⟨_, _, _, q⟩ := hs; q.elim
  refine wpAny_call (codeAny_mono run fun r s2 hz => ?_)
  cases r with
  | error e =>
    obtain ⟨_, _, _, _, _, _, _, _, _, _, _, _, no⟩ := hz
    exact no.elim
  | ok fl =>
    cases fl with
    | ret u => exact I1.after hz
    | next => exact hz.elim
    | brk => exact hz.elim
    | cont => exact hz.elim
theorem wToldX {fa : List He.Fa} {fn : List He.DefD} {tf : List (He.Defn × Str)} {ex : PySem.W.Frag → Bool} {x w a : Str} {LL : List Str} {i ks : Nat} {Ng : List Str} {st : Stmt} {ms : DS} {params : Arguments} {body : Expr} {scope : Scope} {m : DE} {pp lp pos : Pos} {kk : Nat} {p : He.Defn × Str} {q : Str} (kb : Nat)
    (cs : Says fa fn tf ex U) (hp : p ∈ tf) (hq : p.2 = q ++ "<lambda>") (ho : c.own = some ((He.cT U.K p.1).1, q)) (Tl : ∃ g fd, TellsX U x w LL i ks g a Ng st fd ms) (hj : kb + 2 ≤ kk) (hj2 : ks + 1 ≤ kk) (h : gB c x = true) (hL : LamX.lamSB c.sc scope = true) (hE : SE U ⟨c.N, scope, scope, none, false⟩ kb body m)
    (hdef : ∀ env : PySem.Env, defaultsOf params env = ([], []) := by intro _; rfl) (hbind : ∀ (q : Str) (cl : List (Str × Addr)) (pm cv ctv : Value), bindArgs (PySem.W.kla_fn "<lambda>" q params body scope cl pm cv ctv) ⟨[], []⟩ = pure [] := by intro _ _ _ _ _; rfl) (hh : c.hot = false := by rfl) :
    SE U c kk (.Call (.Name x pp) [.Lambda params body scope lp] [] pos) (eToldX w LL Ng.length i ms m) := by
  obtain ⟨g, fd, T⟩ := Tl
  obtain ⟨t1, t2, t3⟩ := cs.tab hp
  rw [hq] at t2 t3
  exact sToldX T hj hj2 (gB_lk h) (gB_db h) ho t1 t2 t3 hL hdef hbind hE hh
end
end CP
namespace CP
open PySem PySem.Spec PyProof.Rows L2
section
variable {U : Univ} {c : Cs} {k : Nat} {pos p : Pos} {x : Str} {e : Expr} {es : List Expr} {ms : DA} {id : String}
theorem wBH {g : FN} (h : gB c x = true) (hm : U.mg x = none) (hv : bootBuiltins x = some (.builtin id)) (ho : OpNH U (.builtin id) g) (ha : SA U c k (e :: es) ms)
    (he : ∀ env, starEach (e :: es) env = (false, eval e env) :: starEach es env := by intro _; rfl) (hpl : ∀ env, (backTo pos (starEach es env)).any (·.1) = false := by intro _; rfl) : SE U c k (.Call (.Name x p) (e :: es) [] pos) (eN g ms) :=
  sCallBH ho (gB_lk h) hm hv ha (gB_nm h) (gB_db h) he hpl
end
/-- the suite of a def's first try -/
def tSuite (st : Stmt) : List Stmt := match defBody st with
  | .Try _ (.ExceptHandler _ _ b _ :: _) _ _ _ :: _ => b
  | _ => []
structure ErrOk (K : PySem.W.Frag) (bs gs : List Str) (tys : List String) (p : ErrR) : Prop where
  t : ExcT K p.1 (He.ga K p.2.1) (He.ma K (He.ga K p.2.1) "__init__") p.2.2.1
  c : L2.ExcC K (He.ga K p.2.1)
  g : ∀ g ∈ gs, PySem.W.kitOne K (.ref (He.ga K p.2.1)) (.ref (He.ga K g)) = some (p.2.2.2.1.contains g)
  n : ∀ n ∈ tys, PySem.W.kitOne K (.ref (He.ga K p.2.1)) (.type n) = some (p.2.2.2.2.contains n)
  m : PySem.W.exmAny K (.ref (He.ga K p.2.1)) (bs.map fun x => .ref (He.ga K x)) = some true
theorem errOk {K : PySem.W.Frag} {bs gs : List Str} {tys : List String} {p : ErrR} (h : errB K bs gs tys p = true) : ErrOk K bs gs tys p := by
  unfold errB at h
  obtain ⟨h1, h⟩ := Bool.and_eq_true_iff.mp h
  obtain ⟨h2, h⟩ := Bool.and_eq_true_iff.mp h
  obtain ⟨h3, h⟩ := Bool.and_eq_true_iff.mp h
  obtain ⟨h4, h5⟩ := Bool.and_eq_true_iff.mp h
  have t := excT_of h1
  unfold clsB at h2
  obtain ⟨c1, h2⟩ := Bool.and_eq_true_iff.mp h2
  obtain ⟨c2, h2⟩ := Bool.and_eq_true_iff.mp h2
  obtain ⟨c3, c4⟩ := Bool.and_eq_true_iff.mp h2
  exact ⟨t, ⟨t.ga, t.gg, t.eC, t.hd, He.eqO_ok c1, He.eqO_ok c2, of_decide_eq_true c3, of_decide_eq_true c4⟩, fun g hg => of_decide_eq_true (List.all_eq_true.mp h3 g hg), fun n hn => of_decide_eq_true (List.all_eq_true.mp h4 n hn), of_decide_eq_true h5⟩
def tabOf (R : List ErrR) (gs : List Str) : Str → Str → Option Bool := fun c g => if gs.contains g then (R.find? fun p => p.2.1 == c).map fun p => p.2.2.2.1.contains g else none
def tabTOf (R : List ErrR) (tys : List String) : Str → String → Option Bool := fun c n => if tys.contains n then (R.find? fun p => p.2.1 == c).map fun p => p.2.2.2.2.contains n else none
theorem isiE_of {U : Univ} {R : List ErrR} {bs gs : List Str} {tys : List String} (h : R.all (errB U.K bs gs tys) = true) (hc : ∀ p ∈ R, U.mg p.2.1 = some (.ref (He.ga U.K p.2.1))) (hg : ∀ g ∈ gs, U.mg g = some (.ref (He.ga U.K g))) :
    IsiE U (R.map fun p => p.2.1) (tabOf R gs) (tabTOf R tys) where
  cls := fun c hm => by
    obtain ⟨p, hp, rfl⟩ := List.mem_map.mp hm
    exact ⟨_, hc p hp, (errOk (List.all_eq_true.mp h p hp)).c⟩
  own := fun c hm g b e => by
    unfold tabOf at e
    split at e
    · rename_i hgs
      obtain ⟨p, e1, e2⟩ := Option.map_eq_some_iff.mp e
      have hp := List.mem_of_find?_eq_some e1
      have hpc : p.2.1 = c := by simpa using List.find?_some e1
      subst hpc
      subst e2
      have hm := List.contains_iff_mem.mp hgs
      exact ⟨_, _, hc p hp, hg g hm, (errOk (List.all_eq_true.mp h p hp)).g g hm⟩
    · cases e
  ty := fun c hm n b e => by
    unfold tabTOf at e
    split at e
    · rename_i hgs
      obtain ⟨p, e1, e2⟩ := Option.map_eq_some_iff.mp e
      have hp := List.mem_of_find?_eq_some e1
      have hpc : p.2.1 = c := by simpa using List.find?_some e1
      subst hpc
      subst e2
      exact ⟨_, hc p hp, (errOk (List.all_eq_true.mp h p hp)).n n (List.contains_iff_mem.mp hgs)⟩
    · cases e
theorem exm_of {U : Univ} {R : List ErrR} {bs gs : List Str} {tys : List String} (h : R.all (errB U.K bs gs tys) = true) (hc : ∀ p ∈ R, U.mg p.2.1 = some (.ref (He.ga U.K p.2.1))) :
    ∀ c ∈ R.map fun p => p.2.1, ∃ C, U.mg c = some (.ref C) ∧ PySem.W.exmAny U.K (.ref C) (bs.map fun x => .ref (He.ga U.K x)) = some true := fun c hm => by
  obtain ⟨p, hp, rfl⟩ := List.mem_map.mp hm
  exact ⟨_, hc p hp, (errOk (List.all_eq_true.mp h p hp)).m⟩
theorem excAt_of {U : Univ} {R : List ErrR} {bs gs : List Str} {tys : List String} (h : R.all (errB U.K bs gs tys) = true) (hc : ∀ p ∈ R, U.mg p.2.1 = some (.ref (He.ga U.K p.2.1)))
    (hi : ∀ p ∈ R, ExcIni U.K (He.ma U.K (He.ga U.K p.2.1) "__init__") p.2.2.1) : ∀ p ∈ R.map (fun p => (p.2.1, p.2.2.1)), ExcAt U p.1 p.2 := fun q hq => by
  obtain ⟨p, hp, rfl⟩ := List.mem_map.mp hq
  exact ⟨p.1, _, _, hc p hp, (errOk (List.all_eq_true.mp h p hp)).t, hi p hp⟩
end CP
namespace CP
open PySem PySem.Spec PyProof.Rows L2

/-- tuples of ints by their items -/
def ltI : List Int → List Int → Bool
  | [], [] => false
  | [], _ :: _ => true
  | _ :: _, [] => false
  | x :: r, y :: t => decide (x < y) || (!decide (y < x) && ltI r t)
theorem ltI_lex : ∀ a b : List Int, lexLt itemOrd (a.map Sum.inl) (b.map Sum.inl) = ltI a b
  | [], [] => rfl
  | [], _ :: _ => rfl
  | _ :: _, [] => rfl
  | x :: r, y :: t => by
    rw [List.map_cons, List.map_cons, lex_cons, ltI_lex r t]; rfl
theorem ltI_total (a b : List Int) (h1 : ltI a b = false) (h2 : ltI b a = false) : a = b := by
  have := lex_total (O := itemOrd) (a.map Sum.inl) (b.map Sum.inl) (by rw [ltI_lex]; exact h1) (by rw [ltI_lex]; exact h2)
  exact List.map_inj_right (fun x y e => Sum.inl.inj e) |>.mp this
theorem ltI_irr (a : List Int) : ltI a a = false := by rw [← ltI_lex]; exact lex_irrefl _
theorem ltI_trans (a b c : List Int) (h1 : ltI a b = true) (h2 : ltI b c = true) : ltI a c = true := by
  rw [← ltI_lex] at *
  exact lex_trans _ _ _ h1 h2
theorem ltI_neg (a b c : List Int) (h : ltI a c = true) : ltI a b = true ∨ ltI b c = true := by
  rw [← ltI_lex] at *
  rw [← ltI_lex]
  exact lex_negTrans _ _ _ h
def sortT (nss : List (List Int)) : List (List Int) := nss.mergeSort fun a b => !ltI b a
theorem sortT_pw (nss : List (List Int)) : (sortT nss).Pairwise fun a b => ltI b a = false := by
  have := List.pairwise_mergeSort (le := fun a b => !ltI b a) (fun a b c h1 h2 => by
    simp only [Bool.not_eq_true'] at *
    cases h : ltI c a with
    | false => rfl
    | true => rcases ltI_neg c b a h with z | z <;> simp_all) (fun a b => by
    simp only [Bool.or_eq_true, Bool.not_eq_true']
    cases h : ltI b a with
    | false => exact .inl rfl
    | true =>
      cases h2 : ltI a b with
      | false => exact .inr rfl
      | true => have := ltI_trans _ _ _ h h2; rw [ltI_irr] at this; cases this) nss
  exact this.imp fun h => by simpa using h
theorem sortT_perm (nss : List (List Int)) : (sortT nss).Perm nss := List.mergeSort_perm _ _
theorem sortT_eq {nss ms : List (List Int)} (h : ms.Perm nss) (p : ms.Pairwise fun a b => ltI b a = false) : ms = sortT nss :=
  List.Perm.eq_of_pairwise (le := fun a b => ltI b a = false) (fun a b _ _ h1 h2 => ltI_total a b h2 h1) p (sortT_pw nss) (h.trans (sortT_perm nss).symm)
theorem sortT_same {a b : List (List Int)} (h : a.Perm b) : sortT a = sortT b := sortT_eq ((sortT_perm a).trans h) (sortT_pw a)

theorem tupItems_ints : ∀ {ns : List Int} {us : List Value} (i : Nat), Vals (ns.map V.int) us → tupItems (fun _ => false) i us = some (ns.map Sum.inl)
  | [], us, i, r => by cases r; rfl
  | n :: ns, us, i, r => by
    cases r with
    | cons r t =>
      obtain ⟨k, rfl⟩ := r
      show (if (false = true) then none else (tupItems (fun _ => false) (i + 1) _).map (Sum.inl n :: ·)) = _
      rw [if_neg (by decide), tupItems_ints (i + 1) t]; rfl
section
variable {prog : Program} {w : World} {A : Around} {E : Value → Shared → Prop} {s : Shared}
/-- the values of a list that is to be sorted: tuples of ints, not empty -/
def TupI (h : Heap) (k : Value → List Int) (v : Value) : Prop := ∃ (a : Addr) (o : Obj) (us : List Value) (n : Nat), v = .ref a ∧ h.get? a = some o ∧ o.cls = .type "tuple" ∧ o.data = .seq us.toArray n ∧ Vals ((k v).map V.int) us ∧ k v ≠ []
theorem TupI.key {h : Heap} {k : Value → List Int} {v : Value} (t : TupI h k v) : G.tupKeyC h (fun _ => false) v = some ((k v).map Sum.inl) := by
  obtain ⟨a, o, us, n, rfl, ho, hc, hd, hv, _⟩ := t
  unfold G.tupKeyC
  have e1 : G.isTupObj h (.ref a) = true := by simp [G.isTupObj, ho, hc]
  rw [if_pos e1]
  simp only [tupKey, ho, hd]
  exact tupItems_ints 0 hv
theorem TupI.one {h : Heap} {k : Value → List Int} {v : Value} (t : TupI h k v) : ∃ f, TupOf h (fun _ => false) v f := by
  obtain ⟨a, o, us, n, rfl, ho, hc, hd, hv, hne⟩ := t
  generalize hk : k (.ref a) = ns at hv hne
  cases ns with
  | nil => exact absurd rfl hne
  | cons i r =>
    cases hv with
    | cons r1 t1 =>
      obtain ⟨tk, rfl⟩ := r1
      exact ⟨.int i tk, a, o, _, n, rfl, ho, hc, hd, rfl, fun _ => ⟨_, _, rfl⟩, fun z => nomatch z⟩
theorem tupsOf {h : Heap} {k : Value → List Int} : ∀ vs : List Value, (∀ v ∈ vs, TupI h k v) → ∃ fs, TupsOf h (fun _ => false) vs fs
  | [], _ => ⟨[], .nil⟩
  | v :: vs, H => by
    obtain ⟨f, hf⟩ := (H v List.mem_cons_self).one
    obtain ⟨fs, hfs⟩ := tupsOf vs fun u hu => H u (List.mem_cons_of_mem _ hu)
    exact ⟨f :: fs, .cons hf hfs⟩
/-- what is sorted is so by its keys -/
theorem sorted_keys {h : Heap} {k : Value → List Int} {vs : List Value} {arr : Array Keyed} (H : ∀ v ∈ vs, TupI h k v) (hp : arr.Perm (pairsOf vs)) (hs : SortedToK (G.tupKindC h (fun _ => false)) arr (pairsOf vs).size) :
    (arr.map (·.2)).toList.Perm vs ∧ (arr.map (·.2)).toList.Pairwise fun a b => ltI (k b) (k a) = false := by
  have hp' : arr.toList.Perm (vs.zip vs) := by
    have e := Array.perm_iff_toList_perm.mp hp
    rw [pairsOf_toList] at e; exact e
  have hmap : (vs.zip vs).map (·.2) = vs := by
    have := List.map_snd_zip (l₁ := vs) (l₂ := vs) (Nat.le_refl _)
    exact this
  have hsame : ∀ p ∈ arr.toList, p.1 = p.2 ∧ p.2 ∈ vs := fun p hm => by
    have := hp'.mem_iff.mp hm
    obtain ⟨e, m⟩ := mem_zip_self this
    exact ⟨e, e ▸ m⟩
  rw [Array.toList_map]
  refine ⟨by have := hp'.map (·.2); rw [hmap] at this; exact this, ?_⟩
  refine List.pairwise_map.mpr (List.pairwise_iff_getElem.mpr fun i j hi hj hij => ?_)
  have hsz : (pairsOf vs).size = arr.toList.length := by rw [pairsOf_size]; have := hp'.length_eq; simp at this; simpa using this.symm
  have e := hs i j (by omega) (by rw [hsz]; exact hj)
  have kk : ∀ (m : Nat) (hm : m < arr.toList.length), KK (G.tupKindC h (fun _ => false)) arr m = (k (arr.toList[m]).2).map Sum.inl := fun m hm => by
    have e0 : arr[m]? = some (arr.toList[m]) := by rw [← Array.getElem?_toList, List.getElem?_eq_getElem hm]
    obtain ⟨h1, h2⟩ := hsame _ (List.getElem_mem hm)
    unfold KK
    rw [e0]
    show (G.tupKeyC h (fun _ => false) (arr.toList[m]).1).getD [] = _
    rw [h1, (H _ h2).key]; rfl
  rw [kk i hi, kk j hj] at e
  have e' : lexLt itemOrd ((k (arr.toList[j]).2).map Sum.inl) ((k (arr.toList[i]).2).map Sum.inl) = false := e
  rw [ltI_lex] at e'
  exact e'
theorem sortedTupsL {l : Addr} {vs : List Value} {k : Value → List Int} {Q : Value → Shared → Prop} (hl : s.heap.IsList l vs.toArray) (H : ∀ v ∈ vs, TupI s.heap k v) (hL : vs.length ≤ sizeLine)
    (q : ∀ out : Array Value, out.toList.Perm vs → (out.toList.Pairwise fun a b => ltI (k b) (k a) = false) → Q (.ref (s.heap.objs.size + 1)) { s with heap := sortedAll s.heap vs out }) :
    wpAny (model prog w) A (call (.builtin "sorted") [.ref l]) Q E s := by
  obtain ⟨fs, ht⟩ := tupsOf vs H
  exact G.sorted_tups hl ht (fun v hv => ⟨_, (H v hv).key⟩) hL fun st' hp hs _ => by
    obtain ⟨h1, h2⟩ := sorted_keys H hp hs
    exact q _ h1 h2
theorem TupI.keep {h h' : Heap} {k : Value → List Int} {v : Value} (kt : G.KeepsTups h h') (t : TupI h k v) : TupI h' k v := by
  obtain ⟨a, o, us, n, e, ho, hc, hd, hv, hne⟩ := t
  exact ⟨a, o, us, n, e, kt a o ho hc, hc, hd, hv, hne⟩
theorem sortedTupsT {t : Addr} {vs : List Value} {k : Value → List Int} {Q : Value → Shared → Prop} (it : IsTup s.heap t vs.toArray) (H : ∀ v ∈ vs, TupI s.heap k v) (hL : vs.length ≤ sizeLine)
    (q : ∀ out : Array Value, out.toList.Perm vs → (out.toList.Pairwise fun a b => ltI (k b) (k a) = false) → Q (.ref (s.heap.objs.size + 1)) { s with heap := sortedAll s.heap vs out }) :
    wpAny (model prog w) A (call (.builtin "sorted") [.ref t]) Q E s := by
  have grown : ((s.heap.push (seqObj "list" #[] 0)).update s.heap.objs.size (Obj.mapSeq (· ++ vs.toArray))).objs.size = s.heap.objs.size + 1 := by rw [Heap.size_update, size_push']
  refine Calls.call_function_entry kind_sorted plain_sorted entry_sorted (args_sorted1 _) ?_
  unfold Builtin.«sorted»
  refine wpAny_bind (m := checkCount "sorted" 1 1 _) (wpAny_pure (wpAny_bind (collectTup it hL (wpAny_bind (wpAny_newList ?_)))))
  have made : (((s.heap.push (seqObj "list" #[] 0)).update s.heap.objs.size (Obj.mapSeq (· ++ vs.toArray))).push (seqObj "list" vs.toArray 0)).get? (s.heap.objs.size + 1) = some (seqObj "list" vs.toArray 0) := grown ▸ Heap.get?_push_size _ rfl
  show wpAny _ _ _ _ _ { s with heap := ((s.heap.push (seqObj "list" #[] 0)).update s.heap.objs.size (Obj.mapSeq (· ++ vs.toArray))).push (seqObj "list" vs.toArray 0) }
  have hnew : (s.heap.push (seqObj "list" #[] 0)).get? s.heap.objs.size = some (seqObj "list" #[] 0) := Heap.get?_push_size _ rfl
  have k0 : G.KeepsTups s.heap (((s.heap.push (seqObj "list" #[] 0)).update s.heap.objs.size (Obj.mapSeq (· ++ vs.toArray))).push (seqObj "list" vs.toArray 0)) :=
    ((G.KeepsTups.push _ _).trans (G.KeepsTups.update _ hnew G.not_tuple_list)).trans (G.KeepsTups.push _ _)
  have H2 := fun v hv => (H v hv).keep k0
  obtain ⟨fs, ht⟩ := tupsOf vs H2
  rw [grown]
  refine wpAny_bind (wpAny_holding (wpAny_call_entry slot_list_sort ⟨_, made, rfl⟩ entry_list_sort (G.list_sort_tups (s := { s with heap := ((s.heap.push (seqObj "list" #[] 0)).update s.heap.objs.size (Obj.mapSeq (· ++ vs.toArray))).push (seqObj "list" vs.toArray 0) }) made ht (fun v hv => ⟨_, (H2 v hv).key⟩) hL fun st' hp hs _ => ⟨_, rfl, ?retG⟩) (args_list_sort _)))
  case retG =>
    obtain ⟨h1, h2⟩ := sorted_keys H2 hp hs
    exact wpAny_pure ⟨_, rfl, q _ h1 h2⟩
end

def rSortedT (K : PySem.W.Frag) : List V → Hp → VK → Prop := fun vs H Q => ∃ (a : Addr) (xs : List V) (k : V → List Int), vs = [V.ref a] ∧ (SqL K H a xs ∨ SqT K H a xs) ∧ (∀ x ∈ xs, ∃ t, x = V.ref t ∧ H t = some (.tup ((k x).map V.int)) ∧ k x ≠ []) ∧
  ∀ ys p, ys.Perm xs → (ys.Pairwise fun x y => ltI (k y) (k x) = false) → H p = none → Q (.ref p) (upd H p (.lst ys))
section
variable {X : Cx}
theorem cr_sortedT : CallR X (.builtin "sorted") (rSortedT X.K) := by
  intro pins s σ H vs us Q I r h
  obtain ⟨a, xs, k, rfl, hs, hx, q⟩ := h
  obtain ⟨u, rfl, ru⟩ := vals1 r
  obtain rfl : u = Value.ref a := ru
  have key : ∀ its : List Value, Vals xs its → xs.length ≤ sizeLine → (∀ v ∈ its, TupI s.heap (fun v => k (backV v)) v) ∧ its.length ≤ sizeLine ∧
      ∀ out : Array Value, out.toList.Perm its → (out.toList.Pairwise fun a b => ltI (k (backV b)) (k (backV a)) = false) →
        ∃ v' H', Inv X pins σ H' { s with heap := sortedAll s.heap its out } ∧ RelV v' (.ref (s.heap.objs.size + 1)) ∧ Q v' H' := by
    intro its rv hz
    obtain ⟨e1, e2⟩ := refs_back rv fun x m => by
      obtain ⟨t, e, _⟩ := hx x m
      exact ⟨t, e⟩
    refine ⟨fun v hv => ?_, by rw [← rv.length]; exact hz, fun out h1 h2 => ?_⟩
    · obtain ⟨t, rfl⟩ := e2 v hv
      have hm : V.ref t ∈ xs := by rw [e1]; exact List.mem_map.mpr ⟨_, hv, rfl⟩
      obtain ⟨t', e, ht, hne⟩ := hx _ hm
      cases e
      obtain ⟨_, its2, r2, o, ho, hc, n, hd⟩ := I.hok _ _ ht
      exact ⟨t, o, its2, n, rfl, ho, hc, hd, r2, hne⟩
    · have h3 : ∀ u ∈ out.toList, ∃ a, u = Value.ref a := fun u hu => e2 u (h1.mem_iff.mp hu)
      obtain ⟨ep, at2⟩ := PyProof.Rows.sortedAll_at s.heap its out
      have hperm : (out.toList.map backV).Perm xs := by rw [e1]; exact h1.map backV
      exact ⟨.ref _, upd H (s.heap.objs.size + 1) (.lst (out.toList.map backV)), I.laid (t' := s.toks) (fun _ _ => PyProof.Rows.sortedAll_old) (Nat.le_succ _) ⟨by rw [hperm.length_eq]; exact hz, out.toList, ep, vals_back h3, at2⟩, rfl,
        q _ _ hperm (List.pairwise_map.mpr h2) (I.hok.fresh (Nat.le_succ _))⟩
  rcases hs with hs | hs
  · obtain ⟨its, rv, hl, hz⟩ := I.list hs
    obtain ⟨k1, k2, k3⟩ := key its rv hz
    exact sortedTupsL (k := fun v => k (backV v)) hl.isList k1 k2 k3
  · obtain ⟨its, rv, it, hz⟩ := I.tuple hs
    obtain ⟨k1, k2, k3⟩ := key its rv hz
    exact sortedTupsT (k := fun v => k (backV v)) it k1 k2 k3
end
/-- all tuples of ints, not empty -/
def tupsI : List D → Option (List (List Int))
  | [] => some []
  | .tup l :: r => match intsOf l, tupsI r with
    | some (n :: ns), some t => some ((n :: ns) :: t)
    | _, _ => none
  | _ => none
def tpI (ns : List Int) : D := .tup (ns.map D.int)
theorem tupsI_eq : ∀ {ds : List D} {nss : List (List Int)}, tupsI ds = some nss → ds = nss.map tpI ∧ ∀ ns ∈ nss, ns ≠ []
  | [], _, e => by cases e; exact ⟨rfl, by simp⟩
  | d :: r, nss, e => by
    cases d with
    | tup l =>
      unfold tupsI at e
      split at e
      · rename_i n ns t h1 h2
        cases e
        obtain ⟨i1, i2⟩ := tupsI_eq h2
        refine ⟨?_, ?_⟩
        · rw [List.map_cons, ← i1, intsOf_eq h1]; rfl
        · intro m hm
          rcases List.mem_cons.mp hm with rfl | hm
          · exact List.cons_ne_nil _ _
          · exact i2 m hm
      · cases e
    | _ => cases e
@[simp] theorem tupsI_map : ∀ {nss : List (List Int)}, (∀ ns ∈ nss, ns ≠ []) → tupsI (nss.map tpI) = some nss
  | [], _ => rfl
  | [] :: _, h => absurd rfl (h [] List.mem_cons_self)
  | (n :: ns) :: r, h => by
    show (match intsOf ((n :: ns).map D.int), tupsI (r.map tpI) with
      | some (n :: ns), some t => some ((n :: ns) :: t)
      | _, _ => none) = _
    rw [intsOf_map, tupsI_map fun m hm => h m (List.mem_cons_of_mem _ hm)]
/-- sorted(xs): .. or tuples of ints -/
def dSortedX : FN := fun ds O => match dSorted ds O with
  | some d => some d
  | none => match ds with
    | [x] => (match tupsI ((seqR x O).getD [.non]) with
      | some nss => some (.lst ((sortT nss).map tpI))
      | none => none)
    | _ => none
section
variable {U : Univ} {ad : List Addr} {H : Hp}
theorem reps_tups : ∀ {nss : List (List Int)} {xs : List V}, Reps U ad H (nss.map tpI) xs → ∃ k : V → List Int, xs.map k = nss ∧ ∀ x ∈ xs, ∃ t, x = V.ref t ∧ H t = some (.tup ((k x).map V.int)) ∧ t ∉ ad
  | [], xs, h => by cases h; exact ⟨fun _ => [], rfl, by simp⟩
  | ns :: nss, xs, h => by
    have all : ∀ {nss : List (List Int)} {xs : List V}, Reps U ad H (nss.map tpI) xs → ∀ x ∈ xs, ∃ (t : Addr) (ns : List Int), x = V.ref t ∧ H t = some (.tup (ns.map V.int)) ∧ t ∉ ad := by
      intro nss
      induction nss with
      | nil => intro xs h x hx; cases h; cases hx
      | cons ns nss ih =>
        intro xs h x hx
        obtain ⟨v, r, rfl, q, t⟩ := h
        rcases List.mem_cons.mp hx with rfl | hx
        · obtain ⟨a, ys, rfl, f, n, p⟩ := q
          have := reps_ints p (ns := ns) rfl
          subst this
          exact ⟨a, ns, rfl, f, n⟩
        · exact ih t x hx
    refine ⟨fun v => match v with
      | .ref t => (match H t with
        | some (.tup ys) => ys.map fun y => match y with | .int i => i | _ => 0
        | _ => [])
      | _ => [], ?_, ?_⟩
    · clear all
      revert xs
      induction (ns :: nss) with
      | nil => intro xs h; cases h; rfl
      | cons ms mss ih =>
        intro xs h
        obtain ⟨v, r, rfl, q, t⟩ := h
        obtain ⟨a, ys, rfl, f, n, p⟩ := q
        have := reps_ints p (ns := ms) rfl
        subst this
        rw [List.map_cons, ih (xs := r) t]
        have e : ((ms.map V.int).map fun y => match y with | .int i => i | _ => (0 : Int)) = ms := by
          rw [List.map_map]
          exact (List.map_congr_left fun _ _ => rfl).trans (List.map_id _)
        simp only [f, e]
    · intro x hx
      obtain ⟨t, ms, rfl, f, n⟩ := all h x hx
      have e : ((ms.map V.int).map fun y => match y with | .int i => i | _ => (0 : Int)) = ms := by
        rw [List.map_map]
        exact (List.map_congr_left fun _ _ => rfl).trans (List.map_id _)
      refine ⟨t, rfl, ?_, n⟩
      simp only [f, e]
theorem reps_of_tups {k : V → List Int} : ∀ {ys : List V}, (∀ x ∈ ys, ∃ t, x = V.ref t ∧ H t = some (.tup ((k x).map V.int)) ∧ t ∉ ad) → Reps U ad H ((ys.map k).map tpI) ys
  | [], _ => rfl
  | y :: ys, h => by
    obtain ⟨t, rfl, f, n⟩ := h y List.mem_cons_self
    exact ⟨_, _, rfl, ⟨t, _, rfl, f, n, reps_of_ints _⟩, reps_of_tups fun x hx => h x (List.mem_cons_of_mem _ hx)⟩
end
section
variable {U : Univ}
theorem opSortedX : OpN U (.builtin "sorted") dSortedX := by
  intro X W c k hh C
  obtain ⟨r1, hr1, hq1⟩ := opSorted (U := U) X W c k hh C
  obtain ⟨_, eu⟩ := C.u
  subst eu
  refine ⟨_, CallR.or hr1 cr_sortedT, ?_⟩
  intro ds xs ad O H d Q S r e q
  unfold dSortedX at e
  split at e
  · rename_i d' e1
    cases e
    exact .inl (hq1 ds xs ad O H d Q S r e1 q)
  · split at e
    · rename_i x _
      split at e
      · rename_i nss e1
        cases e
        obtain ⟨v, rfl, rv⟩ := reps1 r
        cases e2 : seqR x O with
        | none => rw [e2] at e1; cases e1
        | some l =>
          rw [e2] at e1
          obtain ⟨el, hne⟩ := tupsI_eq e1
          subst el
          obtain ⟨a, ys, rfl, hsq, t⟩ := seqR_at S rv e2
          obtain ⟨k, hk, hx⟩ := reps_tups t
          have hkne : ∀ x ∈ ys, k x ≠ [] := fun x hx => hne _ (by rw [← hk]; exact List.mem_map.mpr ⟨x, hx, rfl⟩)
          refine .inr ⟨a, ys, k, rfl, hsq, fun x hm => ?_, fun zs p h1 h2 hp => ?_⟩
          · obtain ⟨t, e1, e2, _⟩ := hx x hm
            exact ⟨t, e1, e2, hkne x hm⟩
          · have e3 : zs.map k = sortT nss := sortT_eq (by rw [← hk]; exact h1.map k) (List.pairwise_map.mpr h2)
            rw [← e3] at q
            have hz : ∀ x ∈ zs, ∃ t, x = V.ref t ∧ H t = some (.tup ((k x).map V.int)) ∧ t ∉ ad := fun x hm => hx x (h1.mem_iff.mp hm)
            exact q _ _ (.new hp (S.out hp)) (S.new hp) (rep_lst S hp (reps_of_tups hz))
      · cases e
    · cases e
end
end CP
namespace CP
open PySem PySem.Spec PyProof.Rows L2

section
variable {U : Univ} {c : Cs} {k : Nat} {pos : Pos} {ad : List Addr} {O : Store} {H : Hp}
theorem sDic0 : SE U c k (.Dict [] [] pos) (eC (.dic false [] [])) := by
  intro X W C
  refine ⟨_, pe_dnewK, fun ad O H σ sv Q S r h p hp => ?_⟩
  exact h ad _ _ (.new hp (S.out hp)) (S.new hp) ⟨p, rfl, S.out hp, [], upd_same, rfl, rfl⟩
/-- {"x": i} -/
theorem sDic1 {x : Str} {i : Int} {j1 j2 : Nat} {p1 p2 : Pos} : SE U c k (.Dict [some (.Constant (.str x) j1 p1)] [.Constant (.int i) j2 p2] pos) (eC (.dic false [.str x] [.int i])) := by
  intro X W C
  refine ⟨_, pe_disp (pps_cons pe_str pe_int pps_nil) (by rfl) (by rfl) (fun z => by cases z) (by show 1 ≤ 15; omega), fun ad O H σ sv Q S r h p hp => ?_⟩
  refine ⟨upd_same, [(Sum.inr x, .int i)], rfl, (by show 1 ≤ 15; omega), ?_⟩
  have e : upd (upd H p (.dK [])) p (.dK (mergeK [] [(Sum.inr x, .int i)])) = upd H p (.dK [(Sum.inr x, .int i)]) := by
    funext a
    by_cases ha : a = p
    · subst ha; rw [upd_same, upd_same]; rfl
    · rw [upd_ne ha, upd_ne ha, upd_ne ha]
  rw [e]
  exact h ad _ _ (.new hp (S.out hp)) (S.new hp) ⟨p, rfl, S.out hp, [(Sum.inr x, .int i)], upd_same, rfl, ⟨_, _, rfl, rfl, rfl⟩⟩
/-- a dict that will change: a thing of the store; by tuples if t -/
def mkDic (t : Bool) : DE := fun _ O => .ok (.ptr O.length) (O ++ [.dic t [] []])
theorem rep_at_end {p : Addr} (S : Sim U ad O H) {H' : Hp} : Rep U (ad ++ [p]) H' (.ptr O.length) (.ref p) := by
  refine ⟨p, rfl, ?_⟩
  rw [← S.len, List.getElem?_append_right (Nat.le_refl _), Nat.sub_self]; rfl
theorem sDicM0 : SE U c k (.Dict [] [] pos) (mkDic false) := by
  intro X W C
  refine ⟨_, pe_dnewK, fun ad O H σ sv Q S r h p hp => ?_⟩
  exact h (ad ++ [p]) _ _ (.alloc hp) (S.alloc hp ⟨[], upd_same, rfl, rfl⟩) (rep_at_end S)
theorem sDicMT0 : SE U c k (.Dict [] [] pos) (mkDic true) := by
  intro X W C
  refine ⟨_, pe_dnewT, fun ad O H σ sv Q S r h p hp => ?_⟩
  exact h (ad ++ [p]) _ _ (.alloc hp) (S.alloc hp ⟨[], upd_same, rfl, rfl⟩) (rep_at_end S)
end

def flatPy : D → Option PyData
  | .non => some .none
  | .bl b => some (.bool b)
  | .int i => some (.int i)
  | .str x => some (.str x)
  | _ => none
def dicPy : List D → List D → Option (List (PyData × PyData))
  | [], [] => some []
  | .int i :: ks, v :: vs => (match flatPy v, dicPy ks vs with | some p, some r => some ((.int i, p) :: r) | _, _ => none)
  | .str x :: ks, v :: vs => (match flatPy v, dicPy ks vs with | some p, some r => some ((.str x, p) :: r) | _, _ => none)
  | _, _ => none
def dReprX : FN := fun ds O => match ds with
  | [.dic false ks vs] => (match dicPy ks vs with
    | some kvs => if (PyData.dict kvs).showable && decide ((PyData.dict kvs).depth ≤ 64) && decide ((PyData.dict kvs).shown.length ≤ sizeLine) then some (.str (PyData.dict kvs).shown) else none
    | none => none)
  | ds => dRepr ds O
inductive Fl0 : V → PyData → Prop
  | non : Fl0 .non .none
  | bl (b : Bool) : Fl0 (.bl b) (.bool b)
  | int (i : Int) : Fl0 (.int i) (.int i)
  | str (x : Str) : Fl0 (.str x) (.str x)
theorem Fl0.reads {h : Heap} {v : V} {u : Value} {d : PyData} (f : Fl0 v d) (r : RelV v u) : Reads h u d [] := by
  cases f with
  | non => cases r; exact .none
  | bl b => cases r; exact .bool b
  | int i => obtain ⟨t, rfl⟩ := r; exact .int i t
  | str x => obtain ⟨t, rfl⟩ := r; exact .str x t
def kPy : Key → PyData
  | .inl i => .int i
  | .inr x => .str x
theorem key_reads {h : Heap} {k : Key} {u : Value} (e : keyIs k u = true) : Reads h u (kPy k) [] := by
  rcases keyIs_shape e with ⟨i, t, rfl, rfl⟩ | ⟨x, t, rfl, rfl⟩
  · exact .int i t
  · exact .str x t
inductive KFl : List (Key × V) → List (PyData × PyData) → Prop
  | nil : KFl [] []
  | cons {k : Key} {v : V} {p : PyData} {r : List (Key × V)} {t : List (PyData × PyData)} : Fl0 v p → KFl r t → KFl ((k, v) :: r) ((kPy k, p) :: t)
theorem dict_reads {P : Program} {w : World} {h : Heap} : ∀ {kvs : List (Key × V)} {ps : List (PyData × PyData)} {us : List (Key × Value)} {es : List DictEntry}, KFl kvs ps → KV kvs us → Pairs (mixKind P w) es us →
    ReadsAll h (es.map (·.key)) (ps.map (·.1)) [] ∧ ReadsAll h (es.map (·.val)) (ps.map (·.2)) []
  | _, _, _, _, .nil, .nil, .nil => ⟨.nil, .nil⟩
  | _, _, _, _, .cons f t, .cons r rs, .cons e1 e2 q => by
    obtain ⟨h1, h2⟩ := dict_reads (h := h) t rs q
    have hr := r.2
    rw [← e2] at hr
    refine ⟨ReadsAll.cons (as := []) (bs := []) ?_ h1, ReadsAll.cons (as := []) (bs := []) (f.reads hr) h2⟩
    have hk := key_reads (h := h) e1
    rw [← r.1] at hk
    exact hk
section
variable {X : Cx}
theorem call_repr_dic (hg : X.A.guards = some []) (hu : X.A.units + 66 < cLine) : CallR X (.builtin "repr") (fun xs H Q => ∃ a kvs ps, xs = [.ref a] ∧ H a = some (.dK kvs) ∧ KFl kvs ps ∧ (PyData.dict ps).showable = true ∧ (PyData.dict ps).depth ≤ 64 ∧ (PyData.dict ps).shown.length ≤ sizeLine ∧ Q (.str (PyData.dict ps).shown) H) := by
  intro pins s σ H xs us Q I r h
  obtain ⟨a, kvs, ps, rfl, hd, hf, hs, hdp, hz, q⟩ := h
  obtain ⟨u, rfl, ru⟩ := vals1 r
  obtain rfl : u = Value.ref a := ru
  obtain ⟨_, hne, vs, rel, o, es, ep, ho, hc, hdat, _, hp, _⟩ := dk_of I.hok hd
  obtain ⟨r1, r2⟩ := dict_reads (h := s.heap) hf rel hp
  have rd : Reads s.heap (.ref a) (.dict ps) (a :: [] ++ []) := .dict ho hc.1 hdat r1 r2
  refine repr_of_reads' rd hs (fun _ => ?_) hg (by omega) (fun _ _ e => e) (fun h' u' tk hk => ⟨.str _, H, I.kept hk, ⟨u', rfl⟩, q⟩) hz
  intro hm
  have : sysModules = a := by simpa using hm
  subst this
  simp at hne
end
theorem dicPy_kfl {U : Univ} {ad : List Addr} {H : Hp} : ∀ {kvs : List (Key × V)} {vs : List D} {ps : List (PyData × PyData)}, Reps U ad H vs (kvs.map (·.2)) → dicPy (kvs.map fun p => kD p.1) vs = some ps → KFl kvs ps
  | [], vs, ps, h, e => by
    have : vs = [] := List.eq_nil_of_length_eq_zero (by have := h.length; simpa using this)
    subst this
    cases e; exact .nil
  | (k, y) :: kvs, vs, ps, h, e => by
    cases vs with
    | nil => exact absurd h.length (by simp)
    | cons d vs =>
      obtain ⟨v, r, e0, q, t⟩ := h
      simp only [List.map_cons, List.cons.injEq] at e0
      obtain ⟨rfl, rfl⟩ := e0
      have key : ∃ p ps', flatPy d = some p ∧ dicPy (kvs.map fun p => kD p.1) vs = some ps' ∧ ps = (kPy k, p) :: ps' := by
        cases k with
        | inl i =>
          have e' : (match flatPy d, dicPy (kvs.map fun p => kD p.1) vs with | some p, some r => some ((PyData.int i, p) :: r) | _, _ => none) = some ps := e
          split at e'
          · rename_i p r h1 h2; cases e'; exact ⟨p, r, h1, h2, rfl⟩
          · cases e'
        | inr x =>
          have e' : (match flatPy d, dicPy (kvs.map fun p => kD p.1) vs with | some p, some r => some ((PyData.str x, p) :: r) | _, _ => none) = some ps := e
          split at e'
          · rename_i p r h1 h2; cases e'; exact ⟨p, r, h1, h2, rfl⟩
          · cases e'
      obtain ⟨p, ps', h1, h2, rfl⟩ := key
      refine .cons ?_ (dicPy_kfl t h2)
      cases d with
      | non => cases h1; cases q; exact .non
      | bl b => cases h1; cases q; exact .bl b
      | int i => cases h1; cases q; exact .int i
      | str x => cases h1; cases q; exact .str x
      | _ => cases h1
theorem opReprXH {U : Univ} : OpNH U (.builtin "repr") dReprX := by
  intro X W c k C
  obtain ⟨r1, hr1, hq1⟩ := opReprH (U := U) X W c k C
  obtain ⟨_, eu⟩ := C.u
  subst eu
  refine ⟨_, CallR.or hr1 (call_repr_dic C.gd (by have := C.room.un; omega)), ?_⟩
  intro ds xs ad O H d Q S r e q
  unfold dReprX at e
  split at e
  · rename_i ks vs
    split at e
    · rename_i ps e1
      split at e
      · rename_i hs
        cases e
        simp only [Bool.and_eq_true, decide_eq_true_eq] at hs
        obtain ⟨⟨h1, h2⟩, h3⟩ := hs
        obtain ⟨v, rfl, a, rfl, n, kvs, hd, rfl, t⟩ := reps1 r
        exact .inr ⟨a, kvs, ps, rfl, hd, dicPy_kfl t e1, h1, h2, h3, q _ _ .refl S rfl⟩
      · cases e
    · cases e
  · exact .inl (hq1 _ xs ad O H d Q S r e q)
theorem opReprX {U : Univ} : OpN U (.builtin "repr") dReprX := opReprXH.calm

abbrev FTab := List (Str × Nat × DF)
def fLook : FTab → Str → Option (Nat × DF)
  | [], _ => none
  | (y, q) :: r, x => if y = x then some q else fLook r x
inductive TabOk (U : Univ) (k : Nat) : FTab → Prop
  | nil : TabOk U k []
  | cons {x : Str} {j : Nat} {ps : List Str} {m : DF} {r : FTab} : DefAt U x j ps m → j ≤ k → TabOk U k r → TabOk U k ((x, ps.length, m) :: r)
theorem TabOk.at {U : Univ} {k : Nat} {tab : FTab} {x : Str} {n : Nat} {m : DF} (T : TabOk U k tab) (e : fLook tab x = some (n, m)) : ∃ j ps, n = ps.length ∧ j ≤ k ∧ DefAt U x j ps m := by
  induction T with
  | nil => cases e
  | cons F hj t ih =>
    unfold fLook at e
    split at e
    · rename_i hxy
      subst hxy
      cases e
      exact ⟨_, _, rfl, hj, F⟩
    · exact ih e
def eCallV (tab : FTab) (i : Nat) (ms : DA) : DE := fun σ O => match σ[i]? with
  | some (some (.glo x)) => (match fLook tab x with
    | some (n, m) => (ms σ O).bind fun ds O1 => if ds.length = n then m ds O1 else .stuck
    | none => .stuck)
  | _ => .stuck
theorem relV_ref {v : V} {f : Addr} (h : RelV v (.ref f)) : v = .ref f := by
  cases v with
  | ref a => cases h; rfl
  | _ => first | (obtain ⟨_, e⟩ := h; cases e) | cases h | exact h.elim
section
variable {U : Univ} {c : Cs} {k : Nat} {x : Str} {p pos : Pos} {e : Expr} {es : List Expr} {ms : DA} {tab : FTab}
theorem wCallV (i : Nat) (h : vB c i x = true) (F : TabOk U k tab) (ha : SA U c k (e :: es) ms)
    (he : ∀ env, starEach (e :: es) env = (false, eval e env) :: starEach es env := by intro _; rfl) (hpl : ∀ env, (backTo pos (starEach es env)).any (·.1) = false := by intro _; rfl) (hh : c.hot = false := by rfl) :
    SE U c k (.Call (.Name x p) (e :: es) [] pos) (eCallV tab i ms) := by
  obtain ⟨h1, h⟩ := Bool.and_eq_true_iff.mp h
  obtain ⟨h2, h⟩ := Bool.and_eq_true_iff.mp h
  obtain ⟨h3, h4⟩ := Bool.and_eq_true_iff.mp h
  have hv : Vis c.sc x := by
    rcases Bool.or_eq_true_iff.mp h2 with h2 | h2
    · rcases Bool.or_eq_true_iff.mp h2 with h2 | h2
      · exact .inl (lo_of h2)
      · exact .inr (.inl (ce_of h2))
    · exact .inr (.inr (fr_of h2))
  intro X W C
  obtain ⟨t, pa, fa⟩ := ha X W C
  refine ⟨fun sv H Q => ∃ f fd ps j m, sv[i]? = some (some (.ref f)) ∧ j ≤ k ∧ PySem.W.keepIn U.K (.ref f) = true ∧ Binds U.K fd ps [] ∧ SF U j f fd ps m ∧ t sv H fun vs H1 => ∃ ad O ds, Sim U ad O H1 ∧ Reps U ad H1 ds vs ∧ ds.length = ps.length ∧ Post U ad H1 Q (fun cl d H' => W cl d sv H') (m ds O), ⟨fun pins s sv H Q I h => ?_⟩, ?_⟩
  · obtain ⟨f, fd, ps, j, m, hs, hj, hk, hb, hF, ht⟩ := h
    obtain ⟨_, eu⟩ := C.u
    refine wpAny_Call_Name_kw (thn ((pe_var (pos := p) (X := X) (i := i) (by rw [C.n]; exact of_decide_eq_true h1) (by rw [C.s]; exact hv) (not_t h3) (not_t h4)).run pins s sv H (fun v H1 => v = .ref f ∧ H1 = H) I ⟨.ref f, hs, rfl, rfl⟩) fun u s1 ⟨v, H1, I1, r1, q1⟩ => ?_)
    obtain ⟨rfl, rfl⟩ := q1
    cases r1
    refine PySem.W.callWith_K (h₀ := X.base) I.ok.mod.kin (by subst eu; exact hk) (thn (pa.run pos pins s1 sv _ _ I1 ht) fun us s2 ⟨vs, H2, I2, r, ad, O, ds, S, rd, hl, hp⟩ => ⟨I2.kIn, ?_⟩) (he _) (hpl _)
    exact callAt' C hh hF hj hb I2 r S rd hl hp
  · intro ad O H σ sv Q S rr h
    unfold eCallV at h
    split at h
    · rename_i y e0
      split at h
      · rename_i n m e1
        obtain ⟨j, ps, rfl, hj, D⟩ := F.at e1
        obtain ⟨f, fd, hm, hk, hb, hF⟩ := D.ex
        obtain ⟨v, hsv, u, hu, rv⟩ := rr.at_ i _ e0
        rw [hm] at hu
        cases hu
        have := relV_ref rv
        subst this
        refine ⟨f, fd, ps, j, m, hsv, hj, hk, hb, hF, fa ad O H σ sv _ S rr (PostL.mono (PostL.bind h) ?_)⟩
        rintro vs H1 ⟨ad1, O1, ds, s1, S1, r1, h1⟩
        split at h1
        · rename_i hl
          exact ⟨ad1, O1, ds, S1, r1, hl, h1⟩
        · exact h1.elim
      · exact h.elim
    · exact h.elim
end
end CP
namespace CP
open PySem PySem.Spec PyProof.Rows L2
section
variable {X : Cx}
theorem ep_exact {pins : List (Addr × Obj)} {σ : L2.St} {H : Hp} {s : Shared} {Q : VK} {us : List Value} {xs : List V} (I : L2.Inv X pins σ H s) (r : Vals xs us) (hz : xs.length ≤ sizeLine)
    (q : ∀ o : Obj, o.dict = none → Q (.ref s.heap.objs.size) (upd H s.heap.objs.size (.frz o (.tup xs)))) : EP X pins σ Q (.ref s.heap.objs.size) { s with heap := s.heap.push { cls := .type "tuple", data := .seq us.toArray } } :=
  ⟨.ref s.heap.objs.size, upd H s.heap.objs.size (.frz { cls := .type "tuple", data := .seq us.toArray } (.tup xs)), I.laid (t' := s.toks) (fun b u e => Heap.get?_push_of_some _ e) (Nat.le_refl _) ⟨Heap.get?_push_size _ rfl, hz, us, r, IsTup.new _ _⟩, rfl, q _ rfl⟩
def rCatX (K : PySem.W.Frag) : R2 := fun x y H Q => ∃ a b xs ys, x = .ref a ∧ y = .ref b ∧ SqT K H a xs ∧ SqT K H b ys ∧ xs.length + ys.length ≤ sizeLine ∧
  (xs = [] → Q (.ref b) H) ∧ (xs ≠ [] → ys = [] → Q (.ref a) H) ∧ (xs ≠ [] → ys ≠ [] → ∀ p o, H p = none → o.dict = none → Q (.ref p) (upd H p (.frz o (.tup (xs ++ ys)))))
theorem op_catX : OpR X (binaryOp .Add) (rCatX X.K) := by
  intro pins s σ H x y v u Q I rx ry h
  obtain ⟨a, b, xs, ys, rfl, rfl, ha, hb, hz, q0, q1, q2⟩ := h
  cases rx
  cases ry
  obtain ⟨its, r1, p1, _⟩ := I.tuple ha
  obtain ⟨its2, r2, p2, _⟩ := I.tuple hb
  by_cases hx : xs = []
  · subst hx
    cases r1
    exact cat_tup0 p1 p2 ⟨.ref b, H, I, rfl, q0 rfl⟩
  · refine HT.cat_tup p1 p2 (fun z => hx (r1.nil_iff.mp z)) (fun z => ⟨.ref a, H, I, rfl, q1 hx (r2.nil_iff.mp z)⟩) (fun z => ?_) (by rw [← r1.length, ← r2.length]; exact hz)
    exact ep_exact I (r1.append r2) (by rw [List.length_append]; exact hz) fun o hd => q2 hx (fun w => z (r2.nil_iff.mpr w)) _ o (I.hok.fresh (Nat.le_refl _)) hd
def rSlX (K : PySem.W.Frag) : V → Option Int → Option Int → Hp → VK → Prop := fun x lo hi H Q => ∃ a xs, x = .ref a ∧ SqT K H a xs ∧
  (HT.sIx xs.length 0 lo = 0 ∧ HT.sIx xs.length xs.length hi = xs.length → Q (.ref a) H) ∧ (¬ (HT.sIx xs.length 0 lo = 0 ∧ HT.sIx xs.length xs.length hi = xs.length) → ∀ p o, H p = none → o.dict = none → Q (.ref p) (upd H p (.frz o (.tup (cutV xs lo hi)))))
theorem sl_tupX : SlR X (rSlX X.K) := by
  intro pins s σ H x v vl vu lo hi sl Q I rx hs pl pu h
  obtain ⟨a, xs, rfl, hx, q1, q2⟩ := h
  by_cases hw : HT.sIx xs.length 0 lo = 0 ∧ HT.sIx xs.length xs.length hi = xs.length
  · exact sl_tupA pins s σ H _ v vl vu lo hi sl Q I rx hs pl pu ⟨a, xs, rfl, hx, q1, fun n => absurd hw n⟩
  · cases rx
    obtain ⟨its, r, ht, hz⟩ := I.tuple hx
    have hlen : its.toArray.size = xs.length := by rw [List.size_toArray]; exact r.length.symm
    refine ⟨"tuple", _, PyProof.Rows.slot_tuple_getitem.lookup, ht.typeIs, ?_⟩
    refine HT.getItem_tuple_cut ht hs pl pu (by rw [hlen]; exact hw) ?_ (by rw [hlen]; exact hz)
    rw [hlen]
    exact ep_exact I ((r.drop (HT.sIx xs.length 0 lo)).take (HT.sIx xs.length xs.length hi - HT.sIx xs.length 0 lo)) (Nat.le_trans (cutV_length xs lo hi) hz) fun o hd => q2 hw _ o (I.hok.fresh (Nat.le_refl _)) hd
def tRevX (K : PySem.W.Frag) (te : TE) : TE := fun σ H Q => te σ H fun x H1 => ∃ a xs, x = .ref a ∧ SqT K H1 a xs ∧ ∀ p o, H1 p = none → o.dict = none → Q (.ref p) (upd H1 p (.frz o (.tup xs.reverse)))
theorem pe_revX {e : Expr} {te : TE} {k : Nat} {p1 p2 p3 pos : Pos} (he : PE X e te) : PE X (.Subscript e (.Slice none none (some (.UnaryOp .USub (.Constant (.int 1) k p1) p2)) p3) pos) (tRevX X.K te) := by
  refine ⟨fun pins s σ H Q I h => ?_⟩
  refine Subscript_ (thn (he.run pins s σ H _ I h) fun v s1 ⟨x, H1, I1, r1, q1⟩ => ?_)
  obtain ⟨a, xs, ex, hx, q⟩ := q1
  subst ex
  cases r1
  have hst : PO X (some (.UnaryOp .USub (.Constant (.int 1) k p1) p2)) (tPart (tUn (rU fun i => .int (-i)) (tC (.int 1)))) := po_some (pe_un un_neg pe_int)
  refine wpAny_Slice (thn (po_none.run pins s1 σ H1 (fun o H2 => o = none ∧ H2 = H1) I1 ⟨rfl, rfl⟩) fun vl s2 ⟨l, H2, I2, pl, el, e2⟩ => ?_)
  subst el e2
  refine thn (po_none.run pins s2 σ H2 (fun o H3 => o = none ∧ H3 = H2) I2 ⟨rfl, rfl⟩) fun vu s3 ⟨u, H3, I3, pu, eu, e3⟩ => ?_
  subst eu e3
  refine thn (hst.run pins s3 σ H3 (fun o H4 => o = some (-1) ∧ H4 = H3) I3 ⟨1, rfl, -1, rfl, rfl, rfl⟩) fun vs s4 ⟨o, H4, I4, ps, eo, e4⟩ => ?_
  subst eo e4
  have I5 : Inv X pins σ H4 { s4 with heap := s4.heap.push { cls := .type "slice", data := .fields #[vl, vu, vs] } } := I4.kept (t' := s4.toks) fun b ob q => Heap.get?_push_of_some _ q
  show wpAny (model X.prog X.w) X.A (subscriptTail e (.Slice none none (some (.UnaryOp .USub (.Constant (.int 1) k p1) p2)) p3) (.ref a) (.ref s4.heap.objs.size)) (EP X pins σ Q) X.xe { s4 with heap := s4.heap.push { cls := .type "slice", data := .fields #[vl, vu, vs] } }
  obtain ⟨its, r, ht, hz⟩ := I5.tuple hx
  have hlen := r.length
  refine tail_any (ops := [.ref a, .ref s4.heap.objs.size]) ht.typeIs (PyProof.Rows.slot_tuple_getitem.lookup) ?_ (by with_unfolding_all rfl)
  refine getItem_tuple_rev ht (Heap.IsSliceOf.new _ vl vu vs) pl pu ps ?_ (by rw [List.size_toArray]; omega)
  exact ep_exact I5 r.reverse (by rw [List.length_reverse]; exact hz) fun o hd => q _ o (I5.hok.fresh (Nat.le_refl _)) hd
end
/-- x + y, exact tuples again exact -/
def dAddX : F2 := fun x y O => match x, y with
  | .rot i, .rot j => if i.length + j.length ≤ sizeLine then some (.rot (i ++ j)) else none
  | x, y => dAdd x y O
def dSlX (x : D) (lo hi : Option Int) (O : Store) : Option D := match x with
  | .rot l => some (.rot (cutD l lo hi))
  | _ => none
def eSlX (m : DE) (l h : DO) : DE := fun σ O => (m σ O).bind fun x O1 => (l σ O1).bind fun a O2 => (h σ O2).bind fun b O3 => lift (dSlX x a b O3) O3
def dRevX (x : D) (O : Store) : Option D := match x with
  | .rot l => some (.rot l.reverse)
  | _ => none
def eRevX (m : DE) : DE := fun σ O => (m σ O).bind fun d O1 => lift (dRevX d O1) O1
section
variable {U : Univ}
theorem opAddX : Op2 U (binaryOp .Add) dAddX := by
  intro X W c k Cc
  obtain ⟨r1, hr1, hq1⟩ := opAdd (U := U) X W c k Cc
  obtain ⟨_, eu⟩ := Cc.u
  subst eu
  refine ⟨_, hr1.or op_catX, ?_⟩
  intro dx dy x y ad O H d Q S r1 r2 e q
  unfold dAddX at e
  split at e
  · rename_i i j
    split at e
    · rename_i hz
      cases e
      obtain ⟨a, xs, rfl, f1, p1⟩ := r1
      obtain ⟨b, ys, rfl, f2, p2⟩ := r2
      have hl1 := p1.length
      have hl2 := p2.length
      refine .inr ⟨a, b, xs, ys, rfl, rfl, f1.sq, f2.sq, by omega, fun e0 => ?_, fun n0 e0 => ?_, fun n0 n1 p o hp hd => ?_⟩
      · subst e0
        have hi : i = [] := List.eq_nil_of_length_eq_zero (by simpa using hl1)
        subst hi
        exact q _ _ .refl S ⟨b, ys, rfl, f2, p2⟩
      · subst e0
        have hi : j = [] := List.eq_nil_of_length_eq_zero (by simpa using hl2)
        subst hi
        rw [List.append_nil] at q
        exact q _ _ .refl S ⟨a, xs, rfl, f1, p1⟩
      · exact q _ _ (.new hp (S.out hp)) (S.new hp) (rep_rot S hp (p1.append p2) hd)
    · cases e
  · exact .inl (hq1 _ _ x y ad O H d Q S r1 r2 e q)
variable {c : Cs} {k : Nat} {pos p1 p2 p3 : Pos} {e : Expr} {m : DE}
theorem sSlX {lo hi : Option Expr} {l h : DO} (he : SE U c k e m) (hl : SO U c k lo l) (hh : SO U c k hi h) : SE U c k (.Subscript e (.Slice lo hi none p2) pos) (eSlX m l h) := by
  intro X W C
  obtain ⟨t, p, f⟩ := he X W C
  obtain ⟨tl, pl, fl⟩ := hl X W C
  obtain ⟨th, ph, fh⟩ := hh X W C
  obtain ⟨_, eu⟩ := C.u
  subst eu
  refine ⟨_, pe_slice sl_tupX p pl ph, fun ad O H σ sv Q S r h => f ad O H σ sv _ S r (Post.mono (Post.bind h) ?_)⟩
  rintro v H1 ⟨ad1, O1, d, s1, S1, r1, h1⟩
  refine fl ad1 O1 H1 σ sv _ S1 (r.keep s1) (PostO.mono (PostO.bind h1) ?_)
  rintro a H2 ⟨ad2, O2, s2, S2, h2⟩
  refine fh ad2 O2 H2 σ sv _ S2 ((r.keep s1).keep s2) (PostO.mono (PostO.bind h2) ?_)
  rintro b H3 ⟨ad3, O3, s3, S3, h3⟩
  have r3 := (r1.keep s2).keep s3
  cases d with
  | rot l =>
    have h3' : Post _ ad3 H3 Q (fun cl d H' => W cl d sv H') (.ok (.rot (cutD l a b)) O3) := h3
    obtain ⟨p, xs, rfl, hp, t⟩ := r3
    refine ⟨p, xs, rfl, hp.sq, fun ha => ?_, fun ha q o hq hd => h3' ad3 _ _ (.new hq (S3.out hq)) (S3.new hq) (rep_rot S3 hq (t.cut a b) hd)⟩
    have e := cutD_all t ha
    rw [e] at h3'
    exact h3' ad3 H3 _ .refl S3 ⟨p, xs, rfl, hp, t⟩
  | _ => exact h3.elim
theorem sRevX {j : Nat} (he : SE U c k e m) : SE U c k (.Subscript e (.Slice none none (some (.UnaryOp .USub (.Constant (.int 1) j p1) p2)) p3) pos) (eRevX m) := by
  intro X W C
  obtain ⟨t, p, f⟩ := he X W C
  obtain ⟨_, eu⟩ := C.u
  subst eu
  refine ⟨_, pe_revX p, fun ad O H σ sv Q S r h => f ad O H σ sv _ S r (Post.mono (Post.bind h) ?_)⟩
  rintro v H1 ⟨ad1, O1, d, s1, S1, r1, h1⟩
  cases d with
  | rot l =>
    have h1' : Post _ ad1 H1 Q (fun cl d H' => W cl d sv H') (.ok (.rot l.reverse) O1) := h1
    obtain ⟨p, xs, rfl, hp, t⟩ := r1
    exact ⟨p, xs, rfl, hp.sq, fun q o hq hd => h1' ad1 _ _ (.new hq (S1.out hq)) (S1.new hq) (rep_rot S1 hq t.reverse hd)⟩
  | _ => exact h1.elim
end
end CP
namespace CP
open PySem PySem.Spec PyProof.Rows L2
noncomputable def eLcM (mi : DI) (g : Tg) (vs : List Nat) (tt : DT) (el : DE) : DE := fun σ O => match mi σ O with
  | .ok it O1 => (lcL it.w (lcTurn g vs tt el σ) it.ds [] O1).bind fun acc O2 => .ok (.ptr O2.length) (O2 ++ [.lst acc])
  | .err x O1 => .err x O1
  | .stuck => .stuck
section
variable {U : Univ} {c : Cs} {k : Nat} {pos : Pos} {tg iter elt : Expr} {ifs : List Expr} {scope : Scope} {own : List (Str × Nat)} {mi : DI} {g : Tg} {tt : DT} {el : DE}
/-- the turns of a comprehension and their end -/
theorem lc_runM {ad1 : List Addr} {H1 : Hp} {O1 : Store} {J : It} {it : Itm} {σ : Env} {sv : L2.St} {vs : List Nat} {Qd : V → Hp → Prop} {E : XK} {D : Addr} (S1 : Sim U ad1 O1 H1) (r1 : RepE U ad1 H1 σ sv) (y : Yields U J ad1 H1 it.ds it.w) (hw : watchOk it.w O1) (hD : H1 D = none)
    (hsl : ∀ i ∈ g.slots, i ∈ vs) (h : Post U ad1 H1 Qd E ((lcL it.w (lcTurn g vs tt el σ) it.ds [] O1).bind fun acc O2 => .ok (.ptr O2.length) (O2 ++ [CP.D.lst acc]))) :
    ∃ W : Nat → Nat → Hp → Prop, (∃ m, W 0 m (upd H1 D (.lst []))) ∧ ∀ i m H, W i m H →
      (J.stop i H ∧ Qd (.ref D) H) ∨ (J.go i H ∧ ∃ Nx : Hp → Prop, (∀ H', Nx H' → ∃ m', m' < m ∧ W (i + 1) m' H') ∧ ∀ x H', J.yld i H x H' → gOf U.K g x (L2.wipe sv vs) H' fun σ2 H2 => L2.wipe σ2 vs = L2.wipe sv vs ∧ tGT U (fun _ _ _ _ => False) tt σ2 H2 fun b H3 =>
        if b = true then tG U (fun _ _ _ _ => False) el σ2 H3 fun y H4 => ∃ acc, H4 D = some (.lst acc) ∧ acc.length < sizeLine ∧ Nx (upd H4 D (.lst (acc ++ [y]))) else Nx H3) := by
  obtain ⟨G, Y, w, hG, hY⟩ := y
  have al : Step ad1 H1 (ad1 ++ [D]) (upd H1 D (.lst [])) := Step.alloc hD
  refine lc_it w (fun i H2 => ∃ O2 acc, LcInv U ad1 (upd H1 D (.lst [])) D it.w H2 O2 acc ∧ Post U ad1 H1 Qd E ((lcL it.w (lcTurn g vs tt el σ) (it.ds.drop i) acc O2).bind fun acc O2 => .ok (.ptr O2.length) (O2 ++ [CP.D.lst acc])))
    ⟨O1, [], ⟨cell_alloc S1 hD .nil, .refl, rfl, fun i d e => S1.okGet e, hw⟩, h⟩ ?_ ?_ ?_
  · rintro i H2 hi ⟨O2, acc, I, h2⟩
    exact hG _ _ H2 (al.trans I.2.1) I.1 (watch_app I.2.2.2.2)
  · rintro i x H2 H3 hi ⟨O2, acc, I, h2⟩ yy
    obtain ⟨s3, S3, d, ed, rd⟩ := hY i x H2 H3 _ _ hi (al.trans I.2.1) I.1 (watch_app I.2.2.2.2) yy
    have hdrop : it.ds.drop i = d :: it.ds.drop (i + 1) := by
      rw [List.drop_eq_getElem_cons hi]
      rw [List.getElem?_eq_getElem hi] at ed
      cases ed; rfl
    rw [hdrop] at h2
    unfold lcL at h2
    rw [if_pos I.2.2.2.2] at h2
    cases et : lcTurn g vs tt el σ d acc O2 with
    | none => rw [et] at h2; exact h2.elim
    | some q =>
      rw [et] at h2
      have I3 : LcInv U ad1 (upd H1 D (.lst [])) D it.w H3 O2 acc := ⟨S3, I.2.1.trans s3, I.2.2.1, I.2.2.2.1, I.2.2.2.2⟩
      refine lc_turn (acc' := q.1) (O' := q.2) I3 ((r1.keep al).keep I3.2.1) rd hsl et fun H' I' => ⟨q.2, q.1, ⟨I'.1, I'.2.1, I'.2.2.1, I'.2.2.2.1, ?_⟩, h2⟩
      exact lcL_watch h2
  · rintro H2 ⟨O2, acc, I, h2⟩
    rw [List.drop_length] at h2
    unfold lcL at h2
    rw [if_pos I.2.2.2.2] at h2
    have hn : ad1.length = O2.length := by have := I.1.len; simpa using this
    have hDx : (ad1 ++ [D])[ad1.length]? = some D := by simp
    exact h2 (ad1 ++ [D]) H2 _ (al.trans I.2.1) I.1 ⟨D, rfl, by rw [← hn]; exact hDx⟩
theorem sLcM (hi : SI U c k tg iter mi) (hg : SG U (blkCs c scope) tg g) (ht : SIfs U (blkCs c scope) k ifs tt) (he : SE U (blkCs c scope) k elt el) (ok : blkC c.N c.sc scope own = true) (hsl : ∀ i ∈ g.slots, i ∈ own.map (·.2))
    (hs : ∀ (env : PySem.Env) x, foldedSetIterable iter env x = pure x := by intro _ _; rfl) (hh : c.hot = false := by rfl) : SE U c k (.ListComp elt [⟨tg, iter, ifs, 0⟩] scope pos) (eLcM mi g (own.map (·.2)) tt el) := by
  intro X W C
  obtain ⟨ti, pi, fi⟩ := hi X W C
  refine ⟨_, pe_lc (own := own) (C.calm hh) (by rw [C.n]; exact C.nd) pi (by rw [C.n, C.s]; exact blkOk_by ok) (fun s H Ca cl fp => hg _ _ k (C.blk scope s H cl Ca fp)) (fun s H Ca cl fp => ht _ _ (C.blk scope s H cl Ca fp)) (fun s H Ca cl fp => he.pe (C.blk scope s H cl Ca fp)) (hs _), ?_⟩
  intro ad O H σ sv Q S r h
  refine fi ad O H σ sv _ S r (postI_of h fun ad1 H1 O1 it J s1 S1 y hw h1 => ?_)
  intro D hD
  exact lc_runM S1 (r.keep s1) y hw hD hsl h1
/-- name = [..] on one line -/
theorem sSetLcM {i : Nat} {y : Str} {py spos : Pos} (hi : SI U c k tg iter mi) (hg : SG U (blkCs c scope) tg g) (ht : SIfs U (blkCs c scope) k ifs tt) (he : SE U (blkCs c scope) k elt el) (ok : blkC c.N c.sc scope own = true) (hsl : ∀ i ∈ g.slots, i ∈ own.map (·.2))
    (hy : c.N[i]? = some y) (hyl : c.sc.names.lookup y = some .local) (hk : c.sc.kind = .function) (hl : (py.line == pos.line) = true) (ha : (scope.names.any fun (n, k) => n == y && (k == .local || k == .cell)) = false) (hln : spos.line = spos.line)
    (hs : ∀ (env : PySem.Env) x, foldedSetIterable iter env x = pure x := by intro _ _; rfl) (hh : c.hot = false := by rfl) : SS U c k (.Assign [.Name y py] (.ListComp elt [⟨tg, iter, ifs, 0⟩] scope pos) spos) (sSet i (eLcM mi g (own.map (·.2)) tt el)) := by
  intro X W C
  obtain ⟨ti, pi, fi⟩ := hi X W C
  refine ⟨_, ps_setLc (i := i) (own := own) (C.calm hh) (by rw [C.n]; exact C.nd) (by rw [C.n]; exact hy) (by rw [C.s]; exact hyl) (sw_true (by rw [C.s]; exact hk) (by rw [C.s]; exact hyl) hl ha) pi (by rw [C.n, C.s]; exact blkOk_by ok) (fun s H Ca cl fp => hg _ _ k (C.blk scope s H cl Ca fp)) (fun s H Ca cl fp => ht _ _ (C.blk scope s H cl Ca fp)) (fun s H Ca cl fp => he.pe (C.blk scope s H cl Ca fp)) (hs _), ?_⟩
  intro ad O H σ sv Dn S r h
  have h' := PostS.of r h
  refine fi ad O H σ sv _ S r (postI_of h' fun ad1 H1 O1 it J s1 S1 y hw h1 => ?_)
  intro D hD
  refine lc_runM (Qd := fun x H1 => gName i x sv H1 Dn.nx) (E := fun cl d H' => W cl d sv H') S1 (r.keep s1) y hw hD hsl (Post.mono h1 ?_)
  rintro v H2 ⟨ad2, O2, d, s2, S2, r2, h2⟩
  exact h2 ad2 H2 _ .refl S2 ((r.keep s2).set i r2)
theorem wLcM (own : List (Str × Nat)) (hi : SI U c k tg iter mi) (hg : SG U (blkCs c scope) tg g) (ht : SIfs U (blkCs c scope) k ifs tt) (he : SE U (blkCs c scope) k elt el) (ok : (blkC c.N c.sc scope own && subB g.slots (own.map (·.2))) = true)
    (hs : ∀ (env : PySem.Env) x, foldedSetIterable iter env x = pure x := by intro _ _; rfl) (hh : c.hot = false := by rfl) : SE U c k (.ListComp elt [⟨tg, iter, ifs, 0⟩] scope pos) (eLcM mi g (own.map (·.2)) tt el) :=
  sLcM hi hg ht he (Bool.and_eq_true_iff.mp ok).1 (subB_of (Bool.and_eq_true_iff.mp ok).2) hs hh
theorem wSetLcM {y : Str} {py spos : Pos} (i : Nat) (own : List (Str × Nat)) (hi : SI U c k tg iter mi) (hg : SG U (blkCs c scope) tg g) (ht : SIfs U (blkCs c scope) k ifs tt) (he : SE U (blkCs c scope) k elt el) (ok : lcB c scope own g i y py.line pos.line = true)
    (hs : ∀ (env : PySem.Env) x, foldedSetIterable iter env x = pure x := by intro _ _; rfl) (hh : c.hot = false := by rfl) : SS U c k (.Assign [.Name y py] (.ListComp elt [⟨tg, iter, ifs, 0⟩] scope pos) spos) (sSet i (eLcM mi g (own.map (·.2)) tt el)) := by
  obtain ⟨h1, h⟩ := Bool.and_eq_true_iff.mp ok
  obtain ⟨h2, h⟩ := Bool.and_eq_true_iff.mp h
  obtain ⟨h3, h⟩ := Bool.and_eq_true_iff.mp h
  obtain ⟨h4, h5⟩ := Bool.and_eq_true_iff.mp h
  refine sSetLcM hi hg ht he (Bool.and_eq_true_iff.mp h1).1 (subB_of (Bool.and_eq_true_iff.mp h1).2) (lB_1 h2) (lB_2 h2) ?_ (beq_iff_eq.mpr (of_decide_eq_true h4)) (not_t h5) rfl hs hh
  split at h3
  · assumption
  · cases h3
end
end CP
namespace CP
open PySem PySem.Spec PyProof.Rows L2
def dEq0 : F2 := fun x y O => match dEq x y O with
  | some d => some d
  | none => match x, y with
    | .tup l, .tup [] => some (.bl l.isEmpty)
    | .rot l, .tup [] => some (.bl l.isEmpty)
    | _, _ => none
def rEqE (K : PySem.W.Frag) : R2 := fun x y H Q => ∃ a b xs, x = .ref a ∧ y = .ref b ∧ SqT K H a xs ∧ SqT K H b [] ∧ Q (.bl xs.isEmpty) H
section
variable {X : Cx}
theorem op_eqE (hu : X.A.units + 64 < cLine) : OpR X (compareOp .Eq) (rEqE X.K) := by
  intro pins s σ H x y v u Q I rx ry h
  obtain ⟨a, b, xs, rfl, rfl, ha, hb, q⟩ := h
  cases rx
  cases ry
  obtain ⟨its, r1, p1, _⟩ := I.tuple ha
  obtain ⟨its2, r2, p2, _⟩ := I.tuple hb
  cases r2
  refine PySem.SeqAt.rcIn_tuples (items := its.toArray) (items2 := #[]) (e := fun _ => true) p1 p2 (by omega) (fun j h1 h2 => absurd h2 (by simp)) ?_
  refine ⟨.bl xs.isEmpty, H, I, ?_, q⟩
  have hl : its.toArray.size = xs.length := by rw [List.size_toArray]; exact r1.length.symm
  rw [hl]
  cases xs with
  | nil => rfl
  | cons x r => rfl
end
section
variable {U : Univ}
theorem opEq0 : Op2 U (compareOp .Eq) dEq0 := by
  intro X W c k Cc
  obtain ⟨r1, hr1, hq1⟩ := opEq (U := U) X W c k Cc
  obtain ⟨_, eu⟩ := Cc.u
  subst eu
  refine ⟨_, hr1.or (op_eqE Cc.room.units), ?_⟩
  intro dx dy x y ad O H d Q S r1 r2 e q
  unfold dEq0 at e
  split at e
  · rename_i d1 e1
    cases e
    exact .inl (hq1 _ _ x y ad O H _ Q S r1 r2 e1 q)
  · clear hq1 hr1
    split at e
    · rename_i l e1
      cases e
      obtain ⟨a, xs, rfl, f1, n1, p1⟩ := r1
      obtain ⟨b, ys, rfl, f2, n2, p2⟩ := r2
      cases p2
      refine .inr ⟨a, b, xs, rfl, rfl, .inl (.inl f1), .inl (.inl f2), q _ _ .refl S ?_⟩
      show V.bl _ = V.bl _
      congr 1
      have := p1.length
      cases l <;> cases xs <;> simp_all
    · rename_i l e1
      cases e
      obtain ⟨a, xs, rfl, f1, p1⟩ := r1
      obtain ⟨b, ys, rfl, f2, n2, p2⟩ := r2
      cases p2
      refine .inr ⟨a, b, xs, rfl, rfl, f1.sq, .inl (.inl f2), q _ _ .refl S ?_⟩
      show V.bl _ = V.bl _
      congr 1
      have := p1.length
      cases l <;> cases xs <;> simp_all
    · cases e
end
end CP
namespace CP
open PySem PySem.Spec PyProof.Rows L2
open PySem.Sem (wp)
section
variable {prog : Program} {w : World} {A : Around} {E : Value → Shared → Prop} {s : Shared}
theorem zipT_item_held {z TI TO T i1 i2 l1 l2 : Addr} {f : Bool} {oT : Obj} {k1 k2 : Nat} {xs ys : Array Value} {x y : Value} {Q : Value → Shared → Prop} (D : ZipApart z TI TO i1 i2 l1 l2)
    (hz : IsZipHeld s.heap z TI TO T f) (hT : s.heap.get? T = some oT) (hTI : IsPair s.heap TI (.ref i1) (.ref i2))
    (h1 : s.heap.IsTupleIter i1 l1 k1) (h2 : s.heap.IsTupleIter i2 l2 k2) (hl1 : s.heap.IsTuple l1 xs) (hl2 : s.heap.IsTuple l2 ys) (hx : xs[k1]? = some x) (hy : ys[k2]? = some y)
    (hQ : ∀ h', IsZipHeld h' z TI TO T true → h'.IsTupleIter i1 l1 (k1 + 1) → h'.IsTupleIter i2 l2 (k2 + 1) → IsPair h' s.heap.objs.size x y → h'.objs.size = s.heap.objs.size + 1 →
      (∀ c o, c ≠ z → c ≠ i1 → c ≠ i2 → s.heap.get? c = some o → h'.get? c = some o) → Q (.ref s.heap.objs.size) { s with heap := h' }) :
    wpAny (model prog w) A (Builtin.«zip.__next__» ⟨[.ref z], []⟩) (fun fin s' => ∃ v, fin = .done (.ret v) ∧ Q v s') E s := by
  show wpAny _ _ (field (.ref z) 2 >>= _) _ _ _
  refine wpAny_bind (wpAny_field hz rfl (x := .bool false) rfl ?_)
  show wpAny _ _ (field (.ref z) 3 >>= _) _ _ _
  refine wpAny_bind (wpAny_field hz rfl (x := .ref TI) rfl ?_)
  refine wpAny_bind (wpAny_seqItems hTI rfl ?_)
  show wpAny _ _ (Builtin.SmallTypes.ownedTupleIsFree (.ref z) >>= _) _ _ _
  refine wpAny_bind (wpAny_tupleHeld_zip hz hT fun h₁ hz₁ hs₁ => ?_)
  simp only [Bool.false_eq_true, if_false]
  refine wpAny_bind ?_
  rw [← Array.forIn_toList]
  simp only [List.forIn_cons, List.forIn_nil]
  refine wpAny_bind (wpAny_bind (wpAny_holding ?_))
  show wpAny _ _ (Builtin.SmallTypes.nextOf (.ref i1) >>= _) _ _ _
  refine wpAny_bind (RZ.nextOf_tuple_item (s := { s with heap := h₁ }) (h1.extBut hs₁.extBut D.i1z) (hl1.extBut hs₁.extBut D.l1z) hx fun h₂ h1₂ hs₂ => wpAny_pure ?_)
  refine wpAny_pure ?_
  refine wpAny_bind (wpAny_bind (wpAny_holding ?_))
  show wpAny _ _ (Builtin.SmallTypes.nextOf (.ref i2) >>= _) _ _ _
  refine wpAny_bind (RZ.nextOf_tuple_item (s := { s with heap := h₂ }) ((h2.extBut hs₁.extBut D.i2z).extBut hs₂.extBut D.i12.symm) ((hl2.extBut hs₁.extBut D.l2z).extBut hs₂.extBut D.l2i1) hy fun h₃ h2₃ hs₃ => wpAny_pure ?_)
  refine wpAny_pure (wpAny_pure ?_)
  show wpAny _ _ (newTuple [x, y] >>= _) _ _ _
  refine wpAny_bind (wpAny_newTuple ?_)
  have hsz : h₃.objs.size = s.heap.objs.size := by rw [hs₃.1, hs₂.1, hs₁.1]
  have hz₃ : IsZipHeld h₃ z TI TO T true := hs₃.extBut _ _ D.i2z.symm (hs₂.extBut _ _ D.i1z.symm hz₁)
  have hk : ∀ c o, c ≠ z → c ≠ i1 → c ≠ i2 → s.heap.get? c = some o → h₃.get? c = some o := fun c o c1 c2 c3 e => hs₃.extBut _ _ c3 (hs₂.extBut _ _ c2 (hs₁.extBut _ _ c1 e))
  have h1₃ : h₃.IsTupleIter i1 l1 (k1 + 1) := h1₂.extBut hs₃.extBut D.i12
  refine wpAny_pure ⟨_, rfl, ?_⟩
  show Q (.ref h₃.objs.size) _
  have hp : IsPair (h₃.push { cls := .type "tuple", data := .seq #[x, y] }) h₃.objs.size x y := Heap.get?_push_size _ rfl
  have hz4 : (h₃.push { cls := .type "tuple", data := .seq #[x, y] }).objs.size = h₃.objs.size + 1 := Heap.size_push ..
  rw [hsz] at hp hz4 ⊢
  exact hQ _ (Heap.get?_push_of_some _ hz₃) (h1₃.at fun o e => Heap.get?_push_of_some _ e) (h2₃.at fun o e => Heap.get?_push_of_some _ e) hp hz4 fun c o c1 c2 c3 e => Heap.get?_push_of_some _ (hk c o c1 c2 c3 e)
theorem zipT_end_held {z TI TO T i1 i2 l1 l2 : Addr} {f : Bool} {oT : Obj} {k1 k2 : Nat} {xs ys : Array Value} {Q : Fin → Shared → Prop} (hh : A.handled = none) (D : ZipApart z TI TO i1 i2 l1 l2)
    (hz : IsZipHeld s.heap z TI TO T f) (hT : s.heap.get? T = some oT) (hTI : IsPair s.heap TI (.ref i1) (.ref i2))
    (h1 : s.heap.IsTupleIter i1 l1 k1) (hl1 : s.heap.IsTuple l1 xs) (hend : xs[k1]? = none)
    (hE : ∀ h' e, (∀ c o, c ≠ z → c ≠ i1 → c ≠ i2 → s.heap.get? c = some o → h'.get? c = some o) → (∃ o, h'.get? e = some o ∧ o.cls = .type "StopIteration") → E (.ref e) { s with heap := h' }) :
    wpAny (model prog w) A (Builtin.«zip.__next__» ⟨[.ref z], []⟩) Q E s := by
  show wpAny _ _ (field (.ref z) 2 >>= _) _ _ _
  refine wpAny_bind (wpAny_field hz rfl (x := .bool false) rfl ?_)
  show wpAny _ _ (field (.ref z) 3 >>= _) _ _ _
  refine wpAny_bind (wpAny_field hz rfl (x := .ref TI) rfl ?_)
  refine wpAny_bind (wpAny_seqItems hTI rfl ?_)
  show wpAny _ _ (Builtin.SmallTypes.ownedTupleIsFree (.ref z) >>= _) _ _ _
  refine wpAny_bind (wpAny_tupleHeld_zip hz hT fun h₁ hz₁ hs₁ => ?_)
  simp only [Bool.false_eq_true, if_false]
  refine wpAny_bind ?_
  rw [← Array.forIn_toList]
  simp only [List.forIn_cons, List.forIn_nil]
  refine wpAny_bind (wpAny_bind (wpAny_holding ?_))
  show wpAny _ _ (Builtin.SmallTypes.nextOf (.ref i1) >>= _) _ _ _
  refine wpAny_bind (RZ.nextOf_tuple_end (s := { s with heap := h₁ }) hh (h1.extBut hs₁.extBut D.i1z) (hl1.extBut hs₁.extBut D.l1z) hend fun h₂ e hs₂ he => ?_)
  exact hE h₂ e (fun c o c1 c2 _ x => hs₂ _ _ c2 (hs₁.extBut _ _ c1 x)) he
theorem pyNextT_item_held {z TI TO T i1 i2 l1 l2 : Addr} {f : Bool} {oT : Obj} {k1 k2 : Nat} {xs ys : Array Value} {x y : Value} {Q : Option Value → Shared → Prop} (D : ZipApart z TI TO i1 i2 l1 l2)
    (hz : IsZipHeld s.heap z TI TO T f) (hT : s.heap.get? T = some oT) (hTI : IsPair s.heap TI (.ref i1) (.ref i2))
    (h1 : s.heap.IsTupleIter i1 l1 k1) (h2 : s.heap.IsTupleIter i2 l2 k2) (hl1 : s.heap.IsTuple l1 xs) (hl2 : s.heap.IsTuple l2 ys) (hx : xs[k1]? = some x) (hy : ys[k2]? = some y)
    (hQ : ∀ h', IsZipHeld h' z TI TO T true → h'.IsTupleIter i1 l1 (k1 + 1) → h'.IsTupleIter i2 l2 (k2 + 1) → IsPair h' s.heap.objs.size x y → h'.objs.size = s.heap.objs.size + 1 →
      (∀ c o, c ≠ z → c ≠ i1 → c ≠ i2 → s.heap.get? c = some o → h'.get? c = some o) → Q (some (.ref s.heap.objs.size)) { s with heap := h' }) :
    wpAny (model prog w) A (pyNext (.ref z)) Q E s := by
  have hTy : s.TypeIs (.ref z) "zip" := ⟨_, hz, rfl⟩
  unfold pyNext
  exact wpAny_bind (wpAny_attempt (wpAny_callSpecial?_slot (name := Str.ofString "__next__") hTy F.slot_zip_next
    (wpAny_call_entry F.slot_zip_next hTy F.entry_zip_next
      (zipT_item_held D hz hT hTI h1 h2 hl1 hl2 hx hy fun h' a1 a3 a4 a5 a6 a7 => wpAny_pure (hQ h' a1 a3 a4 a5 a6 a7)) (F.args_zip_next_1 _))))
theorem pyNextT_end_held {z TI TO T i1 i2 l1 l2 : Addr} {f : Bool} {oT : Obj} {k1 : Nat} {xs : Array Value} {Q : Option Value → Shared → Prop} (hh : A.handled = none) (D : ZipApart z TI TO i1 i2 l1 l2)
    (hz : IsZipHeld s.heap z TI TO T f) (hT : s.heap.get? T = some oT) (hTI : IsPair s.heap TI (.ref i1) (.ref i2))
    (h1 : s.heap.IsTupleIter i1 l1 k1) (hl1 : s.heap.IsTuple l1 xs) (hend : xs[k1]? = none)
    (hQ : ∀ h', (∀ c o, c ≠ z → c ≠ i1 → c ≠ i2 → s.heap.get? c = some o → h'.get? c = some o) → Q none { s with heap := h' }) : wpAny (model prog w) A (pyNext (.ref z)) Q E s := by
  have hTy : s.TypeIs (.ref z) "zip" := ⟨_, hz, rfl⟩
  unfold pyNext
  refine wpAny_bind (wpAny_attempt (wpAny_callSpecial?_slot (name := Str.ofString "__next__") hTy F.slot_zip_next
    (wpAny_call_entry F.slot_zip_next hTy F.entry_zip_next (zipT_end_held (k2 := 0) (ys := #[]) (l2 := l2) hh D hz hT hTI h1 hl1 hend fun h' e hk he => ?_) (F.args_zip_next_1 _))))
  obtain ⟨o, ho, hc⟩ := he
  refine wpAny_bind (wpAny_isInstance (T := "StopIteration") (b := true) ⟨o, ho, hc⟩ isSubtype_stop ?_)
  exact wpAny_pure (hQ _ hk)
end
/-- a zip of two tuples on its way; what it handed out is held -/
structure ZW (h : Heap) (z TI TO i1 i2 l1 l2 : Addr) (xs ys : Array Value) (i : Nat) : Prop where
  ti : IsPair h TI (.ref i1) (.ref i2)
  it1 : h.IsTupleIter i1 l1 i
  it2 : h.IsTupleIter i2 l2 i
  t1 : h.IsTuple l1 xs
  t2 : h.IsTuple l2 ys
  zp : (i = 0 ∧ IsZip h z TI TO .none ∧ ∃ a b, IsPair h TO a b) ∨ ∃ T f oT, IsZipHeld h z TI TO T f ∧ h.get? T = some oT ∧ T ≠ z ∧ T ≠ i1 ∧ T ≠ i2
section
variable {prog : Program} {w : World} {A : Around} {E : Value → Shared → Prop} {s : Shared} {z TI TO i1 i2 l1 l2 : Addr} {xs ys : Array Value} {i : Nat}
theorem ZW.type (Z : ZW s.heap z TI TO i1 i2 l1 l2 xs ys i) : s.TypeIs (.ref z) "zip" := by
  rcases Z.zp with ⟨_, h, _⟩ | ⟨T, f, o, h, _⟩ <;> exact ⟨_, h, rfl⟩
theorem ZW.self {Q : Value → Shared → Prop} (Z : ZW s.heap z TI TO i1 i2 l1 l2 xs ys i) (h : Q (.ref z) s) : wpAny (model prog w) A (pyIter (.ref z)) Q E s := by
  rcases Z.zp with ⟨_, hz, _⟩ | ⟨T, f, o, hz, _⟩
  · exact wpAny_pyIter_zip hz h
  · have hT : s.TypeIs (.ref z) "zip" := ⟨_, hz, rfl⟩
    refine wpAny_pyIter_slot hT F.slot_zip_iter (wpAny_call_entry F.slot_zip_iter hT F.entry_zip_iter ?_ (F.args_zip_iter_1 _))
    show wpAny _ _ (ret (.ref z)) _ _ s
    exact wpAny_pure ⟨_, rfl, "zip", _, hT, F.slot_zip_next.lookup, h⟩
/-- a write elsewhere -/
theorem ZW.frame {h h' : Heap} {S : Addr} {oS : Obj} (Z : ZW h z TI TO i1 i2 l1 l2 xs ys i) (hk : ∀ c o, c ≠ S → h.get? c = some o → h'.get? c = some o) (hS : h'.get? S = some oS) (n1 : TI ≠ S) (n2 : i1 ≠ S) (n3 : i2 ≠ S) (n4 : l1 ≠ S) (n5 : l2 ≠ S) (n6 : z ≠ S) (n7 : TO ≠ S) : ZW h' z TI TO i1 i2 l1 l2 xs ys i := by
  refine ⟨hk _ _ n1 Z.ti, Z.it1.at fun o e => hk _ o n2 e, Z.it2.at fun o e => hk _ o n3 e, Z.t1.at fun o e => hk _ o n4 e, Z.t2.at fun o e => hk _ o n5 e, ?_⟩
  rcases Z.zp with ⟨h0, hz, a, b, hTO⟩ | ⟨T, f, o, hz, hT, r1, r2, r3⟩
  · exact .inl ⟨h0, hk _ _ n6 hz, a, b, hk _ _ n7 hTO⟩
  · by_cases e : T = S
    · subst e
      exact .inr ⟨T, f, oS, hk _ _ n6 hz, hS, r1, r2, r3⟩
    · exact .inr ⟨T, f, o, hk _ _ n6 hz, hk _ _ e hT, r1, r2, r3⟩
theorem ZW.item {x y : Value} {Q : Option Value → Shared → Prop} (D : ZipApart z TI TO i1 i2 l1 l2) (Z : ZW s.heap z TI TO i1 i2 l1 l2 xs ys i) (hx : xs[i]? = some x) (hy : ys[i]? = some y)
    (hQ : ∀ h', ZW h' z TI TO i1 i2 l1 l2 xs ys (i + 1) → IsPair h' s.heap.objs.size x y → h'.objs.size = s.heap.objs.size + 1 → (∀ c o, c ≠ z → c ≠ TO → c ≠ i1 → c ≠ i2 → s.heap.get? c = some o → h'.get? c = some o) → Q (some (.ref s.heap.objs.size)) { s with heap := h' }) :
    wpAny (model prog w) A (pyNext (.ref z)) Q E s := by
  have lt : ∀ {c o}, s.heap.get? c = some o → s.heap.objs.size ≠ c := fun e => Nat.ne_of_gt (Heap.lt_size e)
  have n1 : s.heap.objs.size ≠ i1 := let ⟨_, e, _⟩ := Z.it1; lt e
  have n2 : s.heap.objs.size ≠ i2 := let ⟨_, e, _⟩ := Z.it2; lt e
  rcases Z.zp with ⟨h0, hz, a, b, hTO⟩ | ⟨T, f, o, hz, hT, r1, r2, r3⟩
  · refine RZ.pyNext_zipT_item D hz Z.ti hTO Z.it1 Z.it2 Z.t1 Z.t2 hx hy fun h' a1 a2 a3 a4 a5 a6 hk => hQ h' ?_ a5 a6 hk
    exact ⟨hk _ _ D.TIz D.TITO D.TIi1 D.TIi2 Z.ti, a3, a4, Z.t1.at fun o e => hk _ o D.l1z D.l1TO D.l1i1 D.l1i2 e, Z.t2.at fun o e => hk _ o D.l2z D.l2TO D.l2i1 D.l2i2 e, .inr ⟨_, false, _, a1, a5, lt hz, n1, n2⟩⟩
  · refine pyNextT_item_held D hz hT Z.ti Z.it1 Z.it2 Z.t1 Z.t2 hx hy fun h' a1 a3 a4 a5 a6 hk => hQ h' ?_ a5 a6 fun c o c1 _ c3 c4 e => hk c o c1 c3 c4 e
    exact ⟨hk _ _ D.TIz D.TIi1 D.TIi2 Z.ti, a3, a4, Z.t1.at fun o e => hk _ o D.l1z D.l1i1 D.l1i2 e, Z.t2.at fun o e => hk _ o D.l2z D.l2i1 D.l2i2 e, .inr ⟨T, true, o, a1, hk _ _ r1 r2 r3 hT, r1, r2, r3⟩⟩
theorem ZW.stop {Q : Option Value → Shared → Prop} (hh : A.handled = none) (D : ZipApart z TI TO i1 i2 l1 l2) (Z : ZW s.heap z TI TO i1 i2 l1 l2 xs ys i) (hx : xs[i]? = none)
    (hQ : ∀ h', (∀ c o, c ≠ z → c ≠ TO → c ≠ i1 → c ≠ i2 → s.heap.get? c = some o → h'.get? c = some o) → Q none { s with heap := h' }) :
    wpAny (model prog w) A (pyNext (.ref z)) Q E s := by
  rcases Z.zp with ⟨h0, hz, a, b, hTO⟩ | ⟨T, f, o, hz, hT, r1, r2, r3⟩
  · exact RZ.pyNext_zipT_end hh D hz Z.ti hTO Z.it1 Z.it2 Z.t1 Z.t2 (.inl hx) hQ
  · exact pyNextT_end_held hh D hz hT Z.ti Z.it1 Z.t1 hx fun h' hk => hQ h' fun c o c1 _ c3 c4 e => hk c o c1 c3 c4 e
/-- the tuples that were handed out -/
structure Handed (h : Heap) (base : Nat) (Ts : List Addr) (xs ys : Array Value) : Prop where
  asc : Ts.Pairwise (· < ·)
  low : ∀ T ∈ Ts, base ≤ T
  at_ : ∀ (j : Nat) (T : Addr), Ts[j]? = some T → ∃ x y, xs[j]? = some x ∧ ys[j]? = some y ∧ IsPair h T x y
theorem Handed.lt {h : Heap} {base : Nat} {Ts : List Addr} (H : Handed h base Ts xs ys) {T : Addr} (hT : T ∈ Ts) : T < h.objs.size := by
  obtain ⟨j, hj, e⟩ := List.getElem_of_mem hT
  obtain ⟨x, y, _, _, e3⟩ := H.at_ j T (by rw [List.getElem?_eq_getElem hj, e])
  exact Heap.lt_size e3
theorem Handed.push {h h' : Heap} {base T : Nat} {Ts : List Addr} {x y : Value} (H : Handed h base Ts xs ys) (hk : ∀ c o, base ≤ c → h.get? c = some o → h'.get? c = some o) (hT : T = h.objs.size) (hb : base ≤ T) (hp : IsPair h' T x y) (hx : xs[Ts.length]? = some x) (hy : ys[Ts.length]? = some y) : Handed h' base (Ts ++ [T]) xs ys := by
  refine ⟨List.pairwise_append.mpr ⟨H.asc, List.pairwise_singleton _ _, fun a ha b hb' => ?_⟩, fun a ha => ?_, fun j a ha => ?_⟩
  · rw [List.mem_singleton.mp hb', hT]; exact H.lt ha
  · rcases List.mem_append.mp ha with ha | ha
    · exact H.low a ha
    · rw [List.mem_singleton.mp ha]; exact hb
  · rcases Nat.lt_or_ge j Ts.length with hj | hj
    · rw [List.getElem?_append_left hj] at ha
      obtain ⟨x', y', e1, e2', e3⟩ := H.at_ j a ha
      exact ⟨x', y', e1, e2', hk _ _ (H.low a (List.mem_of_getElem? ha)) e3⟩
    · rw [List.getElem?_append_right hj] at ha
      have hj0 : j - Ts.length = 0 := by
        rcases Nat.eq_zero_or_pos (j - Ts.length) with h | h
        · exact h
        · rw [List.getElem?_eq_none (show [T].length ≤ j - Ts.length from h)] at ha; cases ha
      rw [hj0] at ha
      injection ha with ha
      subst ha
      have : j = Ts.length := by omega
      subst this
      exact ⟨x, y, hx, hy, hp⟩
theorem Handed.keep {h h' : Heap} {base : Nat} {Ts : List Addr} (H : Handed h base Ts xs ys) (hk : ∀ c o, base ≤ c → h.get? c = some o → h'.get? c = some o) : Handed h' base Ts xs ys :=
  ⟨H.asc, H.low, fun j a ha => by
    obtain ⟨x, y, e1, e2', e3⟩ := H.at_ j a ha
    exact ⟨x, y, e1, e2', hk _ _ (H.low a (List.mem_of_getElem? ha)) e3⟩⟩
/-- list.extend's loop -/
theorem zip_loop {S base : Addr} {res : Value} {R : Result → Shared → Prop} (hh : A.in1.handled = none) (D : ZipApart z TI TO i1 i2 l1 l2) (hsz : ys.size = xs.size) (hn : xs.size ≤ 1000)
    (n1 : TI ≠ S) (n2 : i1 ≠ S) (n3 : i2 ≠ S) (n4 : l1 ≠ S) (n5 : l2 ≠ S) (n6 : z ≠ S) (n7 : TO ≠ S) (b1 : z < base) (b2 : TO < base) (b3 : i1 < base) (b4 : i2 < base) (b5 : S < base) :
    ∀ (k i : Nat) (s : Shared) (Ts : List Addr) (acc : Array Value) (c : Nat), xs.size - i = k → i ≤ xs.size → ZW s.heap z TI TO i1 i2 l1 l2 xs ys i → s.heap.get? S = some { cls := .type "list", dict := none, data := .seq acc c, slots := #[] } → acc.toList = Ts.map Value.ref → Ts.length = i → Handed s.heap base Ts xs ys → base ≤ s.heap.objs.size →
    (∀ h' Ts' acc' c', Ts'.length = xs.size → acc'.toList = Ts'.map Value.ref → Handed h' base Ts' xs ys → h'.get? S = some { cls := .type "list", dict := none, data := .seq acc' c', slots := #[] } → (∀ b o, b ≠ z → b ≠ TO → b ≠ i1 → b ≠ i2 → b ≠ S → s.heap.get? b = some o → h'.get? b = some o) → R (.ok (.ret res)) { s with heap := h' }) →
    codeAny (model prog w) A (.builtin "list.extend.loop" ⟨[.ref S, .ref z, res], []⟩) R s := by
  have hne : ∀ {c a : Addr}, a < base → base ≤ c → c ≠ a := fun h1 h2 => Nat.ne_of_gt (Nat.lt_of_lt_of_le h1 h2)
  intro k
  induction k with
  | zero =>
    intro i s Ts acc c hk hi Z hS hacc hl H hb hR
    have hin : i = xs.size := by omega
    refine codeAny_builtin F.entry_extend_loop ?_
    rw [Around.under_plainId F.plain_extend_loop _]
    show wpAny _ A.in1 (pyNext (.ref z) >>= _) _ _ s
    refine wpAny_bind (Z.stop hh D (Array.getElem?_eq_none (by omega)) fun h' hkp => ?_)
    have hkb : ∀ c o, base ≤ c → s.heap.get? c = some o → h'.get? c = some o := fun c o hc e => hkp c o (hne b1 hc) (hne b2 hc) (hne b3 hc) (hne b4 hc) e
    exact wpAny_pure (hR h' Ts acc c (by omega) hacc (H.keep hkb) (hkp S _ (Ne.symm n6) (Ne.symm n7) (Ne.symm n2) (Ne.symm n3) hS) fun b o h1 h2 h3 h4 _ e => hkp b o h1 h2 h3 h4 e)
  | succ k ih =>
    intro i s Ts acc c hk hi Z hS hacc hl H hb hR
    have hlt : i < xs.size := by omega
    have hx := Array.getElem?_eq_getElem hlt
    have hy := Array.getElem?_eq_getElem (show i < ys.size by omega)
    have hasz : acc.size = Ts.length := by rw [← Array.length_toList, hacc, List.length_map]
    refine codeAny_builtin F.entry_extend_loop ?_
    rw [Around.under_plainId F.plain_extend_loop _]
    show wpAny _ A.in1 (pyNext (.ref z) >>= _) _ _ s
    refine wpAny_bind (Z.item D hx hy fun h' Z' hp hz hkp => ?_)
    have hS' := hkp S _ (Ne.symm n6) (Ne.symm n7) (Ne.symm n2) (Ne.symm n3) hS
    show wpAny _ A.in1 (updateSeq S (·.push (.ref s.heap.objs.size)) >>= _) _ _ _
    refine wpAny_bind ?_
    have hH' : Handed h' base (Ts ++ [s.heap.objs.size]) xs ys := H.push (fun c o hc e => hkp c o (hne b1 hc) (hne b2 hc) (hne b3 hc) (hne b4 hc) e) rfl hb hp (by rw [hl]; exact hx) (by rw [hl]; exact hy)
    refine wpAny_updateSeq (s := { s with heap := h' }) hS' rfl (wpAny_pure ⟨plainId_quiet F.plain_extend_loop _, ih (i + 1) _ (Ts ++ [s.heap.objs.size]) (acc.push (.ref s.heap.objs.size)) _ (by omega) (by omega) ?_ (Heap.get?_update_self _ hS' rfl) ?_ (by rw [List.length_append, hl]; rfl) ?_ ?_ fun h2 Ts' acc' c' e1 e2' e3 e4 e5 => ?_⟩) ?_ ?_
    · exact Z'.frame (S := S) (fun c o hc e => (Heap.get?_update_other _ _ (Ne.symm hc)).trans e) (Heap.get?_update_self _ hS' rfl) n1 n2 n3 n4 n5 n6 n7
    · rw [Array.toList_push, hacc, List.map_append]; rfl
    · exact hH'.keep fun c o hc e => (Heap.get?_update_other _ _ (Ne.symm (hne b5 hc))).trans e
    · show base ≤ (Heap.update h' S _).objs.size
      rw [Heap.size_update, hz]
      exact Nat.le_succ_of_le hb
    · exact hR h2 Ts' acc' c' e1 e2' e3 e4 fun b o h1 h2 h3 h4 h5 e => e5 b o h1 h2 h3 h4 h5 ((Heap.get?_update_other _ _ (Ne.symm h5)).trans (hkp b o h1 h2 h3 h4 e))
    · have := sizeLine_eq
      omega
    · show (acc.push _).size ≤ sizeLine + 1
      rw [Array.size_push, hasz, sizeLine_eq]; omega
theorem zip_no_len : typeLookup (.type "zip") "__len__" = pure none := by rw [typeLookup_type, builtinLookup_eq_fast]; kernel_rfl
theorem zip_no_hint : typeLookup (.type "zip") "__length_hint__" = pure none := by rw [typeLookup_type, builtinLookup_eq_fast]; kernel_rfl
theorem extend_zip {S base : Addr} {res : Value} {c₀ : Nat} {R : Result → Shared → Prop} (hh : A.in1.handled = none) (D : ZipApart z TI TO i1 i2 l1 l2) (hsz : ys.size = xs.size) (hn : xs.size ≤ 1000)
    (n1 : TI ≠ S) (n2 : i1 ≠ S) (n3 : i2 ≠ S) (n4 : l1 ≠ S) (n5 : l2 ≠ S) (n6 : z ≠ S) (n7 : TO ≠ S) (b1 : z < base) (b2 : TO < base) (b3 : i1 < base) (b4 : i2 < base) (b5 : S < base) (Z : ZW s.heap z TI TO i1 i2 l1 l2 xs ys 0)
    (hS : s.heap.get? S = some { cls := .type "list", data := .seq #[] c₀ }) (hb : base ≤ s.heap.objs.size)
    (hR : ∀ h' Ts' acc' c', Ts'.length = xs.size → acc'.toList = Ts'.map Value.ref → Handed h' base Ts' xs ys → h'.get? S = some { cls := .type "list", dict := none, data := .seq acc' c', slots := #[] } → (∀ b o, b ≠ z → b ≠ TO → b ≠ i1 → b ≠ i2 → b ≠ S → s.heap.get? b = some o → h'.get? b = some o) → R (.ok (.ret res)) { s with heap := h' }) :
    wpAny (model prog w) A.in1 (Builtin.List.listExtendWith (.ref S) (.ref z) res)
      (fun fin s' => match fin with | .done f => R (.ok f) s' | .again c' => c'.quiet = true ∧ codeAny (model prog w) A c' R s') (fun e s' => R (.error e) s') s := by
  unfold Builtin.List.listExtendWith
  refine wpAny_bind (wpAny_typeOf Z.type ?_)
  have h1 : Builtin.List.listSameRef (.ref S) (.ref z) = false := by simp [Builtin.List.listSameRef, Ne.symm n6]
  have h2 : (Value.type "zip" == Value.type "list") = false := by decide
  have h3 : (Value.type "zip" == Value.type "tuple") = false := by decide
  simp only [h1, h2, h3, Bool.or_false, Bool.false_eq_true, if_false]
  refine wpAny_bind (Z.self ?_)
  refine wpAny_bind (wpAny_holding ?_)
  unfold Builtin.List.listLengthHint
  refine wpAny_bind (wpAny_specialOf Z.type zip_no_len ?_)
  show wpAny _ A.in1 (specialOf (Value.ref z) (Str.ofString "__length_hint__") >>= _) _ _ _
  refine wpAny_bind (wpAny_specialOf Z.type zip_no_hint ?_)
  refine wpAny_pure ?_
  show wpAny _ A.in1 (rule "list.extend.makes-room" >>= fun _ => Builtin.List.listTouch (.ref S) >>= fun _ =>
    again (.builtin "list.extend.loop" ⟨[.ref S, .ref z, res], []⟩)) _ _ _
  refine wpAny_bind (wpAny_rule ?_)
  refine wpAny_bind ?_
  show wpAny _ A.in1 (updateSeq S (·.push .none) >>= fun _ => updateSeq S (·.pop)) _ _ _
  refine wpAny_bind (wpAny_updateSeq hS rfl ?_)
  have hS₂ := Heap.get?_update_self (Obj.mapSeq (·.push Value.none)) hS rfl
  refine wpAny_updateSeq (hz := by seq_fits) hS₂ rfl ?_
  have hS₃ := Heap.get?_update_self (Obj.mapSeq (·.pop)) hS₂ rfl
  have oth : ∀ b o, b ≠ S → s.heap.get? b = some o → ((s.heap.update S (Obj.mapSeq (·.push Value.none))).update S (Obj.mapSeq (·.pop))).get? b = some o :=
    fun b o hb e => (Heap.get?_update_other _ _ (Ne.symm hb)).trans ((Heap.get?_update_other _ _ (Ne.symm hb)).trans e)
  refine wpAny_pure ⟨plainId_quiet F.plain_extend_loop _, zip_loop hh D hsz hn n1 n2 n3 n4 n5 n6 n7 b1 b2 b3 b4 b5 _ 0 _ [] _ _ rfl (Nat.zero_le _) (Z.frame (S := S) (fun c o hc e => oth c o hc e) hS₃ n1 n2 n3 n4 n5 n6 n7) hS₃ rfl rfl ⟨List.Pairwise.nil, (fun T hT => by cases hT), (fun j T hT => by simp at hT)⟩ ?_ fun h' Ts' acc' c' e1 e2' e3 e4 e5 => ?_⟩
  · show base ≤ ((s.heap.update S _).update S _).objs.size
    rw [Heap.size_update, Heap.size_update]; exact hb
  · exact hR h' Ts' acc' c' e1 e2' e3 e4 fun b o h1 h2 h3 h4 h5 e => e5 b o h1 h2 h3 h4 h5 (oth b o h5 e)
theorem init_zip {S base : Addr} {R : Result → Shared → Prop} (hh : A.in1.handled = none) (D : ZipApart z TI TO i1 i2 l1 l2) (hsz : ys.size = xs.size) (hn : xs.size ≤ 1000)
    (n1 : TI ≠ S) (n2 : i1 ≠ S) (n3 : i2 ≠ S) (n4 : l1 ≠ S) (n5 : l2 ≠ S) (n6 : z ≠ S) (n7 : TO ≠ S) (b1 : z < base) (b2 : TO < base) (b3 : i1 < base) (b4 : i2 < base) (b5 : S < base) (Z : ZW s.heap z TI TO i1 i2 l1 l2 xs ys 0)
    (hS : s.heap.get? S = some { cls := .type "list", data := .seq #[] }) (hb : base ≤ s.heap.objs.size)
    (hR : ∀ h' Ts' acc' c', Ts'.length = xs.size → acc'.toList = Ts'.map Value.ref → Handed h' base Ts' xs ys → h'.get? S = some { cls := .type "list", dict := none, data := .seq acc' c', slots := #[] } → (∀ b o, b ≠ z → b ≠ TO → b ≠ i1 → b ≠ i2 → b ≠ S → s.heap.get? b = some o → h'.get? b = some o) → R (.ok (.ret .none)) { s with heap := h' }) :
    wpAny (model prog w) A.in1 (Builtin.«list.__init__» ⟨[.ref S, .ref z], []⟩)
      (fun fin s' => match fin with | .done f => R (.ok f) s' | .again c' => c'.quiet = true ∧ codeAny (model prog w) A c' R s') (fun e s' => R (.error e) s') s := by
  show wpAny _ A.in1 (do let old ← Builtin.List.listItems (.ref S); Builtin.List.listUpdate (.ref S) (fun _ => #[]); letGo old.toList.reverse; Builtin.List.listExtendWith (.ref S) (.ref z) .none) _ _ s
  refine wpAny_bind ?_
  unfold Builtin.List.listItems
  refine wpAny_bind (wpAny_seqItems hS rfl (wpAny_pure ?_))
  show wpAny _ A.in1 (updateSeq S (fun _ => #[]) >>= fun _ => letGo (#[] : Array Value).toList.reverse >>= fun _ => Builtin.List.listExtendWith (.ref S) (.ref z) .none) _ _ s
  refine wpAny_bind (wpAny_updateSeq hS rfl ?_)
  have hS₂ := Heap.get?_update_self (Obj.mapSeq (fun _ => (#[] : Array Value))) hS rfl
  have oth : ∀ b o, b ≠ S → s.heap.get? b = some o → (s.heap.update S (Obj.mapSeq (fun _ => (#[] : Array Value)))).get? b = some o :=
    fun b o hb e => (Heap.get?_update_other _ _ (Ne.symm hb)).trans e
  refine wpAny_bind (wpAny_letGo ?_)
  refine extend_zip hh D hsz hn n1 n2 n3 n4 n5 n6 n7 b1 b2 b3 b4 b5 (Z.frame (S := S) (fun c o hc e => oth c o hc e) hS₂ n1 n2 n3 n4 n5 n6 n7) hS₂ ?_ fun h' Ts' acc' c' e1 e2' e3 e4 e5 => ?_
  · show base ≤ (s.heap.update S _).objs.size
    rw [Heap.size_update]; exact hb
  · exact hR h' Ts' acc' c' e1 e2' e3 e4 fun b o h1 h2 h3 h4 h5 e => e5 b o h1 h2 h3 h4 h5 (oth b o h5 e)
/-- list(zip) -/
theorem call_list_zip {Q : Value → Shared → Prop} (hh : A.in1.in1.handled = none) (D : ZipApart z TI TO i1 i2 l1 l2) (hsz : ys.size = xs.size) (hn : xs.size ≤ 1000) (Z : ZW s.heap z TI TO i1 i2 l1 l2 xs ys 0)
    (m1 : TI < s.heap.objs.size) (m2 : i1 < s.heap.objs.size) (m3 : i2 < s.heap.objs.size) (m4 : l1 < s.heap.objs.size) (m5 : l2 < s.heap.objs.size) (m6 : z < s.heap.objs.size) (m7 : TO < s.heap.objs.size)
    (hQ : ∀ h' Ts' acc' c', Ts'.length = xs.size → acc'.toList = Ts'.map Value.ref → Handed h' (s.heap.objs.size + 1) Ts' xs ys → h'.get? s.heap.objs.size = some { cls := .type "list", dict := none, data := .seq acc' c', slots := #[] } →
      (∀ b o, b ≠ z → b ≠ TO → b ≠ i1 → b ≠ i2 → s.heap.get? b = some o → h'.get? b = some o) → Q (.ref s.heap.objs.size) { s with heap := h' }) :
    wpAny (model prog w) A (call (.type "list") [.ref z]) Q E s := by
  refine callType_codes (Q₁ := fun obj s₁ => obj = .ref s.heap.objs.size ∧ s₁ = { s with heap := s.heap.push { cls := .type "list", data := .seq #[] } }) F.called_list (F.typeCall_list_1 _) F.entry_list_init
    (code_list_new _ ⟨rfl, rfl⟩) fun obj s₁ h₁ => ?_
  obtain ⟨rfl, rfl⟩ := h₁
  have hS : (s.heap.push { cls := .type "list", data := .seq #[] }).get? s.heap.objs.size = some { cls := .type "list", data := .seq #[] } := Heap.get?_push_size _ rfl
  have np : ∀ c o, c ≠ s.heap.objs.size → s.heap.get? c = some o → (s.heap.push { cls := .type "list", data := .seq #[] }).get? c = some o := fun c o _ e => Heap.get?_push_of_some _ e
  have su : ∀ {a : Addr}, a < s.heap.objs.size → a < s.heap.objs.size + 1 := fun h => Nat.lt_succ_of_lt h
  refine ⟨⟨_, hS, rfl⟩, F.args_list_init_2 _ _, init_zip (base := s.heap.objs.size + 1) hh D hsz hn (Nat.ne_of_lt m1) (Nat.ne_of_lt m2) (Nat.ne_of_lt m3) (Nat.ne_of_lt m4) (Nat.ne_of_lt m5) (Nat.ne_of_lt m6) (Nat.ne_of_lt m7) (su m6) (su m7) (su m2) (su m3) (Nat.lt_succ_self _)
    (Z.frame (S := s.heap.objs.size) np hS (Nat.ne_of_lt m1) (Nat.ne_of_lt m2) (Nat.ne_of_lt m3) (Nat.ne_of_lt m4) (Nat.ne_of_lt m5) (Nat.ne_of_lt m6) (Nat.ne_of_lt m7)) hS (by rw [Heap.size_push]; exact Nat.le_refl _) fun h' Ts' acc' c' e1 e2' e3 e4 e5 => ?_⟩
  exact ⟨rfl, hQ h' Ts' acc' c' e1 e2' e3 e4 fun b o h1 h2 h3 h4 e => e5 b o h1 h2 h3 h4 (Nat.ne_of_lt (Heap.lt_size e)) (Heap.get?_push_of_some _ e)⟩
end
def tupsU (H : Hp) : List Addr → List (V × V) → Hp
  | T :: Ts, (x, y) :: r => tupsU (upd H T (.tup [x, y])) Ts r
  | _, _ => H
theorem tupsU_ne : ∀ (Ts : List Addr) (ps : List (V × V)) (H : Hp) {b : Addr}, b ∉ Ts → tupsU H Ts ps b = H b
  | [], _, _, _, _ => rfl
  | _ :: _, [], _, _, _ => rfl
  | T :: Ts, (x, y) :: r, H, b, hb => by
    show tupsU (upd H T (.tup [x, y])) Ts r b = H b
    rw [tupsU_ne Ts r _ fun h => hb (List.mem_cons_of_mem _ h), upd_ne fun (h : b = T) => hb (by rw [h]; exact List.mem_cons_self)]
theorem tupsU_at : ∀ (Ts : List Addr) (ps : List (V × V)) (H : Hp), Ts.Nodup → Ts.length = ps.length → ∀ (j : Nat) (T : Addr), Ts[j]? = some T → ∃ x y, ps[j]? = some (x, y) ∧ tupsU H Ts ps T = some (.tup [x, y])
  | [], _, _, _, _, _, _, h => by simp at h
  | _ :: _, [], _, _, hl, _, _, _ => by simp at hl
  | T0 :: Ts, (x, y) :: r, H, hn, hl, j, T, h => by
    obtain ⟨hn1, hn2⟩ := List.nodup_cons.mp hn
    cases j with
    | zero =>
      injection h with h
      subst h
      exact ⟨x, y, rfl, (tupsU_ne Ts r _ hn1).trans upd_same⟩
    | succ j => exact tupsU_at Ts r (upd H T0 (.tup [x, y])) hn2 (by simpa using hl) j T (by simpa using h)
section
variable {X : Cx} {pins : List (Addr × Obj)} {σ : L2.St} {H H' : Hp} {s : Shared} {h' : Heap}
theorem Inv_laids (I : L2.Inv X pins σ H s) (k : ∀ b u, s.heap.get? b = some u → h'.get? b = some u) (agree : ∀ b u, H b = some u → H' b = some u) (old : ∀ b, b < s.heap.objs.size → H' b = H b)
    (new : ∀ b u, H b = none → H' b = some u → ObjOk X.prog X.w H' h' b u) : L2.Inv X pins σ H' { s with heap := h' } := by
  refine I.un (t' := s.toks) ⟨fun b u q _ _ _ => k b u q, fun b u q _ _ _ => ⟨u.slots, k b u q⟩, fun b u q n _ => by rw [old b (Heap.lt_size q)]; exact n, fun b u q _ => ⟨u, k b u q⟩, fun b xs q => agree b _ q, fun b u xs q => agree b _ q, fun b ps q => ⟨#[], by rw [agree b _ q]; simp⟩⟩ fun b u e => ?_
  rcases hb : H b with _ | o1
  · exact new b u hb e
  · rw [agree b o1 hb] at e
    cases e
    exact (I.hok b u hb).stay (fun c w _ q => k c w q) (fun c q => agree c _ q) fun c xs q => agree c _ q
def tListZip (K : PySem.W.Frag) (ta : TA) : TE := fun σ H Q => ta σ H fun vs H1 => ∃ a b xs ys, vs = [.ref a, .ref b] ∧ SqT K H1 a xs ∧ SqT K H1 b ys ∧ ys.length = xs.length ∧ xs.length ≤ 1000 ∧
  ∀ (Ts : List Addr) (p : Addr), Ts.length = xs.length → Ts.Nodup → (∀ T ∈ Ts, H1 T = none) → H1 p = none → p ∉ Ts → Q (.ref p) (upd (tupsU H1 Ts (xs.zip ys)) p (.lst (Ts.map V.ref)))
theorem vals_get {xs : List V} {us : List Value} (r : Vals xs us) {j : Nat} {u : Value} (h : us[j]? = some u) : ∃ x, xs[j]? = some x ∧ RelV x u := by
  induction r generalizing j with
  | nil => simp at h
  | cons r t ih =>
    cases j with
    | zero => injection h with h; subst h; exact ⟨_, rfl, r⟩
    | succ j => exact ih (by simpa using h)
theorem vals_refs : ∀ Ts : List Addr, Vals (Ts.map V.ref) (Ts.map Value.ref)
  | [] => .nil
  | _ :: r => .cons rfl (vals_refs r)
theorem pe_listZip {e e2 : Expr} {ta : TA} {p p2 q pos : Pos} (hc : X.calm = true) (hg : Gl X "list") (hm : X.mg "list" = none) (hg2 : Gl X "zip") (hm2 : X.mg "zip" = none) (ha : PA X [e, e2] ta)
    (hs : starEach [e, e2] X.env = (false, eval e X.env) :: starEach [e2] X.env := by rfl) (hpl : (backTo q (starEach [e2] X.env)).any (·.1) = false := by rfl) :
    PE X (.Call (.Name "list" p) [.Call (.Name "zip" p2) [e, e2] [] q] [] pos) (tListZip X.K ta) := by
  refine ⟨fun pins s σ H Q I h => ?_⟩
  refine Call_ (ld_blt I hg hm PyProof.Rows.boot_list ?_)
  refine PyProof.Rows.callWith_type1 (PyProof.Rows.args_cons ?_ rfl) rfl rfl
  refine Call_ (ld_blt I hg2 hm2 PyProof.Rows.boot_zip (PyProof.Rows.callWith_type1 (thn (ha.run q pins s σ H _ I h) fun us s1 ⟨vs, H1, I1, r1, q1⟩ => ?_) hs hpl))
  obtain ⟨a, b, xs, ys, ex, hta, htb, hly, hlx, q1⟩ := q1
  subst ex
  cases r1 with
  | cons r rr =>
    cases rr with
    | cons r' rr =>
      cases rr
      cases r
      cases r'
      obtain ⟨its, rv, pl, hz⟩ := I1.tuple hta
      obtain ⟨its2, rv2, pl2, hz2⟩ := I1.tuple htb
      obtain ⟨o1, ho1, _⟩ := id pl
      obtain ⟨o2, ho2, _⟩ := id pl2
      have la := Heap.lt_size ho1
      have lb := Heap.lt_size ho2
      refine RZ.call_zipT (show s1.heap.IsTuple a its.toArray from pl) (show s1.heap.IsTuple b its2.toArray from pl2) fun h1 hzip hTI hTO hi1 hi2 hsz hk => ?_
      refine PyProof.Rows.args_nil ?_
      have hx : its.toArray.size = xs.length := by rw [List.size_toArray]; exact rv.length.symm
      have hy : its2.toArray.size = ys.length := by rw [List.size_toArray]; exact rv2.length.symm
      have D := PySem.W.ktu_apart s1.heap.objs.size a b la lb
      have pl' : h1.IsTuple a its.toArray := Heap.IsTuple.at (h := s1.heap) pl fun o e => hk _ o e
      have pl2' : h1.IsTuple b its2.toArray := Heap.IsTuple.at (h := s1.heap) pl2 fun o e => hk _ o e
      have Z : ZW h1 (s1.heap.objs.size + 4) (s1.heap.objs.size + 2) (s1.heap.objs.size + 3) s1.heap.objs.size (s1.heap.objs.size + 1) a b its.toArray its2.toArray 0 := ⟨hTI, hi1, hi2, pl', pl2', .inl ⟨rfl, hzip, _, _, hTO⟩⟩
      have big : ∀ n, n < 5 → s1.heap.objs.size + n < h1.objs.size := fun n hn => by rw [hsz]; exact Nat.add_lt_add_left hn _
      have sm : ∀ {c : Addr}, c < s1.heap.objs.size → c < h1.objs.size := fun h => Nat.lt_of_lt_of_le h (by rw [hsz]; exact Nat.le_add_right _ _)
      refine call_list_zip (s := { s1 with heap := h1 }) (by simp [I1.ok.hd hc]) D (by rw [hx, hy, hly]) (by rw [hx]; exact hlx) Z (big 2 (by decide)) (big 0 (by decide)) (big 1 (by decide)) (sm la) (sm lb) (big 4 (by decide)) (big 3 (by decide)) fun h2 Ts acc c e1 e2' HH hS hk2 => ?_
      have hN : s1.heap.objs.size ≤ h1.objs.size := by rw [hsz]; exact Nat.le_add_right _ _
      have kept : ∀ c o, s1.heap.get? c = some o → h2.get? c = some o := fun c o e => by
        have lc := Heap.lt_size e
        have ne : ∀ n, c ≠ s1.heap.objs.size + n := fun n => Nat.ne_of_lt (Nat.lt_of_lt_of_le lc (Nat.le_add_right _ _))
        exact hk2 c o (ne 4) (ne 3) (ne 0) (ne 1) (hk c o e)
      have fr : ∀ {c : Addr}, s1.heap.objs.size ≤ c → H1 c = none := fun h => I1.hok.fresh h
      have hTn : Ts.Nodup := HH.asc.imp fun h => Nat.ne_of_lt h
      have hTl : Ts.length = xs.length := by rw [e1, hx]
      have hTf : ∀ T ∈ Ts, s1.heap.objs.size ≤ T := fun T hT => Nat.le_trans hN (Nat.le_trans (Nat.le_succ _) (HH.low T hT))
      have hpT : h1.objs.size ∉ Ts := fun h => absurd (HH.low _ h) (Nat.not_succ_le_self _)
      refine ⟨.ref h1.objs.size, upd (tupsU H1 Ts (xs.zip ys)) h1.objs.size (.lst (Ts.map V.ref)), ?_, rfl, q1 Ts h1.objs.size hTl hTn (fun T hT => fr (hTf T hT)) (fr hN) hpT⟩
      show L2.Inv X pins σ _ { s1 with heap := h2 }
      refine Inv_laids I1 (h' := h2) kept (fun c u e => ?_) (fun c hlt => ?_) fun c u hn e => ?_
      · have n1 : c ≠ h1.objs.size := fun h => by rw [h, fr hN] at e; cases e
        have n2 : c ∉ Ts := fun h => by rw [fr (hTf c h)] at e; cases e
        rw [upd_ne n1, tupsU_ne Ts _ _ n2]; exact e
      · have n1 : c ≠ h1.objs.size := Nat.ne_of_lt (Nat.lt_of_lt_of_le hlt hN)
        have n2 : c ∉ Ts := fun h => absurd (hTf c h) (Nat.not_le_of_lt hlt)
        rw [upd_ne n1, tupsU_ne Ts _ _ n2]
      · by_cases n1 : c = h1.objs.size
        · subst n1
          rw [upd_same] at e
          cases e
          refine ⟨by rw [List.length_map, hTl]; have := sizeLine_eq; omega, acc.toList, c, ?_, by simpa using hS⟩
          rw [e2']
          exact vals_refs Ts
        · rw [upd_ne n1] at e
          by_cases n2 : c ∈ Ts
          · obtain ⟨j, hj, ej⟩ := List.getElem_of_mem n2
            have hj' : Ts[j]? = some c := by rw [List.getElem?_eq_getElem hj, ej]
            obtain ⟨x, y, hp, ht⟩ := tupsU_at Ts (xs.zip ys) H1 hTn (by rw [List.length_zip, hTl, hly, Nat.min_self]) j c hj'
            rw [ht] at e
            cases e
            obtain ⟨u, v, g1, g2, g3⟩ := HH.at_ j c hj'
            obtain ⟨x', gx, rx⟩ := vals_get rv (by simpa using g1)
            obtain ⟨y', gy, ry⟩ := vals_get rv2 (by simpa using g2)
            have : (xs.zip ys)[j]? = some (x', y') := by rw [List.getElem?_zip_eq_some]; exact ⟨gx, gy⟩
            rw [this] at hp
            cases hp
            exact ⟨by show 2 ≤ sizeLine; have := sizeLine_eq; omega, [u, v], .cons rx (.cons ry .nil), ⟨_, g3, rfl, 0, rfl⟩⟩
          · rw [tupsU_ne Ts _ _ n2, hn] at e; cases e
end
def tupL : D → Option (List D)
  | .tup l => some l
  | .rot l => some l
  | _ => none
noncomputable def zpL (ds : List D) (O : Store) : R D := match ds with
  | [x, y] => (match tupL x, tupL y with
    | some l, some l2 => if l2.length = l.length ∧ l.length ≤ 1000 then .ok (.lst (zipD l l2)) O else .stuck
    | _, _ => .stuck)
  | _ => .stuck
/-- list(zip(a, b)) of two tuples of one length -/
noncomputable def eLsZip (ms : DA) : DE := fun σ O => (ms σ O).bind zpL
section
variable {U : Univ} {ad : List Addr} {O : Store}
theorem tup_at {H : Hp} {d : D} {v : V} {l : List D} (r : Rep U ad H d v) (e : tupL d = some l) : ∃ a xs, v = .ref a ∧ SqT U.K H a xs ∧ Reps U ad H l xs := by
  cases d with
  | tup l' =>
    cases e
    obtain ⟨a, xs, rfl, f1, n1, p1⟩ := r
    exact ⟨a, xs, rfl, .inl (.inl f1), p1⟩
  | rot l' =>
    cases e
    obtain ⟨a, xs, rfl, f1, p1⟩ := r
    exact ⟨a, xs, rfl, f1.sq, p1⟩
  | _ => cases e
theorem reps_zip : ∀ (Ts : List Addr) (l l2 : List D) (xs ys : List V) (H : Hp), Sim U ad O H → Reps U ad H l xs → Reps U ad H l2 ys → Ts.length = xs.length → ys.length = xs.length → Ts.Nodup → (∀ T ∈ Ts, H T = none) →
    Step ad H ad (tupsU H Ts (xs.zip ys)) ∧ Sim U ad O (tupsU H Ts (xs.zip ys)) ∧ Reps U ad (tupsU H Ts (xs.zip ys)) (zipD l l2) (Ts.map V.ref)
  | [], l, l2, [], [], H, S, r1, r2, _, _, _, _ => by
    have h1 := r1.length
    have e1 : l = [] := List.eq_nil_of_length_eq_zero (by simpa using h1)
    subst e1
    exact ⟨.refl, S, rfl⟩
  | [], _, _, _ :: _, _, _, _, _, _, h, _, _, _ => by simp at h
  | [], _, _, [], _ :: _, _, _, _, _, _, h, _, _ => by simp at h
  | _ :: _, _, _, [], _, _, _, _, _, h, _, _, _ => by simp at h
  | _ :: _, _, _, _ :: _, [], _, _, _, _, _, h, _, _ => by simp at h
  | T :: Ts, l, l2, x :: xs, y :: ys, H, S, r1, r2, h1, h2, hn, hf => by
    cases l with
    | nil => cases r1
    | cons d l =>
      cases l2 with
      | nil => cases r2
      | cons d2 l2 =>
        obtain ⟨v, vs, ev, q1, t1⟩ := r1
        cases ev
        obtain ⟨v, vs, ev, q2, t2⟩ := r2
        cases ev
        obtain ⟨hn1, hn2⟩ := List.nodup_cons.mp hn
        have hT := hf T List.mem_cons_self
        have st : Step ad H ad (upd H T (.tup [x, y])) := .new hT (S.out hT)
        have rp : Rep U ad (upd H T (.tup [x, y])) (.tup [d, d2]) (.ref T) := rep_tup S hT ⟨_, _, rfl, q1, _, _, rfl, q2, rfl⟩
        obtain ⟨i1, i2', i3⟩ := reps_zip Ts l l2 xs ys (upd H T (.tup [x, y])) (S.new hT) (t1.keep st) (t2.keep st) (by simpa using h1) (by simpa using h2) hn2 fun T' hT' => by
          rw [upd_ne fun (e : T' = T) => hn1 (e ▸ hT')]
          exact hf T' (List.mem_cons_of_mem _ hT')
        exact ⟨st.trans i1, i2', ⟨_, _, rfl, rp.keep i1, i3⟩⟩
end
section
variable {U : Univ} {c : Cs} {k : Nat} {p p2 q pos : Pos} {e e' : Expr} {ms : DA}
theorem sLsZip (ha : SA U c k [e, e'] ms) (hg : c.sc.names.lookup ("list" : Str) = some .globalImplicit) (hm : U.mg "list" = none) (hg2 : c.sc.names.lookup ("zip" : Str) = some .globalImplicit) (hm2 : U.mg "zip" = none)
    (hs : ∀ env : PySem.Env, starEach [e, e'] env = (false, eval e env) :: starEach [e'] env := by intro _; rfl) (hpl : ∀ env : PySem.Env, (backTo q (starEach [e'] env)).any (·.1) = false := by intro _; rfl) (hh : c.hot = false := by rfl) :
    SE U c k (.Call (.Name "list" p) [.Call (.Name "zip" p2) [e, e'] [] q] [] pos) (eLsZip ms) := by
  intro X W C
  obtain ⟨t, pt, f⟩ := ha X W C
  have hcalm := C.calm hh
  obtain ⟨_, eu⟩ := C.u
  subst eu
  refine ⟨_, pe_listZip hcalm (by show X.env.scope.names.lookup _ = _; rw [C.s]; exact hg) hm (by show X.env.scope.names.lookup _ = _; rw [C.s]; exact hg2) hm2 pt (hs _) (hpl _), fun ad O H σ sv Q S r h => f ad O H σ sv _ S r (PostL.mono (PostL.bind h) ?_)⟩
  rintro vs H1 ⟨ad1, O1, ds, s1, S1, r1, h1⟩
  unfold zpL at h1
  split at h1
  · rename_i _ x y
    obtain ⟨v, v2, rfl, q1, q2⟩ := reps2 r1
    cases e1 : tupL x with
    | none => rw [e1] at h1; exact h1.elim
    | some l =>
      cases e2' : tupL y with
      | none => rw [e1, e2'] at h1; exact h1.elim
      | some l2 =>
        rw [e1, e2'] at h1
        simp only at h1
        split at h1
        · rename_i hl
          obtain ⟨a, xs, rfl, sa, ra⟩ := tup_at q1 e1
          obtain ⟨b, ys, rfl, sb, rb⟩ := tup_at q2 e2'
          have la := ra.length
          have lb := rb.length
          refine ⟨a, b, xs, ys, rfl, sa, sb, by omega, by omega, fun Ts pp hTl hTn hTf hp hpT => ?_⟩
          obtain ⟨i1, i2', i3⟩ := reps_zip Ts l l2 xs ys H1 S1 ra rb hTl (by omega) hTn hTf
          have hp' : tupsU H1 Ts (xs.zip ys) pp = none := by rw [tupsU_ne Ts _ _ hpT]; exact hp
          exact h1 ad1 _ _ (i1.trans (.new hp' (i2'.out hp'))) (i2'.new hp') (rep_lst i2' hp' i3)
        · exact h1.elim
  · exact h1.elim
theorem wLsZip (h : gB c "list" = true) (hm : U.mg "list" = none) (h2 : gB c "zip" = true) (hm2 : U.mg "zip" = none) (ha : SA U c k [e, e'] ms)
    (hs : ∀ env : PySem.Env, starEach [e, e'] env = (false, eval e env) :: starEach [e'] env := by intro _; rfl) (hpl : ∀ env : PySem.Env, (backTo q (starEach [e'] env)).any (·.1) = false := by intro _; rfl) (hh : c.hot = false := by rfl) :
    SE U c k (.Call (.Name "list" p) [.Call (.Name "zip" p2) [e, e'] [] q] [] pos) (eLsZip ms) := sLsZip ha (gB_lk h) hm (gB_lk h2) hm2 hs hpl hh
end
end CP
namespace CP
open PySem PySem.Spec PyProof.Rows L2

/-- d[y] = v in a dict: k the key that y is -/
def dPut (t : Bool) (ks vs : List D) (y : D) (k : List Key) (v : D) : D :=
  if (ks.any fun d => decide (keyOf t d = some k)) = true then .dic t ks (List.zipWith (fun d x => if keyOf t d = some k then v else x) ks vs) else .dic t (ks ++ [y]) (vs ++ [v])
def putDic (o i d : D) (O : Store) : Option Store := match o with
  | .ptr k => (match O[k]? with
    | some (.dic t ks vs) => (keyOf t i).bind fun kk => if ks.length < sizeLine then some (O.set k (dPut t ks vs i kk d)) else none
    | _ => none)
  | _ => none
def putAtX (o i d : D) (O : Store) : Option Store := match putAt o i d O with
  | some O' => some O'
  | none => putDic o i d O
def gtSubX (o i : DE) : DG := fun d σ O => (o σ O).st σ fun x O1 => (i σ O1).st σ fun y O2 => match putAtX x y d O2 with
  | some O3 => .nx σ O3
  | none => .stuck
section
variable {U : Univ} {ad : List Addr} {O : Store} {H : Hp}
theorem kD_key (k : Key) : keyOf false (kD k) = some [k] := by cases k <;> rfl
theorem any_false (k : Key) : ∀ kvs : List (Key × V), ((kvs.map fun p => kD p.1).any fun d => decide (keyOf false d = some [k])) = kvs.any fun kv => decide (kv.1 = k)
  | [] => rfl
  | p :: r => by
    rw [List.map_cons, List.any_cons, List.any_cons, any_false k r, kD_key]
    congr 1
    by_cases h : p.1 = k
    · rw [h, decide_eq_true rfl, decide_eq_true rfl]
    · rw [decide_eq_false h, decide_eq_false (fun z => h (by injection z with z; injection z))]
theorem any_true (k : List Key) : ∀ kvs : List (List Key × V), ((kvs.map fun p => D.tup (p.1.map kD)).any fun d => decide (keyOf true d = some k)) = kvs.any fun kv => decide (kv.1 = k)
  | [] => rfl
  | p :: r => by
    rw [List.map_cons, List.any_cons, List.any_cons, any_true k r, show keyOf true (D.tup (p.1.map kD)) = some p.1 from toKeys_kD' p.1]
    congr 1
    by_cases h : p.1 = k
    · rw [h, decide_eq_true rfl, decide_eq_true rfl]
    · rw [decide_eq_false h, decide_eq_false (fun z => h (by injection z))]
theorem zip_false {k : Key} {v : V} {d : D} (rd : Rep U ad H d v) : ∀ {kvs : List (Key × V)} {vs : List D}, Reps U ad H vs (kvs.map (·.2)) →
    Reps U ad H (List.zipWith (fun q x => if keyOf false q = some [k] then d else x) (kvs.map fun p => kD p.1) vs) ((kvs.map fun kv => if kv.1 = k then (kv.1, v) else kv).map (·.2))
  | [], vs, h => by
    obtain rfl : vs = [] := List.eq_nil_of_length_eq_zero (by simpa using h.length)
    exact rfl
  | p :: r, vs, h => by
    cases vs with
    | nil => exact absurd h.length (by simp)
    | cons x vs =>
      obtain ⟨u, w, e, q, t⟩ := h
      simp only [List.map_cons, List.cons.injEq] at e
      obtain ⟨rfl, rfl⟩ := e
      simp only [List.map_cons, List.zipWith_cons_cons]
      refine ⟨_, _, rfl, ?_, zip_false rd t⟩
      by_cases hk : p.1 = k
      · rw [if_pos hk, if_pos (by rw [kD_key, hk])]; exact rd
      · rw [if_neg hk, if_neg (by rw [kD_key]; exact fun z => hk (by injection z with z; injection z))]; exact q
theorem zip_true {k : List Key} {v : V} {d : D} (rd : Rep U ad H d v) : ∀ {kvs : List (List Key × V)} {vs : List D}, Reps U ad H vs (kvs.map (·.2)) →
    Reps U ad H (List.zipWith (fun q x => if keyOf true q = some k then d else x) (kvs.map fun p => D.tup (p.1.map kD)) vs) ((kvs.map fun kv => if kv.1 = k then (kv.1, v) else kv).map (·.2))
  | [], vs, h => by
    obtain rfl : vs = [] := List.eq_nil_of_length_eq_zero (by simpa using h.length)
    exact rfl
  | p :: r, vs, h => by
    cases vs with
    | nil => exact absurd h.length (by simp)
    | cons x vs =>
      obtain ⟨u, w, e, q, t⟩ := h
      simp only [List.map_cons, List.cons.injEq] at e
      obtain ⟨rfl, rfl⟩ := e
      have ek : keyOf true (D.tup (p.1.map kD)) = some p.1 := toKeys_kD' p.1
      simp only [List.map_cons, List.zipWith_cons_cons]
      refine ⟨_, _, rfl, ?_, zip_true rd t⟩
      by_cases hk : p.1 = k
      · rw [if_pos hk, if_pos (by rw [ek, hk])]; exact rd
      · rw [if_neg hk, if_neg (by rw [ek]; exact fun z => hk (by injection z))]; exact q
theorem keys_put {κ : Type} [DecidableEq κ] {f : κ → D} {k : κ} {v : V} : ∀ kvs : List (κ × V), (kvs.map fun kv => if kv.1 = k then (kv.1, v) else kv).map (fun p => f p.1) = kvs.map fun p => f p.1
  | [] => rfl
  | p :: r => by
    simp only [List.map_cons]
    rw [keys_put r]
    by_cases h : p.1 = k
    · rw [if_pos h]
    · rw [if_neg h]
/-- behind a store into a dict the dict stands as the mirror says -/
theorem put_dic {t : Bool} {ks vs : List D} {a : Addr} {y : D} {x v : V} {kk : List Key} {d : D} (c : DicAt U ad H t ks vs a) (ry : Rep U ad H y x) (rd : Rep U ad H d v) (e : keyOf t y = some kk) (hz : ks.length < sizeLine) :
    ∃ o, DPut H a x v (upd H a o) ∧ ∀ {ad' : List Addr}, (∀ {d v}, Rep U ad H d v → Rep U ad' (upd H a o) d v) → Cell U ad' (upd H a o) (dPut t ks vs y kk d) a := by
  cases t with
  | false =>
    obtain ⟨kvs, h, rfl, q⟩ := c
    obtain ⟨k, e1, rfl⟩ := Option.map_eq_some_iff.mp (show (toKey y).map (fun k => [k]) = some kk from e)
    have := toKey_kD e1
    subst this
    have ex : x = kV k := by
      have z := reps_keys (ks := [k]) (vs := [x]) ⟨x, [], rfl, ry, rfl⟩
      simpa using z
    subst ex
    refine ⟨.dK (putK kvs k v), .k h (by simpa using hz), fun {ad'} kp => ?_⟩
    have kps : ∀ {ds : List D} {us : List V}, Reps U ad H ds us → Reps U ad' (upd H a (.dK (putK kvs k v))) ds us := by
      intro ds
      induction ds with
      | nil => intro us h; exact h
      | cons d ds ih => intro us h; obtain ⟨v, r, e, q, t⟩ := h; exact ⟨v, r, e, kp q, ih t⟩
    unfold dPut
    rw [any_false]
    by_cases hc : (kvs.any fun kv => decide (kv.1 = k)) = true
    · rw [if_pos hc]
      refine ⟨putK kvs k v, upd_same, ?_, ?_⟩
      · unfold putK; rw [if_pos hc]; exact (keys_put kvs).symm
      · have := kps (zip_false (k := k) rd q)
        unfold putK at this ⊢; rw [if_pos hc] at this ⊢; exact this
    · rw [if_neg hc]
      refine ⟨putK kvs k v, upd_same, ?_, ?_⟩
      · unfold putK; rw [if_neg hc, List.map_append]; rfl
      · have := kps (q.append (es := [d]) (us := [v]) ⟨v, [], rfl, rd, rfl⟩)
        unfold putK at this ⊢; rw [if_neg hc] at this ⊢; rw [List.map_append]; exact this
  | true =>
    obtain ⟨kvs, h, rfl, q⟩ := c
    cases y with
    | tup l =>
      have e1 : toKeys l = some kk := e
      have := toKeys_kD e1
      subst this
      obtain ⟨b, xs, rfl, hb, _, r⟩ := ry
      have ex := reps_keys r
      subst ex
      refine ⟨.dT (putK kvs kk v), .t h hb (by simpa using hz), fun {ad'} kp => ?_⟩
      have kps : ∀ {ds : List D} {us : List V}, Reps U ad H ds us → Reps U ad' (upd H a (.dT (putK kvs kk v))) ds us := by
        intro ds
        induction ds with
        | nil => intro us h; exact h
        | cons d ds ih => intro us h; obtain ⟨v, r, e, q, t⟩ := h; exact ⟨v, r, e, kp q, ih t⟩
      unfold dPut
      rw [any_true]
      by_cases hc : (kvs.any fun kv => decide (kv.1 = kk)) = true
      · rw [if_pos hc]
        refine ⟨putK kvs kk v, upd_same, ?_, ?_⟩
        · unfold putK; rw [if_pos hc]; exact (keys_put (f := fun k => D.tup (k.map kD)) kvs).symm
        · have := kps (zip_true (k := kk) rd q)
          unfold putK at this ⊢; rw [if_pos hc] at this ⊢; exact this
      · rw [if_neg hc]
        refine ⟨putK kvs kk v, upd_same, ?_, ?_⟩
        · unfold putK; rw [if_neg hc, List.map_append]; rfl
        · have := kps (q.append (es := [d]) (us := [v]) ⟨v, [], rfl, rd, rfl⟩)
          unfold putK at this ⊢; rw [if_neg hc] at this ⊢; rw [List.map_append]; exact this
    | _ => cases e
theorem putDic_at {O' : Store} {o i d : D} {x y v : V} {Q : Hp → Prop} (S : Sim U ad O H) (ro : Rep U ad H o x) (ri : Rep U ad H i y) (rd : Rep U ad H d v) (e : putDic o i d O = some O')
    (h : ∀ H', Step ad H ad H' → Sim U ad O' H' → Q H') : rSetD x y v H Q := by
  unfold putDic at e
  split at e
  · rename_i kk
    split at e
    · rename_i t ks vs e1
      obtain ⟨k, e2, e⟩ := Option.bind_eq_some_iff.mp e
      split at e
      · rename_i hz
        cases e
        obtain ⟨a, rfl, ha⟩ := ro
        obtain ⟨w, g, c⟩ := put_dic (S.at_ kk a _ ha e1) ri rd e2 hz
        have st := Step.put (H := H) (o := w) ha
        exact ⟨a, _, rfl, g, h _ st (S.put ha (c fun r => r.keep st))⟩
      · cases e
    · cases e
  · cases e
/-- by one or by the other -/
theorem pset_or {X : Cx} {t t' : TSet} (h : PSet X t) (h' : PSet X t') : PSet X fun o i v H Q => t o i v H Q ∨ t' o i v H Q :=
  fun pins s σ H o i v ov iv u Q I r1 r2 r3 q => q.elim (h pins s σ H o i v ov iv u Q I r1 r2 r3) (h' pins s σ H o i v ov iv u Q I r1 r2 r3)
end
section
variable {U : Univ} {c : Cs} {k : Nat} {pos : Pos}
theorem g2SubX {o i : Expr} {mo mi : DE} (ho : SE U c k o mo) (hi : SE U c k i mi)
    (ha : ∀ (env : PySem.Env) v, assign (.Subscript o i pos) env v = (do let ov ← holding [v] (eval o env); let iv ← holding [v, ov] (eval i env); standAt pos; holding [v, ov, iv] (setItem ov iv v); release [v, ov, iv] []) := by intro _ _; rfl) : SG2 U c k (.Subscript o i pos) (gtSubX mo mi) := by
  intro X W C
  obtain ⟨to, po, fo⟩ := ho X W C
  obtain ⟨ti, pi, fi⟩ := hi X W C
  have hu := units65 C.room
  refine ⟨_, pg_sub po pi (pset_or set_list (set_dict (by omega))) (ha _), fun ad O H σ sv d v Q S r q h => fo ad O H σ sv _ S r (Post.mono (PostS.of r h) ?_)⟩
  rintro x H1 ⟨ad1, O1, dx, s1, S1, r1, h1⟩
  refine fi ad1 O1 H1 σ sv _ S1 (r.keep s1) (Post.mono (PostS.of (r.keep s1) h1) ?_)
  rintro y H2 ⟨ad2, O2, dy, s2, S2, r2, h2⟩
  split at h2
  · rename_i O3 e
    unfold putAtX at e
    split at e
    · rename_i O4 e4
      cases e
      exact .inl (put_at S2 (r1.keep s2) r2 ((q.keep s1).keep s2) e4 fun H' s S => h2 ad2 H' sv s S (((r.keep s1).keep s2).keep s))
    · exact .inr (putDic_at S2 (r1.keep s2) r2 ((q.keep s1).keep s2) e fun H' s S => h2 ad2 H' sv s S (((r.keep s1).keep s2).keep s))
  · exact h2.elim
end
end CP
namespace CP
open PySem PySem.Spec PyProof.Rows L2

def onePair (Q : VK) (p : Addr) (ps : List (V × V)) (H2 : Hp) : Prop := match ps with
  | [(x, y)] => H2 p = some (.dT []) ∧ ∃ (ks : List Key) (b : Addr), x = .ref b ∧ H2 b = some (.tup (ks.map kV)) ∧ Q (.ref p) (upd H2 p (.dT [(ks, y)]))
  | _ => False
def tDispT (tk tv : TE) : TE := fun σ H Q => ∀ p, H p = none → tk σ (upd H p (.dT [])) fun x H1 => tv σ H1 fun y H2 => onePair Q p [(x, y)] H2
section
variable {X : Cx} {pos : Pos} {ek ev : Expr} {tk tv : TE}
theorem pe_dispT (hu : X.A.units + 1 < cLine) (hk : PE X ek tk) (hv : PE X ev tv) : PE X (.Dict [some ek] [ev] pos) (tDispT tk tv) := by
  refine ⟨fun pins s σ H Q I q => ?_⟩
  have I1 : Inv X pins σ (upd H s.heap.objs.size (.dT [])) { s with heap := s.heap.push { cls := .type "dict", data := .dict #[] } } :=
    I.laid (t' := s.toks) (fun _ _ e => Heap.get?_push_of_some _ e) (Nat.le_refl _) (dt_empty s.heap I.big)
  have hs : (evalEachOpt [some ek] X.env).zip ((evalEach [ev] X.env).map fun v => do let x ← v; standAt pos; pure x) = (pairTrees [some ek] [ev] X.env pos).map fun p => (some p.1, p.2) := zip_pairTrees _ _ _ _ rfl rfl
  rw [arm_eval_Dict, hs, dictDisplay_pairs (pairTrees [some ek] [ev] X.env pos) (fun z => nomatch z) (by show 1 < 17; omega)]
  have first := q _ (I.hok.fresh (Nat.le_refl s.heap.objs.size))
  refine wpAny_bind (wpAny_standAt (wpAny_bind (wpAny_subDictH (knd := tupleKind (mixKind X.prog X.w)) (Nat.lt_of_succ_lt hu) (by show 1 ≤ 15; omega)
    (thn ((pps_cons hk hv pps_nil).run pins _ σ _ (onePair Q s.heap.objs.size) I1 first) fun ws s2 ⟨ps, H2, I2, rel, q2⟩ => ?_))))
  cases rel with
  | nil => exact q2.elim
  | @cons pk wk pt wt r t =>
    cases t with
    | cons _ _ => exact q2.elim
    | nil =>
      obtain ⟨x, y⟩ := pk
      obtain ⟨w1, w2⟩ := wk
      obtain ⟨r1, r2⟩ := r
      obtain ⟨e, ks, b, ex, eb, q3⟩ := q2
      have ex' : x = .ref b := ex
      subst ex'
      have r1' : w1 = .ref b := r1
      subst r1'
      obtain ⟨_, hd, xs, rt, dd⟩ := dt_of I2.hok e
      cases rt
      refine ⟨[(ks, b, w2)], ⟨rfl, rfl, key_of I2.hok eb, True.intro⟩, dd, fun h' tk' dd' hs' => wpAny_pure ?_⟩
      have dd2 : h'.DictOfH (tupleKind (mixKind X.prog X.w)) s.heap.objs.size [(ks, b, w2)] := dd'
      have he : ∃ q, h'.get? s.heap.objs.size = some q := let ⟨q, _, _, hq, _⟩ := dd2; ⟨q, hq⟩
      obtain ⟨o, es, ep, a1, a2, a3, a4, a5, a6⟩ := dd2
      have nb : b ≠ s.heap.objs.size := fun z => by rw [z, e] at eb; cases eb
      refine ⟨.ref s.heap.objs.size, _, d_write (t' := tk') I2 (by rw [e]; exact True.intro) hs' he ?_, rfl, q3⟩
      exact ⟨by rw [sizeLine_eq]; show 1 ≤ 16777216; omega, hd, [(ks, b, w2)], .cons ⟨rfl, by rw [upd_ne nb]; exact eb, r2⟩ .nil, o, es, ep, a1, a2, a3, a4, a6⟩
end
def dic1 (n : Nat) (y v : D) (O : Store) : R D := match O[n]? with
  | some (.dic true [] []) => (match y with
    | .tup l => (match toKeys l with
      | some _ => .ok (.ptr n) (O.set n (.dic true [y] [v]))
      | none => .stuck)
    | _ => .stuck)
  | _ => .stuck
/-- a dict that will change: a thing of the store -/
def eDicT1 (mk mv : DE) : DE := fun σ O => (mk σ (O ++ [.dic true [] []])).bind fun y O1 => (mv σ O1).bind fun v O2 => dic1 O.length y v O2
section
variable {U : Univ} {c : Cs} {k : Nat} {pos : Pos} {ek ev : Expr} {mk mv : DE}
theorem sDicT1 (hk : SE U c k ek mk) (hv : SE U c k ev mv) : SE U c k (.Dict [some ek] [ev] pos) (eDicT1 mk mv) := by
  intro X W C
  obtain ⟨tk, pk, fk⟩ := hk X W C
  obtain ⟨tv, pv, fv⟩ := hv X W C
  have hu := units65 C.room
  refine ⟨_, pe_dispT (by omega) pk pv, fun ad O H σ sv Q S r h p hp => ?_⟩
  have al : Step ad H (ad ++ [p]) (upd H p (.dT [])) := Step.alloc hp
  have Sa : Sim U (ad ++ [p]) (O ++ [.dic true [] []]) (upd H p (.dT [])) := S.alloc hp ⟨[], upd_same, rfl, rfl⟩
  have hn : ad.length = O.length := S.len
  refine fk _ _ _ σ sv _ Sa (r.keep al) (Post.mono (Post.bind (Post.step al h)) ?_)
  rintro x H1 ⟨ad1, O1, dx, s1, S1, r1, h1⟩
  refine fv ad1 O1 H1 σ sv _ S1 ((r.keep al).keep s1) (Post.mono (Post.bind h1) ?_)
  rintro y H2 ⟨ad2, O2, dy, s2, S2, r2, h2⟩
  unfold dic1 at h2
  split at h2
  · rename_i e0
    split at h2
    · rename_i l
      split at h2
      · rename_i ks e1
        have := toKeys_kD e1
        subst this
        have hp2 : ad2[O.length]? = some p := (s1.trans s2).ix (by rw [← hn]; simp)
        obtain ⟨b, xs, rfl, hb, nb, t⟩ := r1.keep s2
        have ex := reps_keys t
        subst ex
        obtain ⟨kvs, hd, hk, hv⟩ := S2.at_ _ _ _ hp2 e0
        have hk0 : kvs = [] := by cases kvs with
          | nil => rfl
          | cons _ _ => cases hk
        subst hk0
        refine ⟨hd, ks, b, rfl, hb, ?_⟩
        have st := Step.put (H := H2) (o := .dT [(ks, y)]) hp2
        exact h2 ad2 _ _ st (S2.put hp2 ⟨[(ks, y)], upd_same, rfl, ⟨y, [], rfl, r2.keep st, rfl⟩⟩) ⟨p, rfl, hp2⟩
      · exact h2.elim
    · exact h2.elim
  · exact h2.elim
end

def isDicD (x : D) (O : Store) : Bool := match der x O with
  | .dic _ _ _ => true
  | _ => false
def eGet2 (md mk mx : DE) : DE := fun σ O => (md σ O).bind fun x O1 => if isDicD x O1 = true then (mk σ O1).bind fun y O2 => (mx σ O2).bind fun z O3 => (match der x O3 with
    | .dic t ks vs => (match dGet t ks vs y with
      | some o => .ok (o.getD z) O3
      | none => .stuck)
    | _ => .stuck) else .stuck
section
variable {U : Univ} {c : Cs} {k : Nat} {apos cpos : Pos} {o e f : Expr} {mo me mf : DE}
theorem isD_der {ad : List Addr} {O : Store} {H : Hp} (S : Sim U ad O H) {x : D} {v : V} (r : Rep U ad H x v) (h : isDicD x O = true) : ∃ a, v = .ref a ∧ IsD H a := by
  unfold isDicD at h
  split at h
  · rename_i t ks vs e
    obtain ⟨a, rfl, cc⟩ := der_dic S r e
    refine ⟨a, rfl, ?_⟩
    cases t with
    | false => obtain ⟨kvs, h, _⟩ := cc; exact .inl ⟨kvs, .inl h⟩
    | true => obtain ⟨kvs, h, _⟩ := cc; exact .inr ⟨kvs, .inl h⟩
  · cases h
theorem sGet2 (ho : SE U c k o mo) (he : SE U c k e me) (hf : SE U c k f mf) (m : ∀ X : Cx, M2 X o "get" apos e f cpos := by intro X; exact ⟨rfl, rfl, rfl, rfl⟩) :
    SE U c k (.Call (.Attribute o "get" apos) [e, f] [] cpos) (eGet2 mo me mf) := by
  intro X W C
  obtain ⟨to, po, fo⟩ := ho X W C
  obtain ⟨te, pe, fe⟩ := he X W C
  obtain ⟨tf, pf, ff⟩ := hf X W C
  have hu := units65 C.room
  refine ⟨_, pe_dget2 (by omega) po pe pf (m X), fun ad O H σ sv Q S r h => fo ad O H σ sv _ S r (Post.mono (Post.bind h) ?_)⟩
  rintro x H1 ⟨ad1, O1, dx, s1, S1, r1, h1⟩
  split at h1
  · rename_i hd
    obtain ⟨a, rfl, hD⟩ := isD_der S1 r1 hd
    refine ⟨a, rfl, hD, fe ad1 O1 H1 σ sv _ S1 (r.keep s1) (Post.mono (Post.bind h1) ?_)⟩
    rintro y H2 ⟨ad2, O2, dy, s2, S2, r2, h2⟩
    refine ff ad2 O2 H2 σ sv _ S2 ((r.keep s1).keep s2) (Post.mono (Post.bind h2) ?_)
    rintro z H3 ⟨ad3, O3, dz, s3, S3, r3, h3⟩
    split at h3
    · rename_i t ks vs e0
      split at h3
      · rename_i od e1
        obtain ⟨a', e2, cc⟩ := der_dic S3 ((r1.keep s2).keep s3) e0
        cases e2
        obtain ⟨o', g, mm⟩ := dGet_at cc (r2.keep s3) e1
        refine ⟨o', g, h3 ad3 H3 _ .refl S3 ?_⟩
        cases od with
        | none => have m' : o' = none := mm; rw [m']; exact r3
        | some d => obtain ⟨y, rfl, ry⟩ := mm; exact ry
      · exact h3.elim
    · exact h3.elim
  · exact h1.elim
end
end CP
namespace CP
open PySem PySem.Spec PyProof.Rows L2
def rSortedDT : List V → Hp → VK → Prop := fun vs H Q => ∃ (a : Addr) (kvs : List (List Key × V)) (nss : List (List Int)), vs = [V.ref a] ∧ H a = some (.dT kvs) ∧ kvs.map (·.1) = nss.map (fun ns => ns.map Sum.inl) ∧ (∀ ns ∈ nss, ns ≠ []) ∧
  ∀ (ys : List V) (k : V → List Int) (p : Addr), (∀ y ∈ ys, ∃ t, y = V.ref t ∧ H t = some (.tup ((k y).map V.int))) → (ys.map k).Perm nss → (ys.Pairwise fun x y => ltI (k y) (k x) = false) → H p = none → Q (.ref p) (upd H p (.lst ys))
/-- the ints of a tuple, by the heap's record of it -/
def intsAt (H : Hp) : V → List Int
  | .ref t => (match H t with
    | some (.tup ys) => ys.map fun y => match y with | .int i => i | _ => 0
    | _ => [])
  | _ => []
theorem kV_inl (ns : List Int) : (ns.map (Sum.inl : Int → Key)).map kV = ns.map V.int := by
  rw [List.map_map]; rfl
theorem intsAt_of {H : Hp} {t : Addr} {ns : List Int} (h : H t = some (.tup (ns.map V.int))) : intsAt H (.ref t) = ns := by
  unfold intsAt
  simp only [h]
  rw [List.map_map]
  exact (List.map_congr_left fun _ _ => rfl).trans (List.map_id _)
theorem keys_at {H : Hp} : ∀ {kvs : List (List Key × V)} {xs : List (List Key × Addr × Value)} {nss : List (List Int)}, KT H kvs xs → kvs.map (·.1) = nss.map (fun ns => ns.map Sum.inl) →
    (xs.map fun x => intsAt H (V.ref x.2.1)) = nss ∧ ∀ x ∈ xs, H x.2.1 = some (.tup ((intsAt H (V.ref x.2.1)).map V.int)) ∧ intsAt H (V.ref x.2.1) ∈ nss
  | _, _, nss, .nil, e => by
    cases nss with
    | nil => exact ⟨rfl, by simp⟩
    | cons _ _ => cases e
  | _, _, nss, .cons (a := p) (b := q) r t, e => by
    cases nss with
    | nil => cases e
    | cons ns nss =>
      simp only [List.map_cons, List.cons.injEq] at e
      obtain ⟨e1, e2⟩ := keys_at t e.2
      have h : H q.2.1 = some (.tup (ns.map V.int)) := by rw [r.2.1, e.1, kV_inl]
      have hi := intsAt_of h
      refine ⟨by rw [List.map_cons, hi, e1], fun x hx => ?_⟩
      rcases List.mem_cons.mp hx with rfl | hx
      · rw [hi]; exact ⟨h, List.mem_cons_self⟩
      · exact ⟨(e2 x hx).1, List.mem_cons_of_mem _ (e2 x hx).2⟩
section
variable {prog : Program} {w : World} {A : Around} {E : Value → Shared → Prop} {s : Shared} {T : String} {r d : Addr} {n : Nat} {P : Nat → Value → Prop} {OK : Heap → Prop}
/-- what a walk of a dict gives, collected; the list of it stands behind all that was -/
theorem collectGrown {R : List Value → Shared → Prop} (K : PySem.W.KdlSrc prog w T r d n P OK) (hh : A.handled = none) (hok : OK s.heap) (hn : n ≤ sizeLine)
    (h : ∀ (h' : Heap) (tk : Nat) (acc : Array Value), (∀ b o, s.heap.get? b = some o → h'.get? b = some o) → s.heap.objs.size < h'.objs.size → ItemsOf P acc n → R acc.toList { s with heap := h', toks := tk }) :
    wpAny (model prog w) A (collect (.ref r)) R E s := by
  obtain ⟨lt1, lt2⟩ := K.there _ hok
  have fresh : (s.heap.push { cls := .type "list", data := .seq ([] : List Value).toArray }).get? s.heap.objs.size = some { cls := .type "list", data := .seq #[] } := Heap.get?_push_size _ rfl
  unfold collect
  refine wpAny_bind (wpAny_runValue (codeAny_builtin entry_proto_collect' ?_)); rw [Around.under_plainId PySem.F.plain_proto_collect _]
  refine wpAny_bind (wpAny_newObj_type (wpAny_pure ⟨plainId_quiet PySem.F.plain_list_iadd _, codeAny_builtin entry_list_iadd' ?_⟩)); rw [Around.under_plainId PySem.F.plain_list_iadd _]
  let good : Result → Shared → Prop := fun res t => ∃ (h' : Heap) (tk c : Nat) (acc : Array Value), res = .ok (.ret (.ref s.heap.objs.size)) ∧ t = { s with heap := h', toks := tk } ∧ (∀ b o, s.heap.get? b = some o → h'.get? b = some o) ∧
    h'.get? s.heap.objs.size = some { cls := .type "list", dict := none, data := .seq acc c, slots := #[] } ∧ ItemsOf P acc n
  refine wpAny_mono (PySem.W.kdl_extend (A := A) (s := { s with heap := s.heap.push { cls := .type "list", data := .seq ([] : List Value).toArray } }) (R := good) K hh
    (K.keep _ _ hok fun b _ o e => Heap.get?_push_of_some _ e) s.heap.objs.size (Nat.ne_of_gt lt1) (Nat.ne_of_gt lt2) (.ref s.heap.objs.size) 0 fresh
    (fun h' tk acc c hk hS hi => ⟨h', tk, c, acc, rfl, rfl, fun b o e => hk b o (Nat.ne_of_lt (Heap.lt_size e)) (Heap.get?_push_of_some _ e), hS, hi⟩) hn) (fun fn t x => ?_) fun e t x => ?_
  · cases fn with
    | done f =>
      obtain ⟨h', tk, c, acc, ee, rfl, hk, hS, hi⟩ := x
      cases ee
      exact wpAny_bind (wpAny_load hS (wpAny_pure (h h' tk acc hk (Heap.lt_size hS) hi)))
    | again c₁ =>
      refine ⟨x.1, codeAny_mono x.2 fun q s₂ y => ?_⟩
      obtain ⟨h', tk, c, acc, rfl, rfl, hk, hS, hi⟩ := y
      exact wpAny_bind (wpAny_load hS (wpAny_pure (h h' tk acc hk (Heap.lt_size hS) hi)))
  · obtain ⟨_, _, _, _, ee, _⟩ := x
    cases ee
end
section
variable {X : Cx}
theorem cr_sortedDT (hc : X.calm = true) : CallR X (.builtin "sorted") rSortedDT := by
  intro pins s σ H vs us Q I r h
  obtain ⟨a, kvs, nss, rfl, ha, hk, hne, q⟩ := h
  obtain ⟨u, rfl, ru⟩ := vals1 r
  obtain rfl : u = Value.ref a := ru
  obtain ⟨hz, hd, xs, rt, o, es, ep, a1, a2, a3, a4, a5, a6⟩ := dt_of I.hok ha
  obtain ⟨k1, k2⟩ := keys_at rt hk
  generalize hkv : (xs.map fun x => Value.ref x.2.1) = kv
  have hkeys : es.toList.map (·.key) = kv := by rw [a4, List.map_map, ← hkv]; rfl
  have hn : es.size = kv.length := by rw [← hkeys, List.length_map, Array.length_toList]
  have hlx : xs.length = kvs.length := (Paired.length rt).symm
  have hsz : kv.length ≤ sizeLine := by rw [← hkv, List.length_map, hlx]; exact hz
  have tups : ∀ v ∈ kv, TupI s.heap (fun v => intsAt H (backV v)) v := fun v hv => by
    rw [← hkv] at hv
    obtain ⟨x, hx, rfl⟩ := List.mem_map.mp hv
    obtain ⟨h1, h2⟩ := k2 x hx
    obtain ⟨_, its2, r2, o2, ho2, hc2, n2, hd2⟩ := I.hok _ _ h1
    exact ⟨x.2.1, o2, its2, n2, rfl, ho2, hc2, hd2, r2, hne _ h2⟩
  refine Calls.call_function_entry kind_sorted plain_sorted entry_sorted (args_sorted1 _) ?_
  unfold Builtin.«sorted»
  refine wpAny_bind (m := checkCount "sorted" 1 1 _) (wpAny_pure ?_)
  refine wpAny_bind (collectGrown (KdlSrc.rawDict (es := es) (ep := ep) hd) (I.ok.hd hc) ⟨o, a1, a2, a3⟩ (by rw [hn]; exact hsz) fun h' tk acc hkeep hgrow it => ?_)
  have hacc : acc.toList = kv := by
    refine items_out (out := kv) (by rw [← hn]; exact it) fun j v hv => ?_
    obtain ⟨hi, rfl⟩ := hv
    rw [← hkeys, List.getElem?_map, Array.getElem?_toList, Array.getElem?_eq_getElem hi]; rfl
  rw [hacc]
  refine wpAny_bind (wpAny_newList ?_ hsz)
  have made : (h'.push (seqObj "list" kv.toArray 0)).get? h'.objs.size = some (seqObj "list" kv.toArray 0) := Heap.get?_push_size _ rfl
  have old : ∀ b o, s.heap.get? b = some o → (h'.push (seqObj "list" kv.toArray 0)).get? b = some o := fun b o e => Heap.get?_push_of_some _ (hkeep b o e)
  have t2 : ∀ v ∈ kv, TupI (h'.push (seqObj "list" kv.toArray 0)) (fun v => intsAt H (backV v)) v := fun v hv => by
    obtain ⟨b, o2, us2, n2, e1, e2, e3⟩ := tups v hv
    exact ⟨b, o2, us2, n2, e1, old _ _ e2, e3⟩
  obtain ⟨fs, ht⟩ := tupsOf kv t2
  show wpAny _ _ _ _ _ { s with heap := h'.push (seqObj "list" kv.toArray 0), toks := tk }
  refine wpAny_bind (wpAny_holding (wpAny_call_entry slot_list_sort ⟨_, made, rfl⟩ entry_list_sort (G.list_sort_tups (s := { s with heap := h'.push (seqObj "list" kv.toArray 0), toks := tk }) made ht (fun v hv => ⟨_, (t2 v hv).key⟩) hsz fun st' hp hs _ => ⟨_, rfl, ?retG⟩) (args_list_sort _)))
  case retG =>
    obtain ⟨h1, h2⟩ := sorted_keys t2 hp hs
    generalize hout : ((arrOf st').map (·.2)) = out at h1 h2 ⊢
    have lt0 : ∀ {b o}, s.heap.get? b = some o → b < h'.objs.size := fun e => Heap.lt_size (hkeep _ _ e)
    obtain ⟨ee, at2⟩ := PyProof.Rows.sortedHeap_at (out := out) made
    have le : s.heap.objs.size ≤ h'.objs.size := Nat.le_of_lt hgrow
    have h3 : ∀ u ∈ out.toList, ∃ a, u = Value.ref a := fun u hu => by
      have hm := h1.mem_iff.mp hu
      rw [← hkv] at hm
      obtain ⟨x, _, e⟩ := List.mem_map.mp hm
      exact ⟨_, e.symm⟩
    refine wpAny_pure ⟨_, rfl, .ref h'.objs.size, upd H h'.objs.size (.lst (out.toList.map backV)), I.laid (t' := tk) (fun b o e => ?_) le ⟨?_, out.toList, ee, vals_back h3, at2⟩, rfl, q _ (intsAt H) _ (fun y hy => ?_) ?_ (List.pairwise_map.mpr h2) (I.hok.fresh le)⟩
    · rw [PyProof.Rows.sortedHeap_old (Nat.ne_of_lt (lt0 e)) (Heap.lt_size (old _ _ e))]; exact old _ _ e
    · rw [List.length_map, h1.length_eq]; exact hsz
    · obtain ⟨u, hu, rfl⟩ := List.mem_map.mp hy
      have hm := h1.mem_iff.mp hu
      rw [← hkv] at hm
      obtain ⟨x, hx, rfl⟩ := List.mem_map.mp hm
      exact ⟨x.2.1, rfl, (k2 x hx).1⟩
    · rw [List.map_map]
      have := h1.map (intsAt H ∘ backV)
      rw [← hkv, List.map_map] at this
      rw [← k1]
      exact this
end
/-- sorted(xs): .. or a dict by tuples -/
def dSortedY : FN := fun ds O => match dSortedX ds O with
  | some d => some d
  | none => match ds with
    | [x] => (match der x O with
      | .dic true ks _ => (match tupsI ks with
        | some nss => some (.lst ((sortT nss).map tpI))
        | none => none)
      | _ => none)
    | _ => none
section
variable {U : Univ} {ad : List Addr} {O : Store} {H : Hp}
theorem Sim.tup_out (S : Sim U ad O H) {t : Addr} {xs : List V} (h : H t = some (.tup xs)) : t ∉ ad := fun q => by
  obtain ⟨k, hk, e⟩ := List.mem_iff_getElem.mp q
  have hO : k < O.length := by rw [← S.len]; exact hk
  have c := S.at_ k t O[k] (by rw [List.getElem?_eq_getElem hk, e]) (List.getElem?_eq_getElem hO)
  generalize O[k] = d at c
  cases d with
  | lst l => obtain ⟨ys, e, _⟩ := c; rw [h] at e; cases e
  | dic t' ks vs => cases t' with
    | false => obtain ⟨ys, e, _⟩ := c; rw [h] at e; cases e
    | true => obtain ⟨ys, e, _⟩ := c; rw [h] at e; cases e
  | ins cc ns vs => obtain ⟨C, dx, fs, e, _⟩ := c; rw [h] at e; cases e
  | _ => exact c.elim
theorem kD_ints : ∀ {l : List Key} {ns : List Int}, l.map kD = ns.map D.int → l = ns.map Sum.inl
  | [], [], _ => rfl
  | [], _ :: _, e => by cases e
  | _ :: _, [], e => by cases e
  | a :: r, n :: t, e => by
    simp only [List.map_cons, List.cons.injEq] at e
    rw [List.map_cons, kD_ints e.2]
    cases a with
    | inl i => have := e.1; cases this; rfl
    | inr x => have := e.1; cases this
theorem kDs_tups : ∀ {kvs : List (List Key × V)} {nss : List (List Int)}, kvs.map (fun p => D.tup (p.1.map kD)) = nss.map tpI → kvs.map (·.1) = nss.map fun ns => ns.map Sum.inl
  | [], [], _ => rfl
  | [], _ :: _, e => by cases e
  | _ :: _, [], e => by cases e
  | a :: r, n :: t, e => by
    simp only [List.map_cons, List.cons.injEq] at e
    rw [List.map_cons, List.map_cons, kDs_tups e.2]
    have e1 := e.1
    injection e1 with e1
    rw [kD_ints e1]
end
section
variable {U : Univ}
theorem opSortedY : OpN U (.builtin "sorted") dSortedY := by
  intro X W c k hh C
  obtain ⟨r1, hr1, hq1⟩ := opSortedX (U := U) X W c k hh C
  obtain ⟨_, eu⟩ := C.u
  subst eu
  refine ⟨_, CallR.or hr1 (cr_sortedDT (C.calm hh)), ?_⟩
  intro ds xs ad O H d Q S r e q
  unfold dSortedY at e
  split at e
  · rename_i d' e1
    cases e
    exact .inl (hq1 ds xs ad O H d Q S r e1 q)
  · split at e
    · rename_i x _
      split at e
      · rename_i ks vs e0
        split at e
        · rename_i nss e1
          cases e
          obtain ⟨v, rfl, rv⟩ := reps1 r
          obtain ⟨el, hne⟩ := tupsI_eq e1
          obtain ⟨a, rfl, cc⟩ := der_dic S rv e0
          obtain ⟨kvs, hd, ek, hv⟩ := cc
          refine .inr ⟨a, kvs, nss, rfl, hd, kDs_tups (ek.symm.trans el), hne, fun ys k p hy hp hs hn => ?_⟩
          have e3 : ys.map k = sortT nss := sortT_eq hp (List.pairwise_map.mpr hs)
          rw [← e3] at q
          exact q _ _ (.new hn (S.out hn)) (S.new hn) (rep_lst S hn (reps_of_tups fun x hx => let ⟨t, e, h⟩ := hy x hx; ⟨t, e, h, S.tup_out h⟩))
        · cases e
      · cases e
    · cases e
end
end CP
namespace CP
open PySem PySem.Spec PyProof.Rows L2

section
variable {X : Cx} {pins : List (Addr × Obj)} {σ : L2.St} {H H' : Hp} {s : Shared} {E : Value → Shared → Prop} {D : Addr} {y v : V} {u r : Value} {Q : Unit → Shared → Prop}
theorem d_dictSetG (hu : X.A.units + 1 < cLine) (I : Inv X pins σ H s) (g : DPut H D y v H') (ry : RelV y u) (rv : RelV v r) (h : ∀ s', Inv X pins σ H' s' → Q () s') : wpAny (model X.prog X.w) X.A (dictSet D u r) Q E s := by
  rcases g with ⟨kvs, k, e, rfl, l, rfl⟩ | ⟨kvs, k, b, e, rfl, eb, l, rfl⟩
  · exact d_dictSet I e l ry rv h
  · obtain rfl : u = Value.ref b := ry
    obtain ⟨z, hd, xs, rel, dd⟩ := dt_of I.hok e
    have grown : (putK kvs k v).length ≤ sizeLine := Nat.le_trans (length_putK kvs k v) l
    refine wpAny_dictSet_heap (hsz := by rw [← Paired.length rel]; exact z) (Nat.lt_of_succ_lt hu) (key_of I.hok eb) dd fun h' ⟨q, es, ep, hq, h2, h3, h4, _, h5⟩ hs => h _ (d_write I (by rw [e]; trivial) hs ⟨q, hq⟩ ?_)
    exact ⟨grown, hd, _, (rel.put k eb rv).keeps fun c ys ec => by rw [upd_ne (ne_of ec e (fun z => nomatch z))]; exact ec, q, es, ep, hq, h2, h3, h4, h5⟩
end
def dOf (t : Bool) : HO := if t = true then .dT [] else .dK []
theorem dOf_ok {P : Program} {w : World} {H : Hp} (t : Bool) (h : Heap) (hb : sysModules < h.objs.size) : ObjOk P w H (h.push { cls := .type "dict", data := .dict #[] }) h.objs.size (dOf t) := by
  cases t
  · exact dk_empty h hb
  · exact dt_empty h hb
abbrev InBlk (X : Cx) (scope : Scope) (P : Cx → Prop) : Prop := ∀ (s : Shared) (H : Hp) (C : Addr) (cl : List (Str × Addr)) (fp : List Addr), P (X.blk s H scope (compEnvC scope cl C X.env) fp)
/-- {k: v for target in iter if ..}: D the new dict -/
def tDcG (t : Bool) (wi : TI) (g : TG) (tt : TT) (tk tv : TE) (vs : List Nat) : TE := fun σ H Q => wi σ H fun J H1 => ∀ D, H1 D = none → ∃ W : Nat → Nat → Hp → Prop, (∃ m, W 0 m (upd H1 D (dOf t))) ∧ ∀ i m H, W i m H → (J.stop i H ∧ Q (.ref D) H) ∨
  (J.go i H ∧ ∃ Nx : Hp → Prop, (∀ H', Nx H' → ∃ m', m' < m ∧ W (i + 1) m' H') ∧ ∀ x H', J.yld i H x H' → g x (L2.wipe σ vs) H' fun σ2 H2 => L2.wipe σ2 vs = L2.wipe σ vs ∧ tt σ2 H2 fun b H3 => if b = true then tk σ2 H3 fun y H4 => tv σ2 H4 fun z H5 => ∃ H6, DPut H5 D y z H6 ∧ Nx H6 else Nx H3)
section
variable {X : Cx} {t : Bool} {kx vx tg iter : Expr} {ifs : List Expr} {scope : Scope} {own : List (Str × Nat)} {pos pos' : Pos} {wi : TI} {g : TG} {tt : TT} {tk tv : TE}
theorem dcg_core {pins : List (Addr × Obj)} {s : Shared} {σ : L2.St} {H : Hp} {Q : VK} {use : Option (Value → Sem Unit)} {Qf : Value → Shared → Prop} (hu : X.A.units + 1 < cLine) (hc : X.calm = true) (hN : X.N.Nodup) (I : Inv X pins σ H s) (hi : PI X tg iter wi) (ok : BlkOk X.N X.env.scope scope own)
    (hg : InBlk X scope fun B => PG B tg g) (ht : InBlk X scope fun B => PTs B ifs tt) (hk : InBlk X scope fun B => PE B kx tk) (he : InBlk X scope fun B => PE B vx tv) (hs : ∀ x, foldedSetIterable iter X.env x = pure x) (h : tDcG t wi g tt tk tv (own.map (·.2)) σ H Q)
    (hRR : ∀ D C s' m H', Inv X pins σ H' s' → Q (.ref D) H' → s'.heap.Ns C m → FpOk X pins H' C → compPost (model X.prog X.w) X.A X.xe use Qf (.ref D) C (.ok .next) s') :
    wpAny (model X.prog X.w) X.A (comprehension (.DictComp kx vx [⟨tg, iter, ifs, 0⟩] scope pos) scope X.env pos' newDict false (eval iter X.env) use) Qf X.xe s := by
  have frees : ∀ y ∈ scope.names, y.2 = .free → ∃ c, X.env.cells.lookup y.1 = some c := fun y hy e => (ok.free y hy e).elim (fun q => I.ok.has _ (.inl q)) fun q => I.ok.has _ (.inr q)
  refine wpAny_comprehension_free (use := use) rfl hs (closure_ok frees) ok.kind (fun y hy e => by rw [ok.uniq y hy, e]) (thn (hi.run pins s σ H _ I h) fun xv sA hx => thn hx fun itv sB hB => ?_)
  obtain ⟨it, fp, tn, J, HB, rfl, IB, T, stB, fB, q⟩ := hB
  refine wpAny_newObj_type (newEnv_comp ?_)
  obtain ⟨D, hD⟩ : ∃ D, sB.heap.objs.size = D := ⟨_, rfl⟩
  have freshD : HB D = none := IB.hok.fresh (Nat.le_of_eq hD)
  obtain ⟨W, ⟨m0, w0⟩, turn⟩ := q D freshD
  obtain ⟨sC, hsC⟩ : ∃ sC, ({ sB with heap := sB.heap.push { cls := .type "dict", data := .dict #[] } } : Shared) = sC := ⟨_, rfl⟩
  obtain ⟨HC, hHC⟩ : ∃ HC, upd HB D (dOf t) = HC := ⟨_, rfl⟩
  have IC : Inv X pins σ HC sC := by
    rw [← hsC, ← hHC]
    refine IB.laid (t' := sB.toks) (fun _ _ e => Heap.get?_push_of_some _ e) (Nat.le_of_eq hD) ?_
    rw [← hD]; exact dOf_ok t sB.heap IB.big
  have heapC : sC.heap = sB.heap.push { cls := .type "dict", data := .dict #[] } := by rw [← hsC]
  have below : ∀ b ∈ fp, b < sB.heap.objs.size := fun b hb => let ⟨_, e, _⟩ := T.obj _ _ stB b hb; Heap.lt_size e
  have fC : ∀ b ∈ fp, FpOk X pins HC b ∧ b < sC.heap.objs.size := fun b hb => by
    refine ⟨⟨?_, (fB b hb).2⟩, by rw [heapC, Heap.size_push]; exact Nat.lt_succ_of_lt (below b hb)⟩
    rw [← hHC, upd_ne (by rw [← hD]; exact Nat.ne_of_lt (below b hb))]; exact (fB b hb).1
  have stC : tn 0 sC.heap := T.keep _ _ _ stB fun b _ o e => by rw [heapC]; exact Heap.get?_push_of_some _ e
  have I4 := block_start IC ok hN fC
  rw [hHC] at w0
  obtain ⟨cl, hcl⟩ : ∃ cl, cellsFrom (sC.heap.objs.size + 1) scope.names (cloFrom X.env.cells scope.names []) = cl := ⟨_, rfl⟩
  rw [hcl] at I4
  have pg := hg sC HC sC.heap.objs.size cl fp
  have pt := ht sC HC sC.heap.objs.size cl fp
  have pk := hk sC HC sC.heap.objs.size cl fp
  have pv := he sC HC sC.heap.objs.size cl fp
  show codeAny _ _ (.compStart (.DictComp kx vx [⟨tg, iter, ifs, 0⟩] scope pos) 0 (.ref it) (.ref sB.heap.objs.size) (compEnvC scope (cellsFrom ((sB.heap.push { cls := .type "dict", data := .dict #[] }).objs.size + 1) scope.names (cloFrom X.env.cells scope.names [])) (sB.heap.push { cls := .type "dict", data := .dict #[] }).objs.size X.env))
    (compPost (model X.prog X.w) X.A X.xe use Qf (.ref sB.heap.objs.size) (sB.heap.push { cls := .type "dict", data := .dict #[] }).objs.size) { ({ sB with heap := sB.heap.push { cls := .type "dict", data := .dict #[] } } : Shared) with heap := pushCells ((sB.heap.push { cls := .type "dict", data := .dict #[] }).push { cls := .type "dict", data := .dict #[] }) scope.names }
  rw [hD, ← heapC, hcl]
  have nofp : ∀ b ∈ fp, HC b = none := fun b hb => (fC b hb).1.1
  obtain ⟨ce, hce⟩ : ∃ ce, compEnvC scope cl sC.heap.objs.size X.env = ce := ⟨_, rfl⟩
  rw [hce] at I4 pg pt pk pv
  rw [hce]
  have cL : ce.locals = sC.heap.objs.size := by rw [← hce]; rfl
  obtain ⟨sD, hsD⟩ : ∃ sD, ({ ({ sB with heap := sB.heap.push { cls := .type "dict", data := .dict #[] } } : Shared) with heap := pushCells (sC.heap.push { cls := .type "dict", data := .dict #[] }) scope.names } : Shared) = sD := ⟨_, rfl⟩
  have hsD' : ({ sC with heap := pushCells (sC.heap.push { cls := .type "dict", data := .dict #[] }) scope.names } : Shared) = sD := by rw [← hsD, ← hsC]
  rw [hsD'] at I4
  rw [hsD]
  have stD : tn 0 sD.heap := T.keep _ _ _ stC fun b _ o e => by rw [← hsD]; exact pushCells_keeps _ _ _ _ (Heap.get?_push_of_some _ e)
  have stat : ∀ {σ' : L2.St} {H' : Hp} {s' : Shared}, Inv (X.blk sC HC scope ce fp) [] σ' H' s' → (∀ b ∈ fp, H' b = none) → ∀ b ∈ fp, FpOk (X.blk sC HC scope ce fp) [] H' b := fun {σ' H' s'} I' hn b hb =>
    ⟨hn b hb, (I'.ok.exf b hb).1, I'.ok.exfs b hb, .inl hb, fun x c e => (I'.ok.exf b hb).2 x c e, fun p hp => absurd (show p ∈ ([] : List (Addr × Obj)) ++ [] from hp) (by simp)⟩
  have loop : codeAny (model X.prog X.w) X.A (.compLoop (.DictComp kx vx [⟨tg, iter, ifs, 0⟩] scope pos) 0 (.ref it) (.ref D) ce) (compPost (model X.prog X.w) X.A X.xe use Qf (.ref D) sC.heap.objs.size) sD := by
    refine compLoop_anyD (fun n s' => ∃ i H', Inv (X.blk sC HC scope ce fp) [] (L2.wipe σ (own.map (·.2))) H' s' ∧ tn i s'.heap ∧ (∀ b ∈ fp, H' b = none) ∧ W i n H') ?_ m0 ⟨0, HC, I4, stD, nofp, w0⟩
    rintro n sE ⟨i, HE, IE, stE, nE, wE⟩
    rcases turn i n HE wE with ⟨stop, qq⟩ | ⟨go, Nx, hNx, step⟩
    · refine thnF (T.done (X.blk sC HC scope ce fp) rfl rfl rfl hc i [] sE _ HE (fun _ _ => False) IE (stat IE nE) stE stop) fun r sF ⟨hr, IF⟩ => ?_
      subst hr
      have outer : Inv X pins σ HE sF := IC.call' (ch := fp) IF.os IF.base IF.hok IF.bare fun b hb => let z := (fC b hb).1.2; ⟨z.2.2.1, z.1, z.2.2.2.1, z.2.2.2.2⟩
      have nC : HE sC.heap.objs.size = none := by rw [← cL]; exact IF.free
      obtain ⟨m, hn, _⟩ := IF.loc
      exact hRR D sC.heap.objs.size sF m HE outer qq (by rw [← cL]; exact hn) (IC.fpOk (Nat.le_refl _) nC)
    · refine thnF (T.item (X.blk sC HC scope ce fp) rfl rfl rfl hc i [] sE _ HE (fun _ _ => False) IE (stat IE nE) stE go) fun r sF ⟨u, hr, hF⟩ => ?_
      subst hr
      refine thnF hF fun _ sG ⟨x, HG, IG, rG, yG, stG, nG⟩ => ?_
      have IG' := IG.pinned (stat IG nG) (T.obj _ _ stG)
      refine thnF (pg.run _ sG _ HG x u _ IG' rG (step x HG yG)) fun _ sH ⟨σH, HH, IH, hwH, qH⟩ => ?_
      refine thnF (pt.run _ sH σH HH _ IH qH) fun b sI ⟨HI, II, qI⟩ => ?_
      have fin : ∀ {s' : Shared} {H' : Hp}, Inv (X.blk sC HC scope ce fp) ([] ++ pinsAt fp sG.heap) σH H' s' → Nx H' → ∃ m, m < n ∧ ∃ i H', Inv (X.blk sC HC scope ce fp) [] (L2.wipe σ (own.map (·.2))) H' s' ∧ tn i s'.heap ∧ (∀ b ∈ fp, H' b = none) ∧ W i m H' := fun {s' H'} I' nx => by
        obtain ⟨m', hm, w'⟩ := hNx H' nx
        have held : ∀ b ∈ fp, ∀ o, sG.heap.get? b = some o → s'.heap.get? b = some o ∧ H' b = none := fun b hb o e => let z := I'.pin (b, o) (List.mem_append_right _ (List.mem_append_right _ (mem_pinsAt hb e))); ⟨z.1, z.2.1⟩
        have hl : (L2.wipe σ (own.map (·.2))).length = σH.length := by rw [← hwH, wipe_length]
        exact ⟨m', hm, i + 1, H', (I'.unpinned (pins := [])).weak hl (fun j v e => (wipe_some (by rw [hwH]; exact e)).1), T.keep _ _ _ stG fun b hb o e => (held b hb o e).1, fun b hb => let ⟨o, e, _⟩ := T.obj _ _ stG b hb; (held b hb o e).2, w'⟩
      cases b with
      | false => simp only [Bool.false_eq_true, if_false] at qI ⊢; exact fin II qI
      | true =>
        simp only [if_true] at qI ⊢
        refine thnF (pk.run _ sI σH HI _ II qI) fun z sJ ⟨yk, HJ, IJ, rJ, qJ⟩ => thnF (pv.run _ sJ σH HJ _ IJ qJ) fun z2 sK ⟨yv, HK, IK, rK, HL, gp, nx⟩ => ?_
        exact d_dictSetG (X := X.blk sC HC scope ce fp) hu IK gp rJ rK fun sL IL => fin IL nx
  exact codeAny_compStart_dict loop (T.self X.A 0 _ _ _ stD loop)
theorem pe_dcg (hu : X.A.units + 1 < cLine) (hc : X.calm = true) (hN : X.N.Nodup) (hi : PI X tg iter wi) (ok : BlkOk X.N X.env.scope scope own) (hg : InBlk X scope fun B => PG B tg g) (ht : InBlk X scope fun B => PTs B ifs tt) (hk : InBlk X scope fun B => PE B kx tk) (he : InBlk X scope fun B => PE B vx tv)
    (hs : ∀ x, foldedSetIterable iter X.env x = pure x := by intro _; rfl) : PE X (.DictComp kx vx [⟨tg, iter, ifs, 0⟩] scope pos) (tDcG t wi g tt tk tv (own.map (·.2))) := ⟨fun pins s σ H Q I h => by
  rw [arm_eval_DictComp]
  exact dcg_core hu hc hN I hi ok hg ht hk he hs h fun D C s' m H' I' q hn ⟨f0, f1, f2, f3, f4, f5⟩ => ⟨m, hn, fun h'' sb => ⟨.ref D, H', I'.turned (t' := s'.toks) (fun b o hb e => (sb.2 b hb).trans e) f0 f1 f3 f4 f5, rfl, q⟩⟩⟩
theorem sw_dict {y : Str} {py : Pos} {l : Nat} {env : PySem.Env} {gs : List Comprehension} (hk : env.scope.kind = .function) (hy : env.scope.names.lookup y = some .local) (hl : (py.line == pos.line) = true) (ha : (scope.names.any fun (n, k) => n == y && (k == .local || k == .cell)) = false) :
    swapsWith (.DictComp kx vx gs scope pos) (some (.Name y py)) l env = pure true := by
  have ky : env.kindOf y = some .local := hy
  have hb : env.blockKind = .function := by unfold Env.blockKind; rw [hk]; rfl
  unfold swapsWith
  simp only [hb, ky, ha, Expr.pos, hl]; rfl
/-- name = {..} on one line -/
theorem ps_setDcg {i : Nat} {y : Str} {py spos : Pos} (hu : X.A.units + 1 < cLine) (hc : X.calm = true) (hN : X.N.Nodup) (hy : X.N[i]? = some y) (hyl : X.env.scope.names.lookup y = some .local) (hsw : swapsWith (.DictComp kx vx [⟨tg, iter, ifs, 0⟩] scope pos) (some (.Name y py)) spos.line X.env = pure true)
    (hi : PI X tg iter wi) (ok : BlkOk X.N X.env.scope scope own) (hg : InBlk X scope fun B => PG B tg g) (ht : InBlk X scope fun B => PTs B ifs tt) (hk : InBlk X scope fun B => PE B kx tk) (he : InBlk X scope fun B => PE B vx tv)
    (hs : ∀ x, foldedSetIterable iter X.env x = pure x := by intro _; rfl) : PS X (.Assign [.Name y py] (.DictComp kx vx [⟨tg, iter, ifs, 0⟩] scope pos) spos) (tAsg (tDcG t wi g tt tk tv (own.map (·.2))) (gName i)) := ⟨fun pins s σ H D I h => by
  rw [exec_Assign_Name_used _ _ _ _ hsw]
  refine wpAny_bind (wpAny_standAt (wpAny_bind ?_))
  show wpAny _ X.A (do let _ ← comprehension (.DictComp kx vx [⟨tg, iter, ifs, 0⟩] scope pos) scope X.env (firstIterPos [⟨tg, iter, ifs, 0⟩] pos) newDict false (eval iter X.env) (some (assign (.Name y py) X.env))) _ _ s
  have h : tDcG t wi g tt tk tv (own.map (·.2)) σ H (fun x H1 => gName i x σ H1 D.nx) := h
  refine wpAny_bind (thn (dcg_core (Qf := fun _ s' => SP X pins D .next s') hu hc hN I hi ok hg ht hk he hs h fun L C s' m H' I' q hn ⟨f0, f1, f2, f3, f4, f5⟩ => ?_) fun _ s' hq => wpAny_pure (wpAny_pure hq))
  refine wpAny_assign_Name (store_ok2 (v := V.ref L) I' hN hy (.inl hyl) rfl (fun s2 I2 ⟨a, sb, ha⟩ => ⟨m, hn.sameBut sb (ha.elim (fun z => by rw [z]; exact f1) fun z e => f4 y a z e.symm), fun h3 sb3 => ⟨_, H', I2.turned (t' := s2.toks) (fun b o hb e => (sb3.2 b hb).trans e) f0 f1 f3 f4 f5, q⟩⟩) (.inr hyl))⟩
end
end CP
namespace CP
open PySem PySem.Spec PyProof.Rows L2
/-- what a part of a comprehension gives, the store cut back to what it was and the thing that is made -/
noncomputable def snipC {α : Type} (O0 : Store) (acc : D) (ok : α → Bool) (r : R α) : Option (α × Store) := match r with
  | .ok a O => if O.take (O0.length + 1) = O.take O0.length ++ [acc] ∧ ok a = true ∧ okCh O0 (O.take O0.length) then some (a, O.take O0.length) else none
  | _ => none
def dPutA (acc y v : D) : Option D := match acc with
  | .dic t ks vs => (keyOf t y).bind fun kk => if ks.length < sizeLine then some (dPut t ks vs y kk v) else none
  | _ => none
noncomputable def dcTurn (g : Tg) (vs : List Nat) (tt : DT) (kd el : DE) (σ : Env) (d : D) (acc : D) (O : Store) : Option (D × Store) :=
  (tgt g d (O ++ [acc]) (wipeE σ vs)).bind fun σ1 => (snipC O acc (fun _ => true) (tt σ1 (O ++ [acc]))).bind fun bO => if bO.1 = true then
    (snipC bO.2 acc (okD bO.2.length) (kd σ1 (bO.2 ++ [acc]))).bind fun kO => (snipC kO.2 acc (okD kO.2.length) (el σ1 (kO.2 ++ [acc]))).bind fun yO => (dPutA acc kO.1 yO.1).map fun a => (a, yO.2)
    else some (acc, bO.2)
noncomputable def dcL (w : Option (Nat × D)) (turn : D → D → Store → Option (D × Store)) : List D → D → Store → R D
  | [], acc, O => if watchOk w O then .ok acc O else .stuck
  | d :: r, acc, O => if watchOk w O then (match turn d acc O with
    | some q => dcL w turn r q.1 q.2
    | none => .stuck) else .stuck
noncomputable def eDc (t : Bool) (mi : DI) (g : Tg) (vs : List Nat) (tt : DT) (kd el : DE) : DE := fun σ O => match mi σ O with
  | .ok it O1 => dcL it.w (dcTurn g vs tt kd el σ) it.ds (.dic t [] []) O1
  | .err x O1 => .err x O1
  | .stuck => .stuck
section
variable {U : Univ} {ad : List Addr} {H : Hp} {O : Store}
theorem snipC_at {p : Addr} {O2 O3 : Store} {acc : D} {ad' : List Addr} {H2 H3 : Hp} (S2 : Sim U (ad ++ [p]) (O2 ++ [acc]) H2) (s : Step (ad ++ [p]) H2 ad' H3) (S3 : Sim U ad' O3 H3)
    (c1 : O3.take (O2.length + 1) = O3.take O2.length ++ [acc]) (c3 : okCh O2 (O3.take O2.length)) : Sim U (ad ++ [p]) (O3.take O2.length ++ [acc]) H3 := by
  have hn : ad.length = O2.length := by have := S2.len; simpa using this
  obtain ⟨l, rfl⟩ := s.pre
  have e : (ad ++ [p]).length = O2.length + 1 := by simp [hn]
  have key := S3.cutad (ad := ad ++ [p]) (l := l) (fun i d h => ?_)
  · rw [e, c1] at key; exact key
  · rw [e, c1] at h
    rw [e]
    have hl : (O3.take O2.length).length = O2.length := by
      have := congrArg List.length c1
      rw [List.length_append, List.length_take, List.length_take] at this
      rw [List.length_take]; simp at this; omega
    by_cases hi : i < O2.length
    · rw [List.getElem?_append_left (by rw [hl]; exact hi)] at h
      rcases c3 i d h with z | z
      · have := S2.okGet (i := i) (d := d) (by rw [List.getElem?_append_left hi]; exact z)
        rw [e] at this; exact this
      · exact okD_mono (Nat.le_succ _) z
    · rw [List.getElem?_append_right (by rw [hl]; omega)] at h
      have h0 : i - (O3.take O2.length).length = 0 := by
        have := (List.getElem?_eq_some_iff.mp h).1
        simp at this
        rw [List.length_take]; omega
      rw [h0] at h
      simp at h
      subst h
      have := S2.okGet (i := O2.length) (d := acc) (by rw [List.getElem?_append_right (Nat.le_refl _)]; simp)
      rw [e] at this; exact this
theorem snipC_some {α : Type} {O0 : Store} {acc : D} {ok : α → Bool} {r : R α} {a : α} {O' : Store} (h : snipC O0 acc ok r = some (a, O')) :
    ∃ O, r = .ok a O ∧ O.take (O0.length + 1) = O.take O0.length ++ [acc] ∧ ok a = true ∧ okCh O0 (O.take O0.length) ∧ O' = O.take O0.length := by
  unfold snipC at h
  split at h
  · rename_i a' O
    split at h
    · rename_i hc
      cases h
      exact ⟨O, rfl, hc.1, hc.2.1, hc.2.2, rfl⟩
    · cases h
  · cases h
theorem okDs_zip {n : Nat} {t : Bool} {k : List Key} {v : D} (hv : okD n v = true) : ∀ {ks vs : List D}, okDs n vs = true → okDs n (List.zipWith (fun d x => if keyOf t d = some k then v else x) ks vs) = true
  | [], _, _ => rfl
  | _ :: _, [], _ => rfl
  | a :: ks, b :: vs, h => by
    obtain ⟨h1, h2⟩ := Bool.and_eq_true_iff.mp (show (okD n b && okDs n vs) = true from h)
    refine Bool.and_eq_true_iff.mpr ⟨?_, okDs_zip hv h2⟩
    show okD n (if keyOf t a = some k then v else b) = true
    split
    · exact hv
    · exact h1
theorem ok_dPutA {n : Nat} {acc y v a : D} (ha : okD n acc = true) (hv : okD n v = true) (e : dPutA acc y v = some a) : okD n a = true := by
  unfold dPutA at e
  split at e
  · rename_i t ks vs
    obtain ⟨kk, _, e⟩ := Option.bind_eq_some_iff.mp e
    split at e
    · cases e
      unfold dPut
      split
      · exact okDs_zip hv (show okDs n vs = true from ha)
      · exact okDs_app (show okDs n vs = true from ha) (Bool.and_eq_true_iff.mpr ⟨hv, rfl⟩)
    · cases e
  · cases e
end
section
variable {U : Univ} {c : Cs} {k : Nat} {pos : Pos} {tg iter kx elt : Expr} {ifs : List Expr} {scope : Scope} {own : List (Str × Nat)} {mi : DI} {g : Tg} {tt : DT} {kd el : DE} {t : Bool}
/-- what holds between two turns: D the new dict -/
def DcInv (U : Univ) (ad1 : List Addr) (B : Hp) (D : Addr) (w : Option (Nat × CP.D)) (H : Hp) (O : Store) (acc : CP.D) : Prop :=
  Sim U (ad1 ++ [D]) (O ++ [acc]) H ∧ Step (ad1 ++ [D]) B (ad1 ++ [D]) H ∧ okD ad1.length acc = true ∧ (∀ (i : Nat) (d : CP.D), O[i]? = some d → okD ad1.length d = true) ∧ watchOk w O
theorem dPutA_at {ad : List Addr} {H : Hp} {O : Store} {n : Nat} {p : Addr} {acc y v a : CP.D} {vy vv : V} (S : Sim U ad (O ++ [acc]) H) (hn : O.length = n) (hp : ad[n]? = some p) (ry : Rep U ad H y vy) (rv : Rep U ad H v vv) (e : dPutA acc y v = some a) :
    ∃ H', DPut H p vy vv H' ∧ Step ad H ad H' ∧ Sim U ad (O ++ [a]) H' := by
  unfold dPutA at e
  split at e
  · rename_i t ks vs
    obtain ⟨kk, e1, e⟩ := Option.bind_eq_some_iff.mp e
    split at e
    · rename_i hz
      cases e
      have hget : (O ++ [CP.D.dic t ks vs])[n]? = some (.dic t ks vs) := by rw [← hn]; simp
      obtain ⟨w, gp, cc⟩ := put_dic (S.at_ n p _ hp hget) ry rv e1 hz
      have st := Step.put (H := H) (o := w) hp
      refine ⟨_, gp, st, ?_⟩
      have := S.put hp (cc fun r => r.keep st)
      rw [List.set_append_right _ _ (by omega), show n - O.length = 0 by omega] at this
      exact this
    · cases e
  · cases e
theorem dc_turn {ad1 : List Addr} {H1 : Hp} {D : Addr} {w : Option (Nat × CP.D)} {σ : Env} {sv : L2.St} {vs : List Nat} {H2 : Hp} {O2 : Store} {acc : CP.D} {x : V} {d acc' : CP.D} {O' : Store} {N : Hp → Prop}
    (I : DcInv U ad1 H1 D w H2 O2 acc) (rσ : RepE U (ad1 ++ [D]) H2 σ sv) (rd : Rep U (ad1 ++ [D]) H2 d x) (hsl : ∀ i ∈ g.slots, i ∈ vs) (e : dcTurn g vs tt kd el σ d acc O2 = some (acc', O'))
    (hN : ∀ H', DcInv U ad1 H1 D none H' O' acc' → N H') :
    gOf U.K g x (L2.wipe sv vs) H2 fun σ2 H3 => L2.wipe σ2 vs = L2.wipe sv vs ∧ tGT U (fun _ _ _ _ => False) tt σ2 H3 fun b H4 =>
      if b = true then tG U (fun _ _ _ _ => False) kd σ2 H4 fun y H5 => tG U (fun _ _ _ _ => False) el σ2 H5 fun z H6 => ∃ H7, DPut H6 D y z H7 ∧ N H7 else N H4 := by
  obtain ⟨S2, s2, oa, oO, hw⟩ := I
  have hn : ad1.length = O2.length := by have := S2.len; simpa using this
  obtain ⟨σ1, e1, e⟩ := Option.bind_eq_some_iff.mp (show (tgt g d (O2 ++ [acc]) (wipeE σ vs)).bind _ = some (acc', O') from e)
  refine tgt_run S2 (rσ.wipe vs) rd e1 fun xs r1 => ⟨wipe_set hsl, ad1 ++ [D], O2 ++ [acc], σ1, S2, r1, ?_⟩
  obtain ⟨⟨b, O3⟩, e2, e⟩ := Option.bind_eq_some_iff.mp e
  obtain ⟨Oa, ha, c1, _, c3, rfl⟩ := snipC_some e2
  rw [ha]
  intro ad' H3 s3 S3
  have S3' := snipC_at S2 s3 S3 c1 c3
  have s23 := s2.trans s3.cut
  have oO3 : ∀ (i : Nat) (d : CP.D), (Oa.take O2.length)[i]? = some d → okD ad1.length d = true := fun i d h => by
    rcases c3 i d h with z | z
    · exact oO i d z
    · rw [hn]; exact z
  cases b with
  | false =>
    rw [if_neg Bool.false_ne_true]
    have e' : some (acc, Oa.take O2.length) = some (acc', O') := e
    cases e'
    exact hN H3 ⟨S3', s23, oa, oO3, trivial⟩
  | true =>
    rw [if_pos rfl]
    rw [if_pos rfl] at e
    obtain ⟨⟨ky, O4⟩, e3, e⟩ := Option.bind_eq_some_iff.mp e
    obtain ⟨Ob, hb, d1, d2, d3, rfl⟩ := snipC_some e3
    have hl3 : (Oa.take O2.length).length = ad1.length := by have := S3'.len; simp at this; rw [List.length_take]; omega
    refine ⟨ad1 ++ [D], Oa.take O2.length ++ [acc], σ1, S3', r1.keep s3.cut, ?_⟩
    have hb' : kd σ1 (Oa.take O2.length ++ [acc]) = .ok ky Ob := hb
    rw [hb']
    intro ad4 H4 vk s4 S4 r4
    have S4' := snipC_at S3' s4 S4 d1 d3
    obtain ⟨l, rfl⟩ := s4.pre
    have rk : Rep U (ad1 ++ [D]) H4 ky vk := Rep.cutad (okD_mono (by simp) (hl3 ▸ d2)) r4
    have hl4 : (Ob.take (Oa.take O2.length).length).length = ad1.length := by have := S4'.len; simp at this; rw [List.length_take]; omega
    have oO4 : ∀ (i : Nat) (d : CP.D), (Ob.take (Oa.take O2.length).length)[i]? = some d → okD ad1.length d = true := fun i d h => by
      rcases d3 i d h with z | z
      · exact oO3 i d z
      · rw [← hl3]; exact z
    obtain ⟨⟨y, O5⟩, e4, e⟩ := Option.bind_eq_some_iff.mp e
    obtain ⟨Oc, hc, f1, f2, f3, rfl⟩ := snipC_some e4
    refine ⟨ad1 ++ [D], Ob.take (Oa.take O2.length).length ++ [acc], σ1, S4', (r1.keep s3.cut).keep s4.cut, ?_⟩
    have hc' : el σ1 (Ob.take (Oa.take O2.length).length ++ [acc]) = .ok y Oc := hc
    rw [hc']
    intro ad5 H5 v s5 S5 r5
    have S5' := snipC_at S4' s5 S5 f1 f3
    obtain ⟨l2, rfl⟩ := s5.pre
    have rv : Rep U (ad1 ++ [D]) H5 y v := Rep.cutad (okD_mono (by simp) (hl4 ▸ f2)) r5
    obtain ⟨a, e5, e6⟩ := Option.map_eq_some_iff.mp e
    cases e6
    have hD : (ad1 ++ [D])[ad1.length]? = some D := by simp
    have hl5 : (Oc.take (Ob.take (Oa.take O2.length).length).length).length = ad1.length := by have := S5'.len; simp at this; rw [List.length_take]; omega
    obtain ⟨H7, gp, st, S7⟩ := dPutA_at S5' hl5 hD (rk.keep s5.cut) rv e5
    refine ⟨H7, gp, hN _ ⟨S7, ((s23.trans s4.cut).trans s5.cut).trans st, ok_dPutA oa (hl4 ▸ f2) e5, fun i d h => ?_, trivial⟩⟩
    rcases f3 i d h with z | z
    · exact oO4 i d z
    · rw [← hl4]; exact z
theorem dcL_watch {ad : List Addr} {H : Hp} {Q : VK} {E : XK} {w : Option (Nat × CP.D)} {turn : CP.D → CP.D → Store → Option (CP.D × Store)} {l : List CP.D} {acc : CP.D} {O : Store} (h : Post U ad H Q E (dcL w turn l acc O)) : watchOk w O := by
  by_cases hw : watchOk w O
  · exact hw
  · cases l with
    | nil => unfold dcL at h; rw [if_neg hw] at h; exact h.elim
    | cons d r => unfold dcL at h; rw [if_neg hw] at h; exact h.elim
theorem cell_dic {ad : List Addr} {O : Store} {H : Hp} {p : Addr} (S : Sim U ad O H) (hp : H p = none) (t : Bool) : Sim U (ad ++ [p]) (O ++ [.dic t [] []]) (upd H p (dOf t)) := by
  cases t
  · exact S.alloc hp ⟨[], upd_same, rfl, rfl⟩
  · exact S.alloc hp ⟨[], upd_same, rfl, rfl⟩
/-- what was made stands, a value now -/
theorem dic_val {ad1 : List Addr} {H2 : Hp} {O2 : Store} {D : Addr} {acc : CP.D} {Q : V → Hp → Prop} {E : XK} {H1 : Hp} (S1 : D ∉ ad1) (I : Sim U (ad1 ++ [D]) (O2 ++ [acc]) H2) (s : Step ad1 H1 (ad1 ++ [D]) H2) (oa : okD ad1.length acc = true) (oO : ∀ (i : Nat) (d : CP.D), O2[i]? = some d → okD ad1.length d = true)
    (hd : ∃ t ks vs, acc = .dic t ks vs) (h : Post U ad1 H1 Q E (.ok acc O2)) : Q (.ref D) H2 := by
  have hn : ad1.length = O2.length := by have := I.len; simpa using this
  have hDx : (ad1 ++ [D])[ad1.length]? = some D := by simp
  have cc := I.at_ ad1.length D acc hDx (by rw [List.getElem?_append_right (by omega), hn]; simp)
  have Sc := I.cutad (ad := ad1) (l := [D]) (fun i d e => by rw [hn, List.take_left] at e; exact oO i d e)
  rw [hn, List.take_left] at Sc
  refine h ad1 H2 _ s.cut Sc ?_
  obtain ⟨t, ks, vs, rfl⟩ := hd
  cases t with
  | false => obtain ⟨kvs, e1, e2, e3⟩ := cc; exact ⟨D, rfl, S1, kvs, e1, e2, Reps.cutad oa e3⟩
  | true => obtain ⟨kvs, e1, e2, e3⟩ := cc; exact ⟨D, rfl, S1, kvs, e1, e2, Reps.cutad oa e3⟩
theorem dcTurn_dic {vs : List Nat} {σ : Env} {d acc a : CP.D} {O O' : Store} (h : ∃ t ks vs, acc = CP.D.dic t ks vs) (e : dcTurn g vs tt kd el σ d acc O = some (a, O')) : ∃ t ks vs, a = CP.D.dic t ks vs := by
  obtain ⟨t, ks, vs', rfl⟩ := h
  obtain ⟨σ1, e1, e⟩ := Option.bind_eq_some_iff.mp (show (tgt g d (O ++ [.dic t ks vs']) (wipeE σ vs)).bind _ = some (a, O') from e)
  obtain ⟨⟨b, O3⟩, e2, e⟩ := Option.bind_eq_some_iff.mp e
  cases b with
  | false => cases (show some (CP.D.dic t ks vs', O3) = some (a, O') from e); exact ⟨_, _, _, rfl⟩
  | true =>
    rw [if_pos rfl] at e
    obtain ⟨⟨ky, O4⟩, e3, e⟩ := Option.bind_eq_some_iff.mp e
    obtain ⟨⟨y, O5⟩, e4, e⟩ := Option.bind_eq_some_iff.mp e
    obtain ⟨a', e5, e6⟩ := Option.map_eq_some_iff.mp e
    cases e6
    unfold dPutA at e5
    obtain ⟨kk, _, e5⟩ := Option.bind_eq_some_iff.mp e5
    split at e5
    · cases e5; unfold dPut; split <;> exact ⟨_, _, _, rfl⟩
    · cases e5
theorem dc_run {ad1 : List Addr} {H1 : Hp} {O1 : Store} {J : It} {it : Itm} {σ : Env} {sv : L2.St} {vs : List Nat} {Qd : V → Hp → Prop} {E : XK} {D : Addr} (S1 : Sim U ad1 O1 H1) (r1 : RepE U ad1 H1 σ sv) (y : Yields U J ad1 H1 it.ds it.w) (hw : watchOk it.w O1) (hD : H1 D = none)
    (hsl : ∀ i ∈ g.slots, i ∈ vs) (h : Post U ad1 H1 Qd E (dcL it.w (dcTurn g vs tt kd el σ) it.ds (.dic t [] []) O1)) :
    ∃ W : Nat → Nat → Hp → Prop, (∃ m, W 0 m (upd H1 D (dOf t))) ∧ ∀ i m H, W i m H → (J.stop i H ∧ Qd (.ref D) H) ∨
      (J.go i H ∧ ∃ Nx : Hp → Prop, (∀ H', Nx H' → ∃ m', m' < m ∧ W (i + 1) m' H') ∧ ∀ x H', J.yld i H x H' → gOf U.K g x (L2.wipe sv vs) H' fun σ2 H2 => L2.wipe σ2 vs = L2.wipe sv vs ∧ tGT U (fun _ _ _ _ => False) tt σ2 H2 fun b H3 =>
        if b = true then tG U (fun _ _ _ _ => False) kd σ2 H3 fun y H4 => tG U (fun _ _ _ _ => False) el σ2 H4 fun z H5 => ∃ H6, DPut H5 D y z H6 ∧ Nx H6 else Nx H3) := by
  obtain ⟨G, Y, w, hG, hY⟩ := y
  have al : Step ad1 H1 (ad1 ++ [D]) (upd H1 D (dOf t)) := Step.alloc hD
  refine walk_gen w (fun x H' Nx => gOf U.K g x (L2.wipe sv vs) H' fun σ2 H2 => L2.wipe σ2 vs = L2.wipe sv vs ∧ tGT U (fun _ _ _ _ => False) tt σ2 H2 fun b H3 =>
        if b = true then tG U (fun _ _ _ _ => False) kd σ2 H3 fun y H4 => tG U (fun _ _ _ _ => False) el σ2 H4 fun z H5 => ∃ H6, DPut H5 D y z H6 ∧ Nx H6 else Nx H3)
    (fun i H2 => ∃ O2 acc, DcInv U ad1 (upd H1 D (dOf t)) D it.w H2 O2 acc ∧ (∃ t ks vs, acc = CP.D.dic t ks vs) ∧ Post U ad1 H1 Qd E (dcL it.w (dcTurn g vs tt kd el σ) (it.ds.drop i) acc O2))
    ⟨O1, .dic t [] [], ⟨cell_dic S1 hD t, .refl, rfl, fun i d e => S1.okGet e, hw⟩, ⟨t, [], [], rfl⟩, h⟩ ?_ ?_ ?_
  · rintro i H2 hi ⟨O2, acc, I, _, h2⟩
    exact hG _ _ H2 (al.trans I.2.1) I.1 (watch_app I.2.2.2.2)
  · rintro i x H2 H3 hi ⟨O2, acc, I, hd, h2⟩ yy
    obtain ⟨s3, S3, d, ed, rd⟩ := hY i x H2 H3 _ _ hi (al.trans I.2.1) I.1 (watch_app I.2.2.2.2) yy
    have hdrop : it.ds.drop i = d :: it.ds.drop (i + 1) := by
      rw [List.drop_eq_getElem_cons hi]
      rw [List.getElem?_eq_getElem hi] at ed
      cases ed; rfl
    rw [hdrop] at h2
    unfold dcL at h2
    rw [if_pos I.2.2.2.2] at h2
    cases et : dcTurn g vs tt kd el σ d acc O2 with
    | none => rw [et] at h2; exact h2.elim
    | some q =>
      rw [et] at h2
      have I3 : DcInv U ad1 (upd H1 D (dOf t)) D it.w H3 O2 acc := ⟨S3, I.2.1.trans s3, I.2.2.1, I.2.2.2.1, I.2.2.2.2⟩
      exact dc_turn (acc' := q.1) (O' := q.2) I3 ((r1.keep al).keep I3.2.1) rd hsl et fun H' I' => ⟨q.2, q.1, ⟨I'.1, I'.2.1, I'.2.2.1, I'.2.2.2.1, dcL_watch h2⟩, dcTurn_dic hd et, h2⟩
  · rintro H2 ⟨O2, acc, I, hd, h2⟩
    rw [List.drop_length] at h2
    unfold dcL at h2
    rw [if_pos I.2.2.2.2] at h2
    exact dic_val (S1.out hD) I.1 (al.trans I.2.1) I.2.2.1 I.2.2.2.1 hd h2
theorem sDc (hi : SI U c k tg iter mi) (hg : SG U (blkCs c scope) tg g) (ht : SIfs U (blkCs c scope) k ifs tt) (hk : SE U (blkCs c scope) k kx kd) (he : SE U (blkCs c scope) k elt el) (ok : blkC c.N c.sc scope own = true) (hsl : ∀ i ∈ g.slots, i ∈ own.map (·.2))
    (hs : ∀ (env : PySem.Env) x, foldedSetIterable iter env x = pure x := by intro _ _; rfl) (hh : c.hot = false := by rfl) : SE U c k (.DictComp kx elt [⟨tg, iter, ifs, 0⟩] scope pos) (eDc t mi g (own.map (·.2)) tt kd el) := by
  intro X W C
  obtain ⟨ti, pi, fi⟩ := hi X W C
  have hu := units65 C.room
  refine ⟨_, pe_dcg (t := t) (own := own) (by omega) (C.calm hh) (by rw [C.n]; exact C.nd) pi (by rw [C.n, C.s]; exact blkOk_by ok) (fun s H Ca cl fp => hg _ _ k (C.blk scope s H cl Ca fp)) (fun s H Ca cl fp => ht _ _ (C.blk scope s H cl Ca fp)) (fun s H Ca cl fp => hk.pe (C.blk scope s H cl Ca fp)) (fun s H Ca cl fp => he.pe (C.blk scope s H cl Ca fp)) (hs _), ?_⟩
  intro ad O H σ sv Q S r h
  exact fi ad O H σ sv _ S r (postI_of h fun ad1 H1 O1 it J s1 S1 y hw h1 D hD => dc_run S1 (r.keep s1) y hw hD hsl h1)
theorem sSetDc {i : Nat} {y : Str} {py spos : Pos} (hi : SI U c k tg iter mi) (hg : SG U (blkCs c scope) tg g) (ht : SIfs U (blkCs c scope) k ifs tt) (hk : SE U (blkCs c scope) k kx kd) (he : SE U (blkCs c scope) k elt el) (ok : blkC c.N c.sc scope own = true) (hsl : ∀ i ∈ g.slots, i ∈ own.map (·.2))
    (hy : c.N[i]? = some y) (hyl : c.sc.names.lookup y = some .local) (hkf : c.sc.kind = .function) (hl : (py.line == pos.line) = true) (ha : (scope.names.any fun (n, k) => n == y && (k == .local || k == .cell)) = false)
    (hs : ∀ (env : PySem.Env) x, foldedSetIterable iter env x = pure x := by intro _ _; rfl) (hh : c.hot = false := by rfl) : SS U c k (.Assign [.Name y py] (.DictComp kx elt [⟨tg, iter, ifs, 0⟩] scope pos) spos) (sSet i (eDc t mi g (own.map (·.2)) tt kd el)) := by
  intro X W C
  obtain ⟨ti, pi, fi⟩ := hi X W C
  have hu := units65 C.room
  refine ⟨_, ps_setDcg (t := t) (i := i) (own := own) (by omega) (C.calm hh) (by rw [C.n]; exact C.nd) (by rw [C.n]; exact hy) (by rw [C.s]; exact hyl) (sw_dict (by rw [C.s]; exact hkf) (by rw [C.s]; exact hyl) hl ha) pi (by rw [C.n, C.s]; exact blkOk_by ok) (fun s H Ca cl fp => hg _ _ k (C.blk scope s H cl Ca fp))
    (fun s H Ca cl fp => ht _ _ (C.blk scope s H cl Ca fp)) (fun s H Ca cl fp => hk.pe (C.blk scope s H cl Ca fp)) (fun s H Ca cl fp => he.pe (C.blk scope s H cl Ca fp)) (hs _), ?_⟩
  intro ad O H σ sv Dn S r h
  have h' := PostS.of r h
  refine fi ad O H σ sv _ S r (postI_of h' fun ad1 H1 O1 it J s1 S1 y hw h1 D hD => ?_)
  refine dc_run (Qd := fun x H1 => gName i x sv H1 Dn.nx) (E := fun cl d H' => W cl d sv H') S1 (r.keep s1) y hw hD hsl (Post.mono h1 ?_)
  rintro v H2 ⟨ad2, O2, d, s2, S2, r2, h2⟩
  exact h2 ad2 H2 _ .refl S2 ((r.keep s2).set i r2)
theorem wDc (t : Bool) (own : List (Str × Nat)) (hi : SI U c k tg iter mi) (hg : SG U (blkCs c scope) tg g) (ht : SIfs U (blkCs c scope) k ifs tt) (hk : SE U (blkCs c scope) k kx kd) (he : SE U (blkCs c scope) k elt el) (ok : (blkC c.N c.sc scope own && subB g.slots (own.map (·.2))) = true)
    (hs : ∀ (env : PySem.Env) x, foldedSetIterable iter env x = pure x := by intro _ _; rfl) (hh : c.hot = false := by rfl) : SE U c k (.DictComp kx elt [⟨tg, iter, ifs, 0⟩] scope pos) (eDc t mi g (own.map (·.2)) tt kd el) :=
  sDc hi hg ht hk he (Bool.and_eq_true_iff.mp ok).1 (subB_of (Bool.and_eq_true_iff.mp ok).2) hs hh
theorem wSetDc {y : Str} {py spos : Pos} (t : Bool) (i : Nat) (own : List (Str × Nat)) (hi : SI U c k tg iter mi) (hg : SG U (blkCs c scope) tg g) (ht : SIfs U (blkCs c scope) k ifs tt) (hk : SE U (blkCs c scope) k kx kd) (he : SE U (blkCs c scope) k elt el)
    (ok : lcB c scope own g i y py.line pos.line = true) (hs : ∀ (env : PySem.Env) x, foldedSetIterable iter env x = pure x := by intro _ _; rfl) (hh : c.hot = false := by rfl) : SS U c k (.Assign [.Name y py] (.DictComp kx elt [⟨tg, iter, ifs, 0⟩] scope pos) spos) (sSet i (eDc t mi g (own.map (·.2)) tt kd el)) := by
  obtain ⟨h1, h⟩ := Bool.and_eq_true_iff.mp ok
  obtain ⟨h2, h⟩ := Bool.and_eq_true_iff.mp h
  obtain ⟨h3, h⟩ := Bool.and_eq_true_iff.mp h
  obtain ⟨h4, h5⟩ := Bool.and_eq_true_iff.mp h
  refine sSetDc hi hg ht hk he (Bool.and_eq_true_iff.mp h1).1 (subB_of (Bool.and_eq_true_iff.mp h1).2) (lB_1 h2) (lB_2 h2) ?_ (beq_iff_eq.mpr (of_decide_eq_true h4)) (not_t h5) hs hh
  split at h3
  · assumption
  · cases h3
end
end CP
namespace CP
open PySem PySem.Spec PyProof.Rows L2
structure ExcAt0 (U : Univ) (x : Str) : Prop where
  ex : ∃ b C, U.mg x = some (.ref C) ∧ PySem.W.excIn U.K C (EB.bm b) (EB.new b) = true ∧ PySem.W.keepIn U.K (.ref C) = true ∧ PySem.W.subIn U.K (.ref C) (.type "BaseException") = some true ∧ PySem.W.typeIn U.K (.ref C) = some (.type "type")
theorem excAt0_of {U : Univ} {b : EB} {x : Str} (hm : U.mg x = some (.ref (He.ga U.K x))) (h : exc0B U.K b x = true) : ExcAt0 U x := by
  unfold exc0B at h
  obtain ⟨h1, h⟩ := Bool.and_eq_true_iff.mp h
  obtain ⟨h2, h⟩ := Bool.and_eq_true_iff.mp h
  obtain ⟨h3, h4⟩ := Bool.and_eq_true_iff.mp h
  exact ⟨b, _, hm, h1, h2, of_decide_eq_true h3, of_decide_eq_true h4⟩
section
variable {X : Cx} {C : Addr} {bmB : List Value} {B newId initId : String}
theorem pmk_own0 {x : Str} {p pos : Pos} (F : ExcBaseFacts B newId initId bmB) (q : PySem.W.excIn X.K C bmB newId = true) (gC : X.mg x = some (.ref C)) (kC : PySem.W.keepIn X.K (.ref C) = true) (r : Raises X (.ref C)) (hg : Gl X x)
    (hdb : (x == ("__debug__" : Str)) = false) : PMk X (.Call (.Name x p) [] [] pos) (fun _ H Q => Q (.ref C) none H) := by
  intro pins s σ H Q I h
  refine wpAny_Call_Name_kw (ld_glob I hg gC ?_ hdb)
  refine PySem.W.callWith_K0 I.kIn kC ?_
  obtain ⟨bm, N, nm, qn, bs, hdct, sn, sub, ab, col, dd, k0, k1, k2, k3, k5, mN, hC, hN, hni, T⟩ := exc_obj I.kIn q
  refine wpAny_call_exc_subT F T hC hN hni (fun h' e hm => ?_) (by show 0 ≤ sizeLine; exact Nat.zero_le _)
  exact mk_of I hm r h (I.hok.gone hm.new)
end
/-- raise x() -/
def sRaise0 (x : Str) : DS := fun σ O => .er ⟨true, x, [], []⟩ σ O
theorem wRaise0 {U : Univ} {c : Cs} {k : Nat} {x : Str} {p pos pos2 : Pos} (F : ExcAt0 U x) (hg : gB c x = true) (hh : c.hot = false := by rfl) :
    SS U c k (.Raise (some (.Call (.Name x p) [] [] pos)) none pos2) (sRaise0 x) := by
  intro X W Cc
  obtain ⟨b, C, gC, h1, h2, h3, h4⟩ := F.ex
  obtain ⟨_, eu⟩ := Cc.u
  subst eu
  refine ⟨_, ps_raise (Cc.calm hh) Cc.tk (pmk_own0 b.base h1 gC h2 (raises_own h3 h4) (by show X.env.scope.names.lookup x = _; rw [Cc.s]; exact gB_lk hg) (gB_db hg)), fun ad O H σ sv Dn S r h => ?_⟩
  exact h ad H sv (.ref C) none .refl S r ⟨gC, .inl ⟨rfl, rfl⟩⟩
structure ErrC (K : PySem.W.Frag) (bs gs : List Str) (tys : List String) (p : ErrR) : Prop where
  c : L2.ExcC K (He.ga K p.2.1)
  g : ∀ g ∈ gs, PySem.W.kitOne K (.ref (He.ga K p.2.1)) (.ref (He.ga K g)) = some (p.2.2.2.1.contains g)
  n : ∀ n ∈ tys, PySem.W.kitOne K (.ref (He.ga K p.2.1)) (.type n) = some (p.2.2.2.2.contains n)
  m : PySem.W.exmAny K (.ref (He.ga K p.2.1)) (bs.map fun x => .ref (He.ga K x)) = some true
theorem errC_R {K : PySem.W.Frag} {bs gs : List Str} {tys : List String} {p : ErrR} (h : errB K bs gs tys p = true) : ErrC K bs gs tys p := let k := errOk h; ⟨k.c, k.g, k.n, k.m⟩
theorem errN_0 {K : PySem.W.Frag} {bs gs : List Str} {tys : List String} {p : ErrR} (h : errN K bs gs tys p = true) : exc0B K p.1 p.2.1 = true := (Bool.and_eq_true_iff.mp h).1
theorem errC_N {K : PySem.W.Frag} {bs gs : List Str} {tys : List String} {p : ErrR} (h : errN K bs gs tys p = true) : ErrC K bs gs tys p := by
  have h0 := errN_0 h
  unfold errN at h
  obtain ⟨_, h⟩ := Bool.and_eq_true_iff.mp h
  obtain ⟨hd, h⟩ := Bool.and_eq_true_iff.mp h
  obtain ⟨ga, h⟩ := Bool.and_eq_true_iff.mp h
  obtain ⟨gg, h⟩ := Bool.and_eq_true_iff.mp h
  obtain ⟨h2, h⟩ := Bool.and_eq_true_iff.mp h
  obtain ⟨h3, h⟩ := Bool.and_eq_true_iff.mp h
  obtain ⟨h4, h5⟩ := Bool.and_eq_true_iff.mp h
  unfold exc0B at h0
  obtain ⟨_, h0⟩ := Bool.and_eq_true_iff.mp h0
  obtain ⟨_, h0⟩ := Bool.and_eq_true_iff.mp h0
  obtain ⟨eC, _⟩ := Bool.and_eq_true_iff.mp h0
  unfold clsB at h2
  obtain ⟨c1, h2⟩ := Bool.and_eq_true_iff.mp h2
  obtain ⟨c2, h2⟩ := Bool.and_eq_true_iff.mp h2
  obtain ⟨c3, c4⟩ := Bool.and_eq_true_iff.mp h2
  exact ⟨⟨He.eqO_ok ga, He.eqO_ok gg, of_decide_eq_true eC, hd, He.eqO_ok c1, He.eqO_ok c2, of_decide_eq_true c3, of_decide_eq_true c4⟩, fun g hg => of_decide_eq_true (List.all_eq_true.mp h3 g hg), fun n hn => of_decide_eq_true (List.all_eq_true.mp h4 n hn), of_decide_eq_true h5⟩
section
variable {U : Univ} {R N : List ErrR} {bs gs : List Str} {tys : List String}
theorem errC_all (hR : R.all (errB U.K bs gs tys) = true) (hN : N.all (errN U.K bs gs tys) = true) : ∀ p ∈ R ++ N, ErrC U.K bs gs tys p := fun p hp => by
  rcases List.mem_append.mp hp with h | h
  · exact errC_R (List.all_eq_true.mp hR p h)
  · exact errC_N (List.all_eq_true.mp hN p h)
theorem isiE_of2 (hR : R.all (errB U.K bs gs tys) = true) (hN : N.all (errN U.K bs gs tys) = true) (hc : ∀ p ∈ R ++ N, U.mg p.2.1 = some (.ref (He.ga U.K p.2.1))) (hg : ∀ g ∈ gs, U.mg g = some (.ref (He.ga U.K g))) :
    IsiE U ((R ++ N).map fun p => p.2.1) (tabOf (R ++ N) gs) (tabTOf (R ++ N) tys) where
  cls := fun c hm => by
    obtain ⟨p, hp, rfl⟩ := List.mem_map.mp hm
    exact ⟨_, hc p hp, (errC_all hR hN p hp).c⟩
  own := fun c hm g b e => by
    unfold tabOf at e
    split at e
    · rename_i hgs
      obtain ⟨p, e1, e2⟩ := Option.map_eq_some_iff.mp e
      have hp := List.mem_of_find?_eq_some e1
      have hpc : p.2.1 = c := by simpa using List.find?_some e1
      subst hpc
      subst e2
      have hm := List.contains_iff_mem.mp hgs
      exact ⟨_, _, hc p hp, hg g hm, (errC_all hR hN p hp).g g hm⟩
    · cases e
  ty := fun c hm n b e => by
    unfold tabTOf at e
    split at e
    · rename_i hgs
      obtain ⟨p, e1, e2⟩ := Option.map_eq_some_iff.mp e
      have hp := List.mem_of_find?_eq_some e1
      have hpc : p.2.1 = c := by simpa using List.find?_some e1
      subst hpc
      subst e2
      exact ⟨_, hc p hp, (errC_all hR hN p hp).n n (List.contains_iff_mem.mp hgs)⟩
    · cases e
theorem exm_of2 (hR : R.all (errB U.K bs gs tys) = true) (hN : N.all (errN U.K bs gs tys) = true) (hc : ∀ p ∈ R ++ N, U.mg p.2.1 = some (.ref (He.ga U.K p.2.1))) :
    ∀ c ∈ (R ++ N).map fun p => p.2.1, ∃ C, U.mg c = some (.ref C) ∧ PySem.W.exmAny U.K (.ref C) (bs.map fun x => .ref (He.ga U.K x)) = some true := fun c hm => by
  obtain ⟨p, hp, rfl⟩ := List.mem_map.mp hm
  exact ⟨_, hc p hp, (errC_all hR hN p hp).m⟩
end
end CP
namespace PySem
namespace HandSPX
open Builtin Builtin.ObjectAttr
section
variable {M : Model} {A : Around} {E : Value → Shared → Prop} {h : Heap} {g : Array GenState} {d : Drawn} {t : Nat} {os : OsState}
variable {nm q : Str} {C N : Addr} {bs bm bmB : List Value} {hdct : Bool} {sn : List Str} {sub : List Value} {ab : Bool} {col : Option Bool} {dd : Option Addr} {k0 k1 k2 k3 k5 : Option Value} {B newId initId : String}
theorem new_named (F : ExcBaseFacts B newId initId bmB) (hT : ∀ X : String, bm.contains (.type X) = bmB.contains (.type X)) {kw : List (Str × Value)} {Q : Unit → Shared → Prop}
    (hC : h.get? C = some (excClassObj nm q C N bs bm hdct sn sub ab col dd k0 k1 k2 k3 k5 newId)) (hq : Q () ⟨h, g, d, t, os⟩) : wpAny M A (checkBuiltinCall newId ⟨[.ref C], kw⟩) Q E ⟨h, g, d, t, os⟩ := by
  have hcont : (Value.ref C :: bm).contains (.type B) = true := by rw [List.contains_cons, hT, F.hasB, Bool.or_true]
  have hstar := F.noStar
  simp only [checkBuiltinCall, F.newKind, F.newSplit, F.newRow]
  repeat (first | refine wpAny_loadPart_at hC ?_ | (refine wpAny_isSubtype_exc hC ?_; rw [hcont]) | refine wpAny_staticBase_exc hC ?_ | refine wpAny_madeBy_exc hC ?_ | simp only [bne_self_eq_false, Bool.false_eq_true, if_false] | wp_step)
  exact hq
end
section
variable {prog : Program} {w : World} {A : Around} {E : Value → Shared → Prop} {R : Result → Shared → Prop} {h : Heap} {g : Array GenState} {d : Drawn} {t : Nat} {os : OsState}
variable {nm q : Str} {C N : Addr} {bs bm bmB : List Value} {hdct : Bool} {sn : List Str} {sub : List Value} {ab : Bool} {col : Option Bool} {dd : Option Addr} {k0 k1 k2 k3 k5 : Option Value} {B newId initId : String}
theorem made_named (F : ExcBaseFacts B newId initId bmB) (hT : ∀ X : String, bm.contains (.type X) = bmB.contains (.type X)) {kw : List (Str × Value)}
    (hC : h.get? C = some (excClassObj nm q C N bs bm hdct sn sub ab col dd k0 k1 k2 k3 k5 newId))
    (hq : R (.ok (.ret (.ref (h.objs.size + 1)))) ⟨(h.push { cls := .type "tuple", data := .seq #[] }).push
      { cls := .ref C, data := .fields #[.ref h.objs.size, .none, .none, .none, .bool false, .none] }, g, d, t, os⟩) :
    codeAny (model prog w) A (.builtin newId ⟨[.ref C], kw⟩) R ⟨h, g, d, t, os⟩ := by
  have hends := F.ends
  have hcB : (Value.ref C :: bm).contains (.type B) = true := by rw [List.contains_cons, hT, F.hasB, Bool.or_true]
  have hcA : (Value.ref C :: bm).contains (.type "AttributeError") = false := by rw [List.contains_cons, hT, F.noAttr]; rfl
  have hcN : (Value.ref C :: bm).contains (.type "NameError") = false := by rw [List.contains_cons, hT, F.noName]; rfl
  have hrest : ([] : List Value).length ≤ sizeLine := Nat.zero_le _
  refine codeAny_builtinAt F.entry ?_
  unfold Builtin.«BaseException.__new__»
  refine wpAt_bind ?_
  show wpAt _ _ _ (stack >>= _) _ _ _
  refine wpAt_bind (wpAt_stack fun p below => wpAt_of_wpAny ?_)
  wp_walk
  refine wpAt_of_wpAny ?_
  rw [F.owner]
  repeat (first | with_reducible refine wpAny_madeHere_exc F.canon hC ?_ | with_reducible refine wpAny_loadPart_at hC ?_ | (with_reducible refine wpAny_isSubtype_exc hC ?_; first | rw [hcB] | rw [hcA] | rw [hcN]) | wp_step)
  show R _ _
  rw [Heap.size_push]
  exact hq
theorem type_named (F : ExcBaseFacts B newId initId bmB) (hT : ∀ X : String, bm.contains (.type X) = bmB.contains (.type X)) {kw : List (Str × Value)} {fI : Addr} {Q : Fin → Shared → Prop}
    (hC : h.get? C = some (excClassObj nm q C N bs bm hdct sn sub ab col dd k0 k1 k2 k3 k5 newId))
    (hi : W.Looks (model prog w) h (typeLookup (.ref C) "__init__") (some (.ref fI))) (hb : ∀ self, W.Looks (model prog w) h (bindSpecial (.ref fI) self) (.ref fI, [self]))
    (hq : codeAny (model prog w) A (.call (.ref fI) ⟨[.ref (h.objs.size + 1)], kw⟩)
      (fun r s' => match r with | .ok (.ret v) => v = .none ∧ Q (.done (.ret (.ref (h.objs.size + 1)))) s' | .ok _ => False | .error e => E e s')
      ⟨(h.push (W.kdv_tup [])).push (excO C h.objs.size), g, d, t, os⟩) :
    wpAny (model prog w) A (Builtin.«type.__call__» ⟨[.ref C], kw⟩) Q E ⟨h, g, d, t, os⟩ := by
  repeat (first | with_reducible refine wpAny_loadPart_at hC ?_ | with_reducible refine wpAny_madeBy_exc hC ?_ | wp_step)
  refine codeAny_call_builtin_code (Code.quiet_builtin _ F.quiet) (new_named F hT hC ?_)
  refine made_named F hT hC ?_
  show wpAny _ _ _ _ _ _
  have k : ∀ b o, h.get? b = some o → ((h.push (W.kdv_tup [])).push (excO C h.objs.size)).get? b = some o := fun b o e => Heap.get?_push_of_some _ (Heap.get?_push_of_some _ e)
  have hC₁ := k _ _ hC
  have hget : ((h.push (W.kdv_tup [])).push (excO C h.objs.size)).get? (h.objs.size + 1) = some (excO C h.objs.size) := by heap_get
  have hcC : (Value.ref C :: bm).contains (.ref C) = true := by simp
  have i1 := hi.keeps k
  have b1 := (hb (.ref (h.objs.size + 1))).keeps k
  unfold isInstance
  repeat (first | with_reducible refine wpAny_loadPart_at hget ?_ | (with_reducible refine wpAny_isSubtype_exc hC₁ ?_; rw [hcC]) | wp_step)
  show wpAny _ _ (typeLookup (.ref C) _) _ _ _
  refine i1.at ?_
  refine wpAny_holding (wpAny_bind (b1.at ?_))
  refine wpAny_bind (wpAny_call (codeAny_mono hq fun r s' z => ?_))
  rcases r with e | (v | _ | _ | _) <;> first | exact z | exact z.elim | skip
  obtain ⟨rfl, z⟩ := z
  first
    | exact wpAny_pure (wpAny_pure z)
    | (wp_walk; exact z)
theorem call_named (F : ExcBaseFacts B newId initId bmB) (hT : ∀ X : String, bm.contains (.type X) = bmB.contains (.type X)) {kw : List (Str × Value)} {fI : Addr}
    (hC : h.get? C = some (excClassObj nm q C N bs bm hdct sn sub ab col dd k0 k1 k2 k3 k5 newId))
    (hi : W.Looks (model prog w) h (typeLookup (.ref C) "__init__") (some (.ref fI))) (hb : ∀ self, W.Looks (model prog w) h (bindSpecial (.ref fI) self) (.ref fI, [self]))
    (hq : codeAny (model prog w) (A.under (.builtin "type.__call__" ⟨[.ref C], kw⟩)) (.call (.ref fI) ⟨[.ref (h.objs.size + 1)], kw⟩) (W.InitBack (h.objs.size + 1) R)
      ⟨(h.push (W.kdv_tup [])).push (excO C h.objs.size), g, d, t, os⟩) :
    codeAny (model prog w) A (.call (.ref C) ⟨[], kw⟩) R ⟨h, g, d, t, os⟩ := by
  have f1 := tc_lookup
  have f2 := tc_bind (.ref C)
  have hTy : (⟨h, g, d, t, os⟩ : Shared).TypeIs (.ref C) "type" := ⟨_, hC, rfl⟩
  refine codeAny_of_tree ?_
  show wpAny _ _ (callAny (.ref C) _) _ _ _
  repeat (any_goals (first | assumption | with_reducible refine wpAny_loadPart_at hC ?_ | wp_step))
  refine ⟨rfl, ?_⟩
  refine codeAny_call_builtin_at (Code.quiet_builtin _ (by decide +kernel)) entry_typeCall (wpAny_check_type_call_sub hC (type_named F hT hC hi hb ?_))
  refine codeAny_mono hq fun r s' z => ?_
  rcases r with e | (v | _ | _ | _) <;> exact z
end
end HandSPX
end PySem
namespace CP
open PySem PySem.Spec PyProof.Rows L2
/-- def __init__(self, f): self.f = f, called by name -/
structure ExcIniK (K : PySem.W.Frag) (fI : Addr) (fld : Str) : Prop where
  ex : ∃ (st : Stmt) (qual : Str) (fd : FuncData) (q1 q2 q3 q4 : Pos), FunD K "__init__" qual (defArgs st) (defBody st) (defScope st) [] [] fI fd ∧ FnScope ["self", fld] ["self", fld] (defScope st) ∧ BindK K fd ["self", fld] 1 [fld] [0, 1] ∧
    defBody st = [.Assign [.Attribute (.Name "self" q1) fld q2] (.Name fld q3) q4] ∧ (defScope st).names.lookup ("self" : Str) = some .local ∧ (defScope st).names.lookup fld = some .local ∧ (fld == ("__debug__" : Str)) = false ∧ (fld == ("self" : Str)) = false
section
variable {prog : Program} {w : World} {A : Around} {E : Value → Shared → Prop} {R : Result → Shared → Prop} {s : Shared} {K : PySem.W.Frag} {b : EB} {C fI : Addr} {fld : Str}
theorem exc_iniK (T : ExcT K b C fI fld) (N : ExcIniK K fI fld) {x t0 : Addr} {v : Value} (X : K.In s.heap) (hlim : s.heap.NoLimit) (hx : s.heap.get? x = some (HandSPX.excO C t0)) (hroom : A.depth < recursionLimit)
    (hq : ∀ h' tk dx, InitEnd s.heap h' x C dx t0 fld v → R (.ok (.ret .none)) { s with heap := h', toks := tk }) :
    codeAny (model prog w) A (.call (.ref fI) ⟨[.ref x], [(fld, v)]⟩) R s := by
  obtain ⟨st, qual, fd, q1, q2, q3, q4, F, S, bi, hbody, hs, hp, hdb, hps⟩ := N.ex
  obtain ⟨oc, od, dV, kV, doc, pm, an, cdv, ct, osl, rfl, lk, hcd, -, -⟩ := F.ex
  obtain ⟨cd, hcl, hdct⟩ := PySem.W.any_some T.hd
  have hini := T.ini
  obtain ⟨bm, hmro, htl⟩ : ∃ bm, cd.mro = .ref C :: bm ∧ PySem.W.excTail b.bm bm = true := by
    unfold PySem.W.excInitIn at hini
    unfold PySem.W.clsIn at hcl
    split at hini
    · rename_i dd cd' sl ho
      rw [ho] at hcl
      simp only at hcl
      cases hcl
      split at hini
      · rename_i C' bm k0 k1 k2 k3 n k5 hm hsl
        simp only [Bool.and_eq_true, beq_iff_eq, Bool.not_eq_true'] at hini
        obtain ⟨⟨⟨rfl, rfl⟩, hdel⟩, ht⟩ := hini
        exact ⟨bm, hm, ht⟩
      · cases hini
    · cases hini
  have bt : BindsTo s _ ⟨[.ref x], [(fld, v)]⟩ ((["self", fld] : List Str).zip [.ref x, v]) := bi.to s [.ref x] [v] X rfl rfl
  refine codeAny_call_function hroom (X _ _ lk) rfl S.co S.gen rfl (PySem.W.codeRec_of X hcd) (bt _ _ _ _ ?_)
  refine wpAny_newFunctionEnv_cells S.kind (fun y hy => ?_) fun env he s₁ IC => ?_
  · obtain ⟨n, v⟩ := y
    rcases S.par n (List.of_mem_zip hy).1 with z | z
    · exact .inl z
    · exact .inr ⟨z, PySem.W.cellsFrom_some _ _ _ (.inl z)⟩
  subst he
  refine ⟨hlim.keeps IC.toInCall.keep, codeAny_func ?_⟩
  obtain ⟨h₁, tk₁, rfl⟩ := IC.toInCall.same
  have k : ∀ b o, s.heap.get? b = some o → h₁.get? b = some o := IC.toInCall.keep
  have hn := IC.toInCall.ns
  have hxL : s.heap.objs.size ≠ x := Nat.ne_of_gt (Heap.lt_size hx)
  have X₁ : K.In h₁ := X.keeps k
  have hx₁ := k _ _ hx
  rw [hbody]
  refine wpAny_execs_cons (plainObj_wpAny_Assign_Attribute ?_)
  have nd : (["self", fld] : List Str).Nodup := S.nd
  have g0 : bindL (envOfC qual (defScope st) s.heap.objs.size fI cdv).kindOf ((["self", fld] : List Str).zip [.ref x, v]) (fun _ => none) ("self" : Str) = some (.ref x) := bindL_get nd (i := 0) rfl rfl hs
  have g1 : bindL (envOfC qual (defScope st) s.heap.objs.size fI cdv).kindOf ((["self", fld] : List Str).zip [.ref x, v]) (fun _ => none) fld = some v := bindL_get nd (i := 1) rfl rfl hp
  refine ldL (v := v) hn g1 (ldL (v := .ref x) hn g0 ?_ S.kind hs (by decide)) S.kind hp hdb
  refine PySem.W.set_plain X₁ (ox := HandSPX.excO C t0) (od := none) ⟨hx₁, rfl, rfl, trivial⟩ T.sa ?_
  refine HandSPX.osaT b.store X₁ hx₁ hcl hmro htl hdct T.nf (fun h₃ tk₃ dx k₃ dn dne hx₃ hn₃ => ?_)
  show wpAny _ _ (execs _ _) _ _ _
  have z : s.heap.objs.size < h₁.objs.size := hn.lt
  exact wpAny_execs_nil (hq h₃ tk₃ dx ⟨fun b o hb e => k₃ b o hb (k b o e), hx₃, Nat.le_of_lt (Nat.lt_of_lt_of_le z dn), dne, hn₃⟩)
theorem exc_madeK (T : ExcT K b C fI fld) (N : ExcIniK K fI fld) {v : Value} (X : K.In s.heap) (hlim : s.heap.NoLimit) (hroom : A.depth + 1 < recursionLimit)
    (hq : ∀ h' tk e d, OwnMade s.heap h' e C d fld v → R (.ok (.ret (.ref e))) { s with heap := h', toks := tk }) :
    codeAny (model prog w) A (.call (.ref C) ⟨[], [(fld, v)]⟩) R s := by
  obtain ⟨nm, N', qn, bs, bm, hdct, sn, sub, ab, col, dd, k0, k1, k2, k3, k5, hC, hT⟩ := PySem.W.excInit_of X T.ini
  obtain ⟨hp, g, dr, tk, os⟩ := s
  have k : ∀ b o, hp.get? b = some o → ((hp.push (PySem.W.kdv_tup [])).push (HandSPX.excO C hp.objs.size)).get? b = some o := fun b o e => Heap.get?_push_of_some _ (Heap.get?_push_of_some _ e)
  have hget : ((hp.push (PySem.W.kdv_tup [])).push (HandSPX.excO C hp.objs.size)).get? (hp.objs.size + 1) = some (HandSPX.excO C hp.objs.size) := by heap_get
  refine HandSPX.call_named b.base hT hC (PySem.W.looks_findIn X T.iC) (fun self => PySem.W.bind_fn X self T.tI) ?_
  refine exc_iniK (s := ⟨(hp.push (PySem.W.kdv_tup [])).push (HandSPX.excO C hp.objs.size), g, dr, tk, os⟩) T N (X.keeps k) (hlim.keeps k) hget ?_ fun h' tk' dx ⟨k', hx, dn, dne, hns⟩ => ?_
  · show A.depth + 1 < recursionLimit
    exact hroom
  · have old : ∀ b o, hp.get? b = some o → h'.get? b = some o := fun b o e => k' b o (Nat.ne_of_lt (Nat.lt_succ_of_lt (Heap.lt_size e))) (k b o e)
    have z : hp.objs.size + 1 + 1 ≤ dx := by
      first
        | (simpa only [Heap.size_push] using dn)
        | exact dn
        | (have q := dn; rw [Heap.size_push, Heap.size_push] at q; exact q)
    exact ⟨rfl, hq h' tk' (hp.objs.size + 1) dx ⟨old, Nat.le_succ _, ⟨_, _, hx, rfl, rfl, rfl, rfl⟩, Nat.le_trans (Nat.le_trans (Nat.le_succ _) (Nat.le_succ _)) z, dne, hns⟩⟩
end
section
variable {X : Cx} {pins : List (Addr × Obj)} {σ : L2.St} {H : Hp} {G' h' : Heap} {g : Array GenState} {dr : Drawn} {tk : Nat} {os : OsState}
/-- an error that was made, tracked as a thing -/
theorem landedE {a : Addr} {cl : Value} {dx : Option Addr} (I : Inv X pins σ H ⟨G', g, dr, tk, os⟩) (st : ∀ b o, G'.get? b = some o → h'.get? b = some o) (na : H a = none) (ns : G'.get? a = none)
    (there : ∃ oe vs, h'.get? a = some oe ∧ oe.cls = cl ∧ oe.dict = dx ∧ oe.data = .fields vs) : Inv X pins σ (upd H a (ExcO cl dx a)) ⟨h', g, dr, tk, os⟩ := by
  have ne : ∀ b o, G'.get? b = some o → b ≠ a := fun b o e z => by rw [z, ns] at e; cases e
  obtain ⟨oe, vs, he, hz1, hz2, hd⟩ := there
  have ob : ObjOk X.prog X.w (upd H a (ExcO cl dx a)) h' a (ExcO cl dx a) :=
    ⟨⟨oe, vs, he, hz1, hz2, hd⟩, ⟨oe, he⟩, fun _ _ ⟨o, v, q, r⟩ k => ⟨o, v, k o q, r⟩⟩
  have hk : HOk X.prog X.w (upd H a (ExcO cl dx a)) h' := I.hok.laidN st na ob
  exact I.call (ch := []) (h' := h') (g' := g) (t' := tk) (d' := dr) (H' := upd H a (ExcO cl dx a))
    ⟨fun b o e _ _ _ => st b o e, fun b o e _ _ _ => ⟨_, st b o e⟩, fun b o e n _ => by rw [upd_ne (ne b o e)]; exact n, fun b o e _ => ⟨o, st b o e⟩,
      fun b xs e => by rw [upd_ne (ne_of_none e na)]; exact e, fun b u xs e => by rw [upd_ne (ne_of_none e na)]; exact e, fun b ps e => ⟨#[], by rw [upd_ne (ne_of_none e na), e]; simp⟩⟩
    hk I.bare (fun _ z => nomatch z)
end
section
variable {X : Cx} {b : EB} {C fI : Addr} {fld : Str}
/-- C(e), as a thing -/
def tMkX (C : Addr) (fld : Str) (ta : TA) : TE := fun σ H Q => ta σ H fun vs H1 => ∃ v, vs = [v] ∧ ∀ d e, H1 d = none → H1 e = none → d ≠ e → Q (.ref e) (upd (upd H1 d (.xd [(fld, v)])) e (ExcO (.ref C) (some d) e))
theorem own_done {pins : List (Addr × Obj)} {σ : L2.St} {H1 : Hp} {Q : VK} {hp h' : Heap} {g : Array GenState} {dr : Drawn} {tk tk' : Nat} {os : OsState} {v : V} {v' : Value} {e d : Addr} (I1 : Inv X pins σ H1 ⟨hp, g, dr, tk, os⟩) (rv : RelV v v') (M : OwnMade hp h' e C d fld v')
    (q1 : ∀ d e, H1 d = none → H1 e = none → d ≠ e → Q (.ref e) (upd (upd H1 d (.xd [(fld, v)])) e (ExcO (.ref C) (some d) e))) : EP X pins σ Q (.ref e) ⟨h', g, dr, tk', os⟩ := by
  obtain ⟨oe, fv, hoe, hc, hd, hdat, h1⟩ := M.obj
  have hns := M.ns
  obtain ⟨G', g1, g2⟩ := restrict h' fun b => decide (b ≠ e)
  have gk : ∀ b, b ≠ e → G'.get? b = h'.get? b := fun b hb => g1 b (decide_eq_true hb)
  have ge : G'.get? e = none := g2 e (by simp)
  have old : ∀ b o, hp.get? b = some o → G'.get? b = some o := fun b o q => (gk b (Nat.ne_of_lt (Nat.lt_of_lt_of_le (Heap.lt_size q) M.new))).trans (M.keep b o q)
  have ob : ObjOk X.prog X.w (upd H1 d (.xd [(fld, v)])) G' d (.xd [(fld, v)]) :=
    ⟨_, hns.at (fun o q => (gk d M.dne).trans q), fun f => relO_fld rv f⟩
  have J : Inv X pins σ (upd H1 d (.xd [(fld, v)])) ⟨G', g, dr, tk', os⟩ := I1.laid (t' := tk') old M.dbig ob
  have he1 : H1 e = none := I1.hok.fresh M.new
  have he : upd H1 d (.xd [(fld, v)]) e = none := by rw [upd_ne (Ne.symm M.dne)]; exact he1
  refine ⟨.ref e, _, landedE J (fun b o q => ?_) he ge ⟨oe, fv, hoe, hc, hd, hdat⟩, rfl, q1 d e (I1.hok.fresh M.dbig) he1 M.dne⟩
  by_cases hb : b = e
  · have q' : G'.get? b = some o := q
    rw [hb, ge] at q'; cases q'
  · exact (gk b hb).symm.trans q
theorem pe_mkX {x : Str} {a : Expr} {ta : TA} {p pos : Pos} (T : ExcT X.K b C fI fld) (N : ExcIni X.K fI fld) (gC : X.mg x = some (.ref C)) (hr : X.A.depth + 1 < recursionLimit) (ha : PA X [a] ta) (hg : Gl X x) (hdb : (x == ("__debug__" : Str)) = false)
    (he : starEach (a :: []) X.env = (false, eval a X.env) :: starEach [] X.env := by rfl) (hpl : (backTo pos (starEach [] X.env)).any (·.1) = false := by rfl) :
    PE X (.Call (.Name x p) [a] [] pos) (tMkX C fld ta) := by
  refine ⟨fun pins s σ H Q I h => ?_⟩
  refine wpAny_Call_Name_kw (ld_glob I hg gC ?_ hdb)
  refine PySem.W.callWith_K (h₀ := X.base) I.ok.mod.kin T.kC (thn (ha.run pos pins s σ H _ I h) fun us s1 hh => ?_) he hpl
  obtain ⟨vs, H1, I1, r1, v, ev, q1⟩ := hh
  subst ev
  refine ⟨I1.kIn, ?_⟩
  cases r1 with
  | cons rv rn =>
    rename_i v' us'
    cases rn
    show wpAny _ _ (call (.ref C) [v']) _ _ _
    have hlim := I1.nolimit
    obtain ⟨hp, g, dr, tk, os⟩ := s1
    exact wpAny_call (exc_made T N I1.kIn hlim hr fun h' tk' e d M => own_done I1 rv M q1)
theorem pe_mkXK {x : Str} {kws : List Keyword} {ta : TA} {p pos : Pos} (T : ExcT X.K b C fI fld) (N : ExcIniK X.K fI fld) (gC : X.mg x = some (.ref C)) (hr : X.A.depth + 1 < recursionLimit) (ha : PK X kws ta) (hg : Gl X x) (hdb : (x == ("__debug__" : Str)) = false)
    (hall : (backToKw pos (keywordEach kws X.env)).all (·.1.isSome) = true) (hks : (backToKw pos (keywordEach kws X.env)).filterMap (·.1) = [fld])
    (hpl : ((backTo pos (starEach [] X.env)).any (·.1) || (backToKw pos (keywordEach kws X.env)).any (·.1.isNone)) = false) :
    PE X (.Call (.Name x p) [] kws pos) (tMkX C fld ta) := by
  refine ⟨fun pins s σ H Q I h => ?_⟩
  refine wpAny_Call_Name_kw (ld_glob I hg gC ?_ hdb)
  refine PySem.W.callWith_KW0 (h₀ := X.base) I.ok.mod.kin T.kC hall ?_ hpl
  refine thn (ha.run pos pins s σ H _ I h) fun us s1 hh => ?_
  obtain ⟨vs, H1, I1, r1, v, ev, q1⟩ := hh
  subst ev
  refine ⟨I1.kIn, ?_⟩
  rw [hks]
  cases r1 with
  | cons rv rn =>
    rename_i v' us'
    cases rn
    have hlim := I1.nolimit
    obtain ⟨hp, g, dr, tk, os⟩ := s1
    exact wpAny_call (exc_madeK T N I1.kIn hlim hr fun h' tk' e d M => own_done I1 rv M q1)
end
section
variable {X : Cx} {C : Addr} {bmB : List Value} {B newId initId : String}
theorem pe_mkX0 {x : Str} {p pos : Pos} (F : ExcBaseFacts B newId initId bmB) (q : PySem.W.excIn X.K C bmB newId = true) (gC : X.mg x = some (.ref C)) (kC : PySem.W.keepIn X.K (.ref C) = true) (hg : Gl X x)
    (hdb : (x == ("__debug__" : Str)) = false) : PE X (.Call (.Name x p) [] [] pos) (fun _ H Q => ∀ e, H e = none → Q (.ref e) (upd H e (ExcO (.ref C) none e))) := by
  refine ⟨fun pins s σ H Q I h => ?_⟩
  refine wpAny_Call_Name_kw (ld_glob I hg gC ?_ hdb)
  refine PySem.W.callWith_K0 I.kIn kC ?_
  obtain ⟨bm, N, nm, qn, bs, hdct, sn, sub, ab, col, dd, k0, k1, k2, k3, k5, mN, hC, hN, hni, T⟩ := exc_obj I.kIn q
  refine wpAny_call_exc_subT F T hC hN hni (fun h' e hm => ?_) (by show 0 ≤ sizeLine; exact Nat.zero_le _)
  obtain ⟨t, he, _, _⟩ := hm.there
  have na := I.hok.gone hm.new
  obtain ⟨hp, g, dr, tk, os⟩ := s
  exact ⟨.ref e, _, landedE I hm.keeps na hm.new ⟨_, _, he, rfl, rfl, rfl⟩, rfl, h e na⟩
end
structure ExcAtK (U : Univ) (x fld : Str) : Prop where
  ex : ∃ b C fI, U.mg x = some (.ref C) ∧ ExcT U.K b C fI fld ∧ ExcIniK U.K fI fld
def mkX (x fld : Str) : List D → Store → R D
  | [d], O => .ok (.exc true x [fld] [d]) O
  | _, _ => .stuck
/-- x(e), an error as a thing -/
def eMkX (x fld : Str) (ms : DA) : DE := fun σ O => (ms σ O).bind (mkX x fld)
def eMkX0 (x : Str) : DE := fun _ O => .ok (.exc true x [] []) O
section
variable {U : Univ} {c : Cs} {k : Nat} {x fld : Str} {ms : DA} {p pos : Pos}
theorem mkX_post {C : Addr} (hm : U.mg x = some (.ref C)) {Q : VK} {E : XK} {ad : List Addr} {H1 : Hp} {O1 : Store} {ds : List D} {vs : List V} (S1 : Sim U ad O1 H1) (r1 : Reps U ad H1 ds vs) (h1 : Post U ad H1 Q E (mkX x fld ds O1)) :
    ∃ v, vs = [v] ∧ ∀ d e, H1 d = none → H1 e = none → d ≠ e → Q (.ref e) (upd (upd H1 d (.xd [(fld, v)])) e (ExcO (.ref C) (some d) e)) := by
  match ds, h1, r1 with
  | [d], h1, r1 =>
    obtain ⟨v, tl, rfl, rv, rfl⟩ := r1
    refine ⟨v, rfl, fun dd e hd he hne => ?_⟩
    have nd := S1.out hd
    have nE := S1.out he
    have st2 : Step ad H1 ad (upd H1 dd (.xd [(fld, v)])) := .new hd nd
    have he2 : upd H1 dd (.xd [(fld, v)]) e = none := by rw [upd_ne (Ne.symm hne)]; exact he
    have st3 : Step ad (upd H1 dd (.xd [(fld, v)])) ad (upd (upd H1 dd (.xd [(fld, v)])) e (ExcO (.ref C) (some dd) e)) := .new he2 nE
    have hdd : upd (upd H1 dd (.xd [(fld, v)])) e (ExcO (.ref C) (some dd) e) dd = some (.xd [(fld, v)]) := by rw [upd_ne hne]; exact upd_same
    exact h1 ad _ _ (st2.trans st3) ((S1.new hd).new he2) ⟨e, .ref C, some dd, [(fld, v)], rfl, nE, upd_same, hm, rfl, .inr ⟨dd, rfl, hdd, nd⟩, v, [], rfl, (rv.keep st2).keep st3, rfl⟩
  | [], h1, _ => exact h1.elim
  | _ :: _ :: _, h1, _ => exact h1.elim
theorem wMkX {a : Expr} (F : ExcAt U x fld) (hg : gB c x = true) (ha : SA U c k [a] ms)
    (he : ∀ env : PySem.Env, starEach (a :: []) env = (false, eval a env) :: starEach [] env := by intro _; rfl) (hpl : ∀ env : PySem.Env, (backTo pos (starEach [] env)).any (·.1) = false := by intro _; rfl) :
    SE U c k (.Call (.Name x p) [a] [] pos) (eMkX x fld ms) := by
  intro X W Cc
  obtain ⟨b, C, fI, gC, T, N⟩ := F.ex
  obtain ⟨t, pa, fa⟩ := ha X W Cc
  obtain ⟨_, eu⟩ := Cc.u
  subst eu
  refine ⟨_, pe_mkX T N gC (by have := Cc.room.dp; omega) pa (by show X.env.scope.names.lookup x = _; rw [Cc.s]; exact gB_lk hg) (gB_db hg) (he _) (hpl _), fun ad O H σ sv Q S r h => ?_⟩
  refine fa ad O H σ sv _ S r (PostL.mono (PostL.bind h) ?_)
  rintro vs H1 ⟨ad1, O1, ds, s1, S1, r1, h1⟩
  exact mkX_post gC S1 r1 h1
theorem wMkXK {kws : List Keyword} (F : ExcAtK U x fld) (hg : gB c x = true) (ha : SK U c k kws ms)
    (hall : ∀ env : PySem.Env, (backToKw pos (keywordEach kws env)).all (·.1.isSome) = true := by intro _; rfl) (hks : ∀ env : PySem.Env, (backToKw pos (keywordEach kws env)).filterMap (·.1) = [fld] := by intro _; rfl)
    (hpl : ∀ env : PySem.Env, ((backTo pos (starEach [] env)).any (·.1) || (backToKw pos (keywordEach kws env)).any (·.1.isNone)) = false := by intro _; rfl) :
    SE U c k (.Call (.Name x p) [] kws pos) (eMkX x fld ms) := by
  intro X W Cc
  obtain ⟨b, C, fI, gC, T, N⟩ := F.ex
  obtain ⟨t, pa, fa⟩ := ha X W Cc
  obtain ⟨_, eu⟩ := Cc.u
  subst eu
  refine ⟨_, pe_mkXK T N gC (by have := Cc.room.dp; omega) pa (by show X.env.scope.names.lookup x = _; rw [Cc.s]; exact gB_lk hg) (gB_db hg) (hall _) (hks _) (hpl _), fun ad O H σ sv Q S r h => ?_⟩
  refine fa ad O H σ sv _ S r (PostL.mono (PostL.bind h) ?_)
  rintro vs H1 ⟨ad1, O1, ds, s1, S1, r1, h1⟩
  exact mkX_post gC S1 r1 h1
theorem wMkX0 (F : ExcAt0 U x) (hg : gB c x = true) : SE U c k (.Call (.Name x p) [] [] pos) (eMkX0 x) := by
  intro X W Cc
  obtain ⟨b, C, gC, h1, h2, h3, h4⟩ := F.ex
  obtain ⟨_, eu⟩ := Cc.u
  subst eu
  refine ⟨_, pe_mkX0 b.base h1 gC h2 (by show X.env.scope.names.lookup x = _; rw [Cc.s]; exact gB_lk hg) (gB_db hg), fun ad O H σ sv Q S r h => ?_⟩
  intro e he
  have nE := S.out he
  have st3 : Step ad H ad (upd H e (ExcO (.ref C) none e)) := .new he nE
  exact h ad _ _ st3 (S.new he) ⟨e, .ref C, none, [], rfl, nE, upd_same, gC, rfl, .inl ⟨rfl, rfl⟩, rfl⟩
end
theorem excAtK_of {U : Univ} {R : List ErrR} {bs gs : List Str} {tys : List String} (h : R.all (errB U.K bs gs tys) = true) {p : ErrR} (hp : p ∈ R) (hm : U.mg p.2.1 = some (.ref (He.ga U.K p.2.1)))
    (hi : ExcIniK U.K (He.ma U.K (He.ga U.K p.2.1) "__init__") p.2.2.1) : ExcAtK U p.2.1 p.2.2.1 := ⟨p.1, _, _, hm, (errOk (List.all_eq_true.mp h p hp)).t, hi⟩
end CP
namespace CP
open PySem PySem.Spec PyProof.Rows L2
abbrev exF : FN := dIsiE exL (tabOf (exR ++ exN) exGs) (tabTOf (exR ++ exN) exTys)
abbrev Sy (U : Univ) : Prop := Says fa fn tfs (fun K => ex K && tabsNd tfs K) U
/-! ### facts -/
section
variable {U : Univ}
theorem says_of (c : Sy U) : Says fa fn tfs (fun K => ex K && tabsNd tfs K) U := c
theorem exI_ok (c : Sy U) : exI U.K = true := (Bool.and_eq_true_iff.mp (Bool.and_eq_true_iff.mp c.ex).1).1
theorem exE_ok (c : Sy U) : exE U.K = true := (Bool.and_eq_true_iff.mp (Bool.and_eq_true_iff.mp c.ex).1).2
theorem f0 (c : Sy U) : U.mg "range" = none := c.free (List.mem_of_getElem? (i := 0) rfl)
theorem f1 (c : Sy U) : U.mg "len" = none := c.free (List.mem_of_getElem? (i := 1) rfl)
theorem f2 (c : Sy U) : U.mg "min" = none := c.free (List.mem_of_getElem? (i := 2) rfl)
theorem f3 (c : Sy U) : U.mg "max" = none := c.free (List.mem_of_getElem? (i := 3) rfl)
theorem f4 (c : Sy U) : U.mg "int" = none := c.free (List.mem_of_getElem? (i := 4) rfl)
theorem f5 (c : Sy U) : U.mg "InvalidPoints" = some (.ref (He.ga U.K "InvalidPoints")) := c.glo (List.mem_of_getElem? (i := 5) rfl)
theorem f6 (c : Sy U) : U.mg "isinstance" = none := c.free (List.mem_of_getElem? (i := 6) rfl)
theorem f7 (c : Sy U) : U.mg "InvalidColours" = some (.ref (He.ga U.K "InvalidColours")) := c.glo (List.mem_of_getElem? (i := 7) rfl)
theorem f8 (c : Sy U) : U.mg "InvalidText" = some (.ref (He.ga U.K "InvalidText")) := c.glo (List.mem_of_getElem? (i := 8) rfl)
theorem f9 (c : Sy U) : U.mg "InvalidLot" = some (.ref (He.ga U.K "InvalidLot")) := c.glo (List.mem_of_getElem? (i := 9) rfl)
theorem f10 (c : Sy U) : U.mg "InvalidPick" = some (.ref (He.ga U.K "InvalidPick")) := c.glo (List.mem_of_getElem? (i := 10) rfl)
theorem f11 (c : Sy U) : U.mg "InvalidIndex" = some (.ref (He.ga U.K "InvalidIndex")) := c.glo (List.mem_of_getElem? (i := 11) rfl)
theorem f12 (c : Sy U) : U.mg "InvalidDirection" = some (.ref (He.ga U.K "InvalidDirection")) := c.glo (List.mem_of_getElem? (i := 12) rfl)
theorem f13 (c : Sy U) : U.mg "InvalidTold" = some (.ref (He.ga U.K "InvalidTold")) := c.glo (List.mem_of_getElem? (i := 13) rfl)
theorem f14 (c : Sy U) : U.mg "InvalidSeen" = some (.ref (He.ga U.K "InvalidSeen")) := c.glo (List.mem_of_getElem? (i := 14) rfl)
theorem f15 (c : Sy U) : U.mg "InvalidDeeds" = some (.ref (He.ga U.K "InvalidDeeds")) := c.glo (List.mem_of_getElem? (i := 15) rfl)
theorem f16 (c : Sy U) : U.mg "InvalidPromise" = some (.ref (He.ga U.K "InvalidPromise")) := c.glo (List.mem_of_getElem? (i := 16) rfl)
theorem f17 (c : Sy U) : U.mg "InvalidLine" = some (.ref (He.ga U.K "InvalidLine")) := c.glo (List.mem_of_getElem? (i := 17) rfl)
theorem f18 (c : Sy U) : U.mg "NotAGround" = some (.ref (He.ga U.K "NotAGround")) := c.glo (List.mem_of_getElem? (i := 18) rfl)
theorem f19 (c : Sy U) : U.mg "UnknownColour" = some (.ref (He.ga U.K "UnknownColour")) := c.glo (List.mem_of_getElem? (i := 19) rfl)
theorem f20 (c : Sy U) : U.mg "NotAround" = some (.ref (He.ga U.K "NotAround")) := c.glo (List.mem_of_getElem? (i := 20) rfl)
theorem f21 (c : Sy U) : U.mg "Refused" = some (.ref (He.ga U.K "Refused")) := c.glo (List.mem_of_getElem? (i := 21) rfl)
theorem f22 (c : Sy U) : U.mg "Broken" = some (.ref (He.ga U.K "Broken")) := c.glo (List.mem_of_getElem? (i := 22) rfl)
theorem f23 (c : Sy U) : U.mg "TooMany" = some (.ref (He.ga U.K "TooMany")) := c.glo (List.mem_of_getElem? (i := 23) rfl)
theorem f24 (c : Sy U) : U.mg "ShapeError" = some (.ref (He.ga U.K "ShapeError")) := c.glo (List.mem_of_getElem? (i := 24) rfl)
theorem f25 (c : Sy U) : U.mg "QuestionError" = some (.ref (He.ga U.K "QuestionError")) := c.glo (List.mem_of_getElem? (i := 25) rfl)
theorem f26 (c : Sy U) : U.mg "SizeError" = some (.ref (He.ga U.K "SizeError")) := c.glo (List.mem_of_getElem? (i := 26) rfl)
theorem f27 (c : Sy U) : U.mg "ValueError" = none := c.free (List.mem_of_getElem? (i := 27) rfl)
theorem f28 (c : Sy U) : U.mg "LookupError" = none := c.free (List.mem_of_getElem? (i := 28) rfl)
theorem f29 (c : Sy U) : U.mg "ArithmeticError" = none := c.free (List.mem_of_getElem? (i := 29) rfl)
theorem f30 (c : Sy U) : U.mg "repr" = none := c.free (List.mem_of_getElem? (i := 30) rfl)
theorem f31 (c : Sy U) : U.mg "enumerate" = none := c.free (List.mem_of_getElem? (i := 31) rfl)
theorem f32 (c : Sy U) : U.mg "NoCompletion" = some (.ref (He.ga U.K "NoCompletion")) := c.glo (List.mem_of_getElem? (i := 32) rfl)
theorem f33 (c : Sy U) : U.mg "Busy" = some (.ref (He.ga U.K "Busy")) := c.glo (List.mem_of_getElem? (i := 33) rfl)
theorem f34 (c : Sy U) : U.mg "NothingToUndo" = some (.ref (He.ga U.K "NothingToUndo")) := c.glo (List.mem_of_getElem? (i := 34) rfl)
theorem f35 (c : Sy U) : U.mg "abs" = none := c.free (List.mem_of_getElem? (i := 35) rfl)
theorem f36 (c : Sy U) : U.mg "all" = none := c.free (List.mem_of_getElem? (i := 36) rfl)
theorem f37 (c : Sy U) : U.mg "_law_draw" = some (.ref (He.ga U.K "_law_draw")) := c.glo (List.mem_of_getElem? (i := 37) rfl)
theorem f38 (c : Sy U) : U.mg "_law_one" = some (.ref (He.ga U.K "_law_one")) := c.glo (List.mem_of_getElem? (i := 38) rfl)
theorem f39 (c : Sy U) : U.mg "_law_made_ones" = some (.ref (He.ga U.K "_law_made_ones")) := c.glo (List.mem_of_getElem? (i := 39) rfl)
theorem f40 (c : Sy U) : U.mg "_law_kind_of" = some (.ref (He.ga U.K "_law_kind_of")) := c.glo (List.mem_of_getElem? (i := 40) rfl)
theorem f41 (c : Sy U) : U.mg "_law_bases" = some (.ref (He.ga U.K "_law_bases")) := c.glo (List.mem_of_getElem? (i := 41) rfl)
theorem f42 (c : Sy U) : U.mg "_law_attribute" = some (.ref (He.ga U.K "_law_attribute")) := c.glo (List.mem_of_getElem? (i := 42) rfl)
theorem f43 (c : Sy U) : U.mg "_law_right" = some (.ref (He.ga U.K "_law_right")) := c.glo (List.mem_of_getElem? (i := 43) rfl)
theorem f44 (c : Sy U) : U.mg "_law_bag" = some (.ref (He.ga U.K "_law_bag")) := c.glo (List.mem_of_getElem? (i := 44) rfl)
theorem f45 (c : Sy U) : U.mg "law" = some (.ref (He.ga U.K "law")) := c.glo (List.mem_of_getElem? (i := 45) rfl)
theorem exG_ok (c : Sy U) : ∀ g ∈ exGs, U.mg g = some (.ref (He.ga U.K g)) := by
  intro g h
  rcases List.mem_cons.mp h with rfl | h
  · exact (f5 c)
  rcases List.mem_cons.mp h with rfl | h
  · exact (f7 c)
  rcases List.mem_cons.mp h with rfl | h
  · exact (f8 c)
  rcases List.mem_cons.mp h with rfl | h
  · exact (f9 c)
  rcases List.mem_cons.mp h with rfl | h
  · exact (f10 c)
  rcases List.mem_cons.mp h with rfl | h
  · exact (f11 c)
  rcases List.mem_cons.mp h with rfl | h
  · exact (f12 c)
  rcases List.mem_cons.mp h with rfl | h
  · exact (f13 c)
  rcases List.mem_cons.mp h with rfl | h
  · exact (f14 c)
  rcases List.mem_cons.mp h with rfl | h
  · exact (f15 c)
  rcases List.mem_cons.mp h with rfl | h
  · exact (f16 c)
  rcases List.mem_cons.mp h with rfl | h
  · exact (f17 c)
  rcases List.mem_cons.mp h with rfl | h
  · exact (f18 c)
  rcases List.mem_cons.mp h with rfl | h
  · exact (f19 c)
  rcases List.mem_cons.mp h with rfl | h
  · exact (f20 c)
  rcases List.mem_cons.mp h with rfl | h
  · exact (f21 c)
  rcases List.mem_cons.mp h with rfl | h
  · exact (f22 c)
  rcases List.mem_cons.mp h with rfl | h
  · exact (f23 c)
  rcases List.mem_cons.mp h with rfl | h
  · exact (f24 c)
  rcases List.mem_cons.mp h with rfl | h
  · exact (f25 c)
  rcases List.mem_cons.mp h with rfl | h
  · exact (f26 c)
  rcases List.mem_cons.mp h with rfl | h
  · exact (f32 c)
  rcases List.mem_cons.mp h with rfl | h
  · exact (f33 c)
  rcases List.mem_cons.mp h with rfl | h
  · exact (f34 c)
  cases h
theorem exC_ok (c : Sy U) : ∀ p ∈ exR, U.mg p.2.1 = some (.ref (He.ga U.K p.2.1)) := by
  intro p h
  rcases List.mem_cons.mp h with rfl | h
  · exact (f5 c)
  rcases List.mem_cons.mp h with rfl | h
  · exact (f7 c)
  rcases List.mem_cons.mp h with rfl | h
  · exact (f8 c)
  rcases List.mem_cons.mp h with rfl | h
  · exact (f9 c)
  rcases List.mem_cons.mp h with rfl | h
  · exact (f10 c)
  rcases List.mem_cons.mp h with rfl | h
  · exact (f11 c)
  rcases List.mem_cons.mp h with rfl | h
  · exact (f12 c)
  rcases List.mem_cons.mp h with rfl | h
  · exact (f13 c)
  rcases List.mem_cons.mp h with rfl | h
  · exact (f14 c)
  rcases List.mem_cons.mp h with rfl | h
  · exact (f15 c)
  rcases List.mem_cons.mp h with rfl | h
  · exact (f16 c)
  rcases List.mem_cons.mp h with rfl | h
  · exact (f17 c)
  rcases List.mem_cons.mp h with rfl | h
  · exact (f18 c)
  rcases List.mem_cons.mp h with rfl | h
  · exact (f19 c)
  rcases List.mem_cons.mp h with rfl | h
  · exact (f20 c)
  rcases List.mem_cons.mp h with rfl | h
  · exact (f21 c)
  rcases List.mem_cons.mp h with rfl | h
  · exact (f22 c)
  rcases List.mem_cons.mp h with rfl | h
  · exact (f23 c)
  cases h
theorem exER_ok (c : Sy U) : exR.all (errB U.K exBs exGs exTys) = true := (Bool.and_eq_true_iff.mp (exE_ok c)).1
theorem exEN_ok (c : Sy U) : exN.all (errN U.K exBs exGs exTys) = true := (Bool.and_eq_true_iff.mp (exE_ok c)).2
theorem exCN_ok (c : Sy U) : ∀ p ∈ exN, U.mg p.2.1 = some (.ref (He.ga U.K p.2.1)) := by
  intro p h
  rcases List.mem_cons.mp h with rfl | h
  · exact (f32 c)
  rcases List.mem_cons.mp h with rfl | h
  · exact (f33 c)
  rcases List.mem_cons.mp h with rfl | h
  · exact (f34 c)
  cases h
theorem exC2_ok (c : Sy U) : ∀ p ∈ exR ++ exN, U.mg p.2.1 = some (.ref (He.ga U.K p.2.1)) := fun p hp => (List.mem_append.mp hp).elim (exC_ok c p) (exCN_ok c p)
theorem exN_NoCompletion (c : Sy U) : ExcAt0 U "NoCompletion" := excAt0_of (b := .le) (f32 c) (errN_0 (List.all_eq_true.mp (exEN_ok c) (.le, "NoCompletion", "", ["NoCompletion", "QuestionError"], ["LookupError"]) (List.mem_of_getElem? (i := 0) rfl)))
theorem exN_Busy (c : Sy U) : ExcAt0 U "Busy" := excAt0_of (b := .le) (f33 c) (errN_0 (List.all_eq_true.mp (exEN_ok c) (.le, "Busy", "", ["Busy", "QuestionError"], ["LookupError"]) (List.mem_of_getElem? (i := 1) rfl)))
theorem exN_NothingToUndo (c : Sy U) : ExcAt0 U "NothingToUndo" := excAt0_of (b := .le) (f34 c) (errN_0 (List.all_eq_true.mp (exEN_ok c) (.le, "NothingToUndo", "", ["NothingToUndo", "QuestionError"], ["LookupError"]) (List.mem_of_getElem? (i := 2) rfl)))
theorem exI_e (c : Sy U) : IsiE U exL (tabOf (exR ++ exN) exGs) (tabTOf (exR ++ exN) exTys) := isiE_of2 (bs := exBs) (exER_ok c) (exEN_ok c) (exC2_ok c) (exG_ok c)
end
/-- what tuple(..) makes -/
abbrev lt : List D → D := D.tup
abbrev dLot : FN := dTuple
/-- a raise -/
abbrev rz_InvalidLot (ms : DA) : DS := sRaise "InvalidLot" "index" ms
/-! ### mirrors -/
/-- _law_draw -/
noncomputable def b_law_draw : DS := (sSeq (gSet (e2 dAdd (e2 dIx (eV 0) (eC (.int 2))) (eC (.int 1))) (gtSub (eV 0) (eC (.int 2))))
  (sSeq (sIfS (tV (e2 dGt (e2 dIx (eV 0) (eC (.int 0))) (eC (.int 0)))) (sSeq (sSet 2 (e2 dMod (eN dInt1 (aCons (e2 dIx (eV 0) (eC (.int 0))) aNil)) (eV 1)))
  (sSeq (gSet (e2 dDiv (e2 dIx (eV 0) (eC (.int 0))) (eV 1)) (gtSub (eV 0) (eC (.int 0))))
  (sRet (eV 2)))) sSkip)
  (sSeq (sSet 3 (e2 dAdd (eN dInt1 (aCons (e2 dIx (eV 0) (eC (.int 1))) aNil)) (e2 dMulI (eC (.int 70001)) (e2 dIx (eV 0) (eC (.int 2))))))
  (sSeq (sSet 4 (e2 dAdd (e2 dMod (eN dInt1 (aCons (eV 3) aNil)) (eC (.int 65003))) (eC (.int 54001))))
  (sSeq (gSet (e2 dMod (eN dInt1 (aCons (e2 dAdd (e2 dAdd (e2 dMulI (eV 3) (eV 4)) (e2 dMulI (eC (.int 11)) (e2 dIx (eV 0) (eC (.int 2))))) (eC (.int 19))) aNil)) (eC (.int 2147483549))) (gtSub (eV 0) (eC (.int 1))))
  (sRet (e2 dMod (e2 dDiv (eN dInt1 (aCons (e2 dIx (eV 0) (eC (.int 1))) aNil)) (eC (.int 509))) (eV 1))))))))
noncomputable def m_law_draw : DF := fnD false 5 b_law_draw
/-- _law_one -/
noncomputable def b_law_one : DS := (sRet (e2 dIx (eV 1) (eCall 2 m_law_draw (aCons (eV 0) (aCons (eN dLen (aCons (eV 1) aNil)) aNil)))))
noncomputable def m_law_one : DF := fnD false 2 b_law_one
/-- _law_made_ones -/
noncomputable def b_law_made_ones : DS := (sSeq (sSet 1 (eLst (aCons (eMkX "InvalidPoints" "index" (aCons (eV 0) aNil)) (aCons (eMkX "InvalidColours" "value" (aCons (eV 0) aNil)) (aCons (eMkX "InvalidText" "value" (aCons (eV 0) aNil)) (aCons (eMkX "InvalidLot" "index" (aCons (eV 0) aNil)) aNil))))))
  (sSeq (sSet 1 (e2 dAdd (eV 1) (eLst (aCons (eMkX "InvalidPick" "value" (aCons (eV 0) aNil)) (aCons (eMkX "InvalidIndex" "value" (aCons (eV 0) aNil)) (aCons (eMkX "InvalidDirection" "value" (aCons (eV 0) aNil)) (aCons (eMkX "InvalidTold" "value" (aCons (eV 0) aNil)) aNil)))))))
  (sSeq (sSet 1 (e2 dAdd (eV 1) (eLst (aCons (eMkX "InvalidSeen" "index" (aCons (eV 0) aNil)) (aCons (eMkX "InvalidDeeds" "index" (aCons (eV 0) aNil)) (aCons (eMkX "InvalidPromise" "value" (aCons (eV 0) aNil)) (aCons (eMkX "InvalidLine" "value" (aCons (eV 0) aNil)) aNil)))))))
  (sSeq (sSet 1 (e2 dAdd (eV 1) (eLst (aCons (eMkX "NotAGround" "value" (aCons (eV 0) aNil)) (aCons (eMkX "UnknownColour" "value" (aCons (eV 0) aNil)) (aCons (eMkX "NotAround" "value" (aCons (eV 0) aNil)) (aCons (eMkX "Refused" "value" (aCons (eV 0) aNil)) aNil)))))))
  (sSeq (sSet 1 (e2 dAdd (eV 1) (eLst (aCons (eMkX "Broken" "index" (aCons (eV 0) aNil)) (aCons (eMkX "TooMany" "limit" (aCons (eV 0) aNil)) aNil)))))
  (sSeq (sSet 1 (e2 dAdd (eV 1) (eLst (aCons (eMkX "InvalidPoints" "index" (aCons (eV 0) aNil)) (aCons (eMkX "InvalidColours" "value" (aCons (eV 0) aNil)) (aCons (eMkX "InvalidText" "value" (aCons (eV 0) aNil)) aNil))))))
  (sSeq (sSet 1 (e2 dAdd (eV 1) (eLst (aCons (eMkX "InvalidLot" "index" (aCons (eV 0) aNil)) (aCons (eMkX "InvalidPick" "value" (aCons (eV 0) aNil)) (aCons (eMkX "InvalidIndex" "value" (aCons (eV 0) aNil)) aNil))))))
  (sSeq (sSet 1 (e2 dAdd (eV 1) (eLst (aCons (eMkX "InvalidDirection" "value" (aCons (eV 0) aNil)) (aCons (eMkX "InvalidTold" "value" (aCons (eV 0) aNil)) (aCons (eMkX "InvalidSeen" "index" (aCons (eV 0) aNil)) aNil))))))
  (sSeq (sSet 1 (e2 dAdd (eV 1) (eLst (aCons (eMkX "InvalidDeeds" "index" (aCons (eV 0) aNil)) (aCons (eMkX "InvalidPromise" "value" (aCons (eV 0) aNil)) (aCons (eMkX "InvalidLine" "value" (aCons (eV 0) aNil)) aNil))))))
  (sSeq (sSet 1 (e2 dAdd (eV 1) (eLst (aCons (eMkX "NotAGround" "value" (aCons (eV 0) aNil)) (aCons (eMkX "UnknownColour" "value" (aCons (eV 0) aNil)) (aCons (eMkX "NotAround" "value" (aCons (eV 0) aNil)) aNil))))))
  (sSeq (sSet 1 (e2 dAdd (eV 1) (eLst (aCons (eMkX "Refused" "value" (aCons (eV 0) aNil)) (aCons (eMkX "Broken" "index" (aCons (eV 0) aNil)) (aCons (eMkX "TooMany" "limit" (aCons (eV 0) aNil)) aNil))))))
  (sRet (eV 1)))))))))))))
noncomputable def m_law_made_ones : DF := fnD false 2 b_law_made_ones
/-- _law_kind_of -/
noncomputable def b_law_kind_of : DS := (sSeq (sSet 1 (eLst (aCons (eN exF (aCons (eV 0) (aCons (eC (.glo "InvalidPoints")) aNil))) (aCons (eN exF (aCons (eV 0) (aCons (eC (.glo "InvalidColours")) aNil))) (aCons (eN exF (aCons (eV 0) (aCons (eC (.glo "InvalidText")) aNil))) aNil)))))
  (sSeq (sSet 1 (e2 dAdd (eV 1) (eLst (aCons (eN exF (aCons (eV 0) (aCons (eC (.glo "InvalidLot")) aNil))) (aCons (eN exF (aCons (eV 0) (aCons (eC (.glo "InvalidPick")) aNil))) (aCons (eN exF (aCons (eV 0) (aCons (eC (.glo "InvalidIndex")) aNil))) aNil))))))
  (sSeq (sSet 1 (e2 dAdd (eV 1) (eLst (aCons (eN exF (aCons (eV 0) (aCons (eC (.glo "InvalidDirection")) aNil))) (aCons (eN exF (aCons (eV 0) (aCons (eC (.glo "InvalidTold")) aNil))) aNil)))))
  (sSeq (sSet 1 (e2 dAdd (eV 1) (eLst (aCons (eN exF (aCons (eV 0) (aCons (eC (.glo "InvalidSeen")) aNil))) (aCons (eN exF (aCons (eV 0) (aCons (eC (.glo "InvalidDeeds")) aNil))) aNil)))))
  (sSeq (sSet 1 (e2 dAdd (eV 1) (eLst (aCons (eN exF (aCons (eV 0) (aCons (eC (.glo "InvalidPromise")) aNil))) (aCons (eN exF (aCons (eV 0) (aCons (eC (.glo "InvalidLine")) aNil))) (aCons (eN exF (aCons (eV 0) (aCons (eC (.glo "NotAGround")) aNil))) aNil))))))
  (sSeq (sSet 1 (e2 dAdd (eV 1) (eLst (aCons (eN exF (aCons (eV 0) (aCons (eC (.glo "UnknownColour")) aNil))) (aCons (eN exF (aCons (eV 0) (aCons (eC (.glo "NotAround")) aNil))) (aCons (eN exF (aCons (eV 0) (aCons (eC (.glo "Refused")) aNil))) aNil))))))
  (sSeq (sSet 1 (e2 dAdd (eV 1) (eLst (aCons (eN exF (aCons (eV 0) (aCons (eC (.glo "Broken")) aNil))) (aCons (eN exF (aCons (eV 0) (aCons (eC (.glo "TooMany")) aNil))) aNil)))))
  (sRet (eV 1)))))))))
noncomputable def m_law_kind_of : DF := fnD false 2 b_law_kind_of
/-- _law_bases -/
noncomputable def b_law_bases : DS := (sSeq (sSet 1 (eLst (aCons (eN exF (aCons (eV 0) (aCons (eC (.glo "ShapeError")) aNil))) (aCons (eN exF (aCons (eV 0) (aCons (eC (.glo "QuestionError")) aNil))) (aCons (eN exF (aCons (eV 0) (aCons (eC (.glo "SizeError")) aNil))) aNil)))))
  (sRet (e2 dAdd (eV 1) (eLst (aCons (eN exF (aCons (eV 0) (aCons (eC (.ty "ValueError")) aNil))) (aCons (eN exF (aCons (eV 0) (aCons (eC (.ty "LookupError")) aNil))) (aCons (eN exF (aCons (eV 0) (aCons (eC (.ty "ArithmeticError")) aNil))) aNil)))))))
noncomputable def m_law_bases : DF := fnD false 2 b_law_bases
/-- _law_attribute -/
noncomputable def b_law_attribute : DS := (sSeq (sIfS (tV (e2 dIn (eV 1) (eLst (aCons (eC (.int 0)) (aCons (eC (.int 3)) (aCons (eC (.int 8)) (aCons (eC (.int 9)) (aCons (eC (.int 16)) aNil)))))))) (sRet (eAttrE exA "index" (eV 0))) sSkip)
  (sRet (eIf (tV (e2 dEq (eV 1) (eC (.int 17)))) (eAttrE exA "limit" (eV 0)) (eAttrE exA "value" (eV 0)))))
noncomputable def m_law_attribute : DF := fnD false 2 b_law_attribute
/-- _law_right -/
noncomputable def b_law_right : DS := (sSeq (sFor (iRg1 (eC (.int 3))) (.nm 1) (sSeq (sSet 2 (eLst (aCons (eC .non) (aCons (eC (.int 7)) (aCons (eC (.str "a b")) (aCons (eTup (aCons (eC (.int 1)) (aCons (eC (.int 2)) aNil))) (aCons (eLst (aCons (eC (.int 3)) aNil)) (aCons (eC (.dic false [] [])) (aCons (eC (.bl true)) (aCons (eNeg (eC (.int 1))) (aCons (eTup (aCons (eC (.int 0)) (aCons (eC (.int 1)) aNil))) (aCons (e2 dPow (eC (.int 10)) (eC (.int 30))) (aCons (eC (.str "abc")) aNil)))))))))))))
  (sSeq (sSet 3 (eCall 2 m_law_one (aCons (eV 0) (aCons (eV 2) aNil))))
  (sSeq (sSet 4 (eCall 1 m_law_made_ones (aCons (eV 3) aNil)))
  (sSeq (sFor (iRg1 (eC (.int 36))) (.nm 5) (sSeq (gSet (eTup (aCons (e2 dIx (eV 4) (eV 5)) (aCons (e2 dMod (eN dInt1 (aCons (eV 5) aNil)) (eC (.int 18))) aNil))) (gtTup 2 (gtCons (gtNm 6) (gtCons (gtNm 7) gtNil))))
  (sSeq (sSet 8 (eLst (aCons (e2 dLt (eV 7) (eC (.int 13))) (aCons (eCh dLe dLt (eC (.int 13)) (eV 7) (eC (.int 17))) (aCons (e2 dEq (eV 7) (eC (.int 17))) aNil)))))
  (sSeq (sIfS (tO (tV (e2 dNe (eCall 1 m_law_kind_of (aCons (eV 6) aNil)) (eLc (iRg1 (eC (.int 18))) (.nm 9) [9] tTrue (e2 dEq (eV 9) (eV 7))))) (tV (e2 dNe (eCall 1 m_law_bases (aCons (eV 6) aNil)) (e2 dAdd (eV 8) (eV 8))))) (sRet (eC (.bl false))) sSkip)
  (sIfS (tV (e2 dNe (eN dReprX (aCons (eCall 2 m_law_attribute (aCons (eV 6) (aCons (eV 7) aNil))) aNil)) (eN dReprX (aCons (eV 3) aNil)))) (sRet (eC (.bl false))) sSkip)))))
  (sSeq (sSet 10 (eLst (aCons (eMkX0 "NoCompletion") (aCons (eMkX0 "Busy") (aCons (eMkX0 "NothingToUndo") aNil)))))
  (sFor (iEnD (eV 10)) (.tp [5, 6]) (sSeq (sIfS (tO (tV (e2 dNe (eCall 1 m_law_bases (aCons (eV 6) aNil)) (e2 dMul (eLst (aCons (eC (.bl false)) (aCons (eC (.bl true)) (aCons (eC (.bl false)) aNil)))) (eC (.int 2))))) (tV (e2 dIn (eC (.bl true)) (eCall 1 m_law_kind_of (aCons (eV 6) aNil))))) (sRet (eC (.bl false))) sSkip)
  (sSeq (sSet 11 (eLst (aCons (eN exF (aCons (eV 6) (aCons (eC (.glo "NoCompletion")) aNil))) (aCons (eN exF (aCons (eV 6) (aCons (eC (.glo "Busy")) aNil))) (aCons (eN exF (aCons (eV 6) (aCons (eC (.glo "NothingToUndo")) aNil))) aNil)))))
  (sIfS (tV (e2 dNe (eV 11) (eLc (iRg1 (eC (.int 3))) (.nm 9) [9] tTrue (e2 dEq (eV 5) (eV 9))))) (sRet (eC (.bl false))) sSkip))))))))))
  (sRet (eC (.bl true))))
noncomputable def m_law_right : DF := fnD false 12 b_law_right
/-- _law_bag -/
noncomputable def b_law_bag : DS := (sSeq (sPar [2, 3] (aCons (eIf (tV (e2 dLt (eV 1) (eN dLen (aCons (eV 0) aNil)))) (eN dInt1 (aCons (e2 dIx (eV 0) (eV 1)) aNil)) (eC (.int 0))) (aCons (e2 dMulI (eC (.int 97919)) (e2 dAdd (eV 1) (eC (.int 5)))) aNil)))
  (sSeq (sFor (iAny (eSl (eV 0) oNone (oSome (eC (.int 7))))) (.nm 4) (sSet 3 (e2 dMod (eN dInt1 (aCons (e2 dAdd (e2 dAdd (e2 dMulI (eV 3) (eC (.int 56711))) (e2 dMod (eN dInt1 (aCons (eV 4) aNil)) (eC (.int 1000121)))) (e2 dMulI (eC (.int 17)) (eV 1))) aNil)) (eC (.int 2147483549)))))
  (sSeq (sSet 5 (eIf (tO (tV (e2 dLt (eV 2) (eC (.int 0)))) (tV (e2 dGe (eV 2) (e2 dPow (eC (.int 10)) (eC (.int 15)))))) (eN dAbs (aCons (eV 2) aNil)) (eC (.int 0))))
  (sRet (eMut (aCons (eV 5) (aCons (e2 dMod (eN dInt1 (aCons (e2 dAdd (eV 3) (e2 dMulI (eC (.int 91009)) (e2 dMod (eN dInt1 (aCons (eV 2) aNil)) (eC (.int 999931))))) aNil)) (eC (.int 2147483549))) (aCons (eC (.int 0)) aNil))))))))
noncomputable def m_law_bag : DF := fnD false 6 b_law_bag
/-- law -/
noncomputable def b_law : DS := (sRet (eN dAll (aCons (eLc (iRg1 (eN dMax (aCons (eC (.int 2)) (aCons (eN dMin (aCons (eN dLen (aCons (eV 0) aNil)) (aCons (eC (.int 4)) aNil))) aNil)))) (.nm 1) [1] tTrue (eCall 1 m_law_right (aCons (eCall 2 m_law_bag (aCons (eV 0) (aCons (eV 1) aNil))) aNil))) aNil)))
noncomputable def m_law : DF := fnD false 2 b_law

end CP
namespace CP
open PySem PySem.Spec PyProof.Rows L2

theorem line_big : (1000000 : Nat) ≤ sizeLine := by decide
section
variable (i n np nk : Nat) (σ : Env) (O : Store) (m m2 m3 a b : DE) (t t2 : DT) (s s2 : DS) (ms mk : DA) (g : F2) (h : FN) (h2 : FR) (mf : DF) (d : D) (x cl T : Str) (cs : List Str)
@[simp] theorem x_eC : eC d σ O = .ok d O := id rfl
@[simp] theorem x_eV : eV i σ O = (match σ[i]? with | some (some d) => .ok d O | _ => .stuck) := id rfl
@[simp] theorem x_e2 : e2 g a b σ O = (a σ O).bind fun x O1 => (b σ O1).bind fun y O2 => lift (g x y O2) O2 := id rfl
@[simp] theorem x_eN : eN h ms σ O = (ms σ O).bind fun ds O1 => lift (h ds O1) O1 := id rfl
@[simp] theorem x_eN2 : eN2 h2 ms σ O = (ms σ O).bind fun ds O1 => okOnly (h2 ds O1) := id rfl
@[simp] theorem x_ok (O : Store) : okOnly (.ok d O : R D) = .ok d O := id rfl
@[simp] theorem x_aNil : aNil σ O = .ok [] O := id rfl
@[simp] theorem x_aCons : aCons m ms σ O = (m σ O).bind fun d O1 => (ms σ O1).bind fun ds O2 => .ok (d :: ds) O2 := id rfl
@[simp] theorem x_eCall : eCall n mf ms σ O = (ms σ O).bind fun ds O1 => if ds.length = n then mf ds O1 else .stuck := id rfl
@[simp] theorem x_eTup : eTup ms σ O = (ms σ O).bind mkT := id rfl
@[simp] theorem x_eLst : eLst ms σ O = (ms σ O).bind mkL := id rfl
@[simp] theorem x_eMut : eMut ms σ O = (ms σ O).bind mkM := id rfl
@[simp] theorem x_eIf : eIf t a b σ O = (t σ O).bind fun v O1 => if v = true then a σ O1 else b σ O1 := id rfl
@[simp] theorem x_tT : tT m σ O = (m σ O).bind fun d O1 => lift (dTru d O1) O1 := id rfl
@[simp] theorem x_tV : tV m σ O = asB (m σ O) := id rfl
@[simp] theorem x_asB (b : Bool) : asB (.ok (.bl b) O) = .ok b O := id rfl
@[simp] theorem x_tA : tA t t2 σ O = (t σ O).bind fun b O1 => if b = true then t2 σ O1 else .ok false O1 := id rfl
@[simp] theorem x_tO : tO t t2 σ O = (t σ O).bind fun b O1 => if b = true then .ok true O1 else t2 σ O1 := id rfl
@[simp] theorem x_tN : tN t σ O = (t σ O).bind fun b O1 => .ok (!b) O1 := id rfl
@[simp] theorem x_tTrue : tTrue σ O = .ok true O := id rfl
@[simp] theorem x_eAnd : eAnd a b σ O = (a σ O).bind fun d O1 => match d with | .bl true => b σ O1 | .bl false => .ok (.bl false) O1 | _ => .stuck := id rfl
@[simp] theorem x_eOr : eOr a b σ O = (a σ O).bind fun d O1 => match d with | .bl true => .ok (.bl true) O1 | .bl false => b σ O1 | _ => .stuck := id rfl
@[simp] theorem x_eNot : eNot a σ O = (a σ O).bind fun d O1 => match d with | .bl b => .ok (.bl (!b)) O1 | _ => .stuck := id rfl
@[simp] theorem x_eNeg : eNeg a σ O = (a σ O).bind fun d O1 => match d with | .int i => .ok (.int (-i)) O1 | _ => .stuck := id rfl
@[simp] theorem x_eCh (g g' : F2) : eCh g g' a b m σ O = (a σ O).bind fun x O1 => (b σ O1).bind fun y O2 => match g x y O2 with
  | some (.bl true) => (m σ O2).bind fun z O3 => lift (g' y z O3) O3
  | some (.bl false) => .ok (.bl false) O2
  | _ => .stuck := id rfl
@[simp] theorem x_sSkip : sSkip σ O = .nx σ O := id rfl
@[simp] theorem x_sSeq : sSeq s s2 σ O = (s σ O).seq s2 := id rfl
@[simp] theorem x_sRet : sRet m σ O = (m σ O).st σ fun d O1 => .rt d O1 := id rfl
@[simp] theorem x_sRetN : sRetN σ O = .rt .non O := id rfl
@[simp] theorem x_sSet : sSet i m σ O = (m σ O).st σ fun d O1 => .nx (σ.set i (some d)) O1 := id rfl
@[simp] theorem x_sDrop : sDrop m σ O = (m σ O).st σ fun _ O1 => .nx σ O1 := id rfl
@[simp] theorem x_sIfS : sIfS t s s2 σ O = (t σ O).st σ fun v O1 => if v = true then s σ O1 else s2 σ O1 := id rfl
@[simp] theorem x_sPar (js : List Nat) : sPar js ms σ O = (ms σ O).st σ fun ds O1 => if ds.length = js.length then .nx (setAll σ js ds) O1 else .stuck := id rfl
@[simp] theorem x_set1 (js : List Nat) (ds : List D) : setAll σ (i :: js) (d :: ds) = setAll (σ.set i (some d)) js ds := id rfl
@[simp] theorem x_set0 (ds : List D) : setAll σ [] ds = σ := by cases ds <;> rfl
@[simp] theorem x_gSet (gg : DG) : gSet m gg σ O = (m σ O).st σ fun d O1 => (gg d σ O1).only := id rfl
@[simp] theorem x_only : (Fl.nx σ O).only = .nx σ O := id rfl
@[simp] theorem x_gtTup (gs : DGs) : gtTup n gs d σ O = (match seqT d O with | some l => if l.length = n then gs l σ O else .stuck | none => .stuck) := id rfl
@[simp] theorem x_gtLst (gs : DGs) : gtLst n gs d σ O = (match lstR d O with | some l => if l.length = n then gs l σ O else .stuck | none => .stuck) := id rfl
@[simp] theorem x_gtCons (gg : DG) (gs : DGs) (r : List D) : gtCons gg gs (d :: r) σ O = (gg d σ O).seq (gs r) := id rfl
@[simp] theorem x_gtNil : gtNil [] σ O = .nx σ O := id rfl
@[simp] theorem x_gtNm : gtNm i d σ O = .nx (σ.set i (some d)) O := id rfl
@[simp] theorem x_gtSub : gtSub a b d σ O = (a σ O).st σ fun x O1 => (b σ O1).st σ fun y O2 => match putAt x y d O2 with | some O3 => .nx σ O3 | none => .stuck := id rfl
@[simp] theorem x_eAttr : eAttr cs x m σ O = (m σ O).bind fun d O1 => lift (dAttr cs x d O1) O1 := id rfl
@[simp] theorem x_eBM (T : String) (gm : FM) : eBM T gm m ms σ O = (m σ O).bind fun x O1 => if tyD T x O1 = true then (ms σ O1).bind fun ds O2 => (match gm x ds O2 with | some (d, O3) => .ok d O3 | none => .stuck) else .stuck := id rfl
@[simp] theorem x_eMk (dr : Bool) : eMk dr cl mf np ms σ O = (ms σ O).bind fun ds O1 => mkIns dr cl mf id np ds O1 := id rfl
@[simp] theorem x_eCallK (p : List Nat) : eCallK n nk np p mf ms mk σ O = (ms σ O).bind fun ds O1 => (mk σ O1).bind fun es O2 => if ds.length = n ∧ es.length = nk ∧ (reo p (ds ++ es)).length = np then mf (reo p (ds ++ es)) O2 else .stuck := id rfl
@[simp] theorem x_sFld : sFldS cs x a b σ O = (b σ O).st σ fun d O1 => (a σ O1).st σ fun y O2 => match putFld cs x y d O2 with | some O3 => .nx σ O3 | none => .stuck := id rfl
@[simp] theorem x_fin (O' : Store) : fin false O d O' = .ok d O' := id rfl
@[simp] theorem x_ex1 (O' : Store) : exitF false O (.nx σ O') = .ok .non O' := id rfl
@[simp] theorem x_ex2 (O' : Store) : exitF false O (.rt d O') = .ok d O' := id rfl
@[simp] theorem x_oNone : oNone σ O = .ok none O := id rfl
@[simp] theorem x_oSome : oSome m σ O = (m σ O).bind fun d O1 => match d with | .int i => .ok (some i) O1 | _ => .stuck := id rfl
@[simp] theorem x_eSl (l h : DO) : eSl m l h σ O = (m σ O).bind fun x O1 => (l σ O1).bind fun a O2 => (h σ O2).bind fun b O3 => lift (dSl x a b O3) O3 := id rfl
end
@[simp] theorem add_ii (i j : Int) (O : Store) : dAdd (.int i) (.int j) O = some (.int (i + j)) := id rfl
@[simp] theorem sub_ii (i j : Int) (O : Store) : dSub (.int i) (.int j) O = some (.int (i - j)) := id rfl
@[simp] theorem lt_ii (i j : Int) (O : Store) : dLt (.int i) (.int j) O = some (.bl (decide (i < j))) := id rfl
@[simp] theorem le_ii (i j : Int) (O : Store) : dLe (.int i) (.int j) O = some (.bl (decide (i ≤ j))) := id rfl
@[simp] theorem gt_ii (i j : Int) (O : Store) : dGt (.int i) (.int j) O = some (.bl (decide (j < i))) := id rfl
@[simp] theorem ge_ii (i j : Int) (O : Store) : dGe (.int i) (.int j) O = some (.bl (decide (j ≤ i))) := id rfl
@[simp] theorem eq_ii (i j : Int) (O : Store) : dEq (.int i) (.int j) O = some (.bl (decide (i = j))) := id rfl
@[simp] theorem ne_ii (i j : Int) (O : Store) : dNe (.int i) (.int j) O = some (.bl (!decide (i = j))) := id rfl
@[simp] theorem int_i (i : Int) (O : Store) : dInt1 [.int i] O = some (.int i) := id rfl
@[simp] theorem abs_i (i : Int) (O : Store) : dAbs [.int i] O = some (.int (if i < 0 then -i else i)) := id rfl
theorem mul_ii {i j : Int} (O : Store) (hi : i.natAbs < 2 ^ 64) (hj : j.natAbs < 2 ^ 64) : dMulI (.int i) (.int j) O = some (.int (i * j)) := by
  unfold dMulI ints2
  have h : i.natAbs.log2 + j.natAbs.log2 < 1000000 := by
    have h1 : i.natAbs.log2 ≤ 64 := by
      by_cases h0 : i.natAbs = 0
      · rw [h0]; decide
      · exact Nat.le_of_lt ((Nat.log2_lt h0).mpr hi)
    have h2 : j.natAbs.log2 ≤ 64 := by
      by_cases h0 : j.natAbs = 0
      · rw [h0]; decide
      · exact Nat.le_of_lt ((Nat.log2_lt h0).mpr hj)
    omega
  simp [h]
theorem mod_ii {i j : Int} (O : Store) (hj : 0 < j) : dMod (.int i) (.int j) O = some (.int (i % j)) := by
  unfold dMod ints2
  simp [hj]
theorem small_log {j : Int} (hj : j.natAbs < 2 ^ 64) : j.natAbs.log2 < 9000 := by
  by_cases h0 : j.natAbs = 0
  · rw [h0]; decide
  · have := (Nat.log2_lt h0).mpr hj; omega
theorem div_ii {i j : Int} (O : Store) (hj : 0 < j) (hb : j.natAbs < 2 ^ 64) : dDiv (.int i) (.int j) O = some (.int (i / j)) := by
  unfold dDiv ints2
  simp [hj, small_log hb]
theorem divmod_ii {i j : Int} (O : Store) (hj : 0 < j) (hb : j.natAbs < 2 ^ 64) : dDivmod [.int i, .int j] O = some (.tup [.int (i / j), .int (i % j)]) := by
  unfold dDivmod
  simp [hj, small_log hb]
theorem pow_ii {i j : Int} (O : Store) (h : 0 ≤ j ∧ j ≤ 1000000 ∧ i.natAbs < 2 ^ 64) : dPow (.int i) (.int j) O = some (.int (i ^ j.toNat)) := by
  unfold dPow ints2
  simp [h]
/-- an item of a list of the store -/
theorem ix_ptr {O : Store} {k : Nat} {l : List D} {i : Int} (h : O[k]? = some (.lst l)) : dIx (.ptr k) (.int i) O = atI l i := by
  have e : der (.ptr k) O = .lst l := by
    show O.getD k .non = _
    rw [List.getD_eq_getElem?_getD, h]; rfl
  unfold dIx
  rw [e]
@[simp] theorem ix_tup (l : List D) (i : Int) (O : Store) : dIx (.tup l) (.int i) O = atI l i := id rfl
@[simp] theorem ix_rot (l : List D) (i : Int) (O : Store) : dIx (.rot l) (.int i) O = atI l i := id rfl
@[simp] theorem ix_lst (l : List D) (i : Int) (O : Store) : dIx (.lst l) (.int i) O = atI l i := id rfl
@[simp] theorem ix_rol (l : List D) (i : Int) (O : Store) : dIx (.rol l) (.int i) O = atI l i := id rfl
@[simp] theorem atI_0 {α : Type} (x : α) (r : List α) : atI (x :: r) 0 = some x := by simp [atI, ixN]
@[simp] theorem atI_1 {α : Type} (x y : α) (r : List α) : atI (x :: y :: r) 1 = some y := by
  have : (1 : Int) < (r.length : Int) + 1 + 1 := by omega
  simp [atI, ixN, this]
@[simp] theorem atI_2 {α : Type} (x y z : α) (r : List α) : atI (x :: y :: z :: r) 2 = some z := by
  have : (2 : Int) < (r.length : Int) + 1 + 1 + 1 := by omega
  simp [atI, ixN, this]
theorem put_ptr {O : Store} {k : Nat} {l : List D} {i : Int} {d : D} {n : Nat} (h : O[k]? = some (.lst l)) (hn : ixN l.length i = some n) : putAt (.ptr k) (.int i) d O = some (O.set k (.lst (l.set n d))) := by
  simp [putAt, h, hn]
theorem set_get {O : Store} {k : Nat} {d e : D} (h : O[k]? = some d) : (O.set k e)[k]? = some e := List.getElem?_set_self (List.getElem?_eq_some_iff.mp h).1
theorem set_set {O : Store} {k : Nat} {d e : D} : (O.set k d).set k e = O.set k e := List.set_set ..
@[simp] theorem mkT_2 (a b : D) (O : Store) : mkT [a, b] O = .ok (.tup [a, b]) O := by unfold mkT; rw [if_pos (by have := line_big; simp; omega)]
@[simp] theorem mkT_0 (O : Store) : mkT [] O = .ok (.tup []) O := by unfold mkT; rw [if_pos (by have := line_big; simp)]
@[simp] theorem mkT_3 (a b c : D) (O : Store) : mkT [a, b, c] O = .ok (.tup [a, b, c]) O := by unfold mkT; rw [if_pos (by have := line_big; simp; omega)]
theorem mkL_ok {ds : List D} {O : Store} (h : ds.length ≤ 1000000) : mkL ds O = .ok (.lst ds) O := by unfold mkL; rw [if_pos (Nat.le_trans h line_big)]
theorem mkM_ok {ds : List D} {O : Store} (h : ds.length ≤ 1000000) : mkM ds O = .ok (.ptr O.length) (O ++ [.lst ds]) := by unfold mkM; rw [if_pos (Nat.le_trans h line_big)]
@[simp] theorem dTru_b (b : Bool) (O : Store) : dTru (.bl b) O = some b := id rfl
@[simp] theorem seqT_t (l : List D) (O : Store) : seqT (.tup l) O = some l := id rfl
end CP
namespace CP
open PySem PySem.Spec PyProof.Rows L2

theorem okCh_refl (O : Store) : okCh O O := fun _ _ h => .inl h
theorem okCh_set {O : Store} {k : Nat} {d : D} (h : okD O.length d = true) : okCh O (O.set k d) := fun i e he => by
  by_cases hi : k = i
  · subst hi
    by_cases hl : k < O.length
    · rw [List.getElem?_set_self hl] at he
      cases he
      exact .inr h
    · rw [List.getElem?_eq_none (by simpa using hl)] at he; cases he
  · rw [List.getElem?_set_ne hi] at he
    exact .inl he
open Classical in
theorem snip_ok {α : Type} {O0 O1 X : Store} {acc : List D} {ok : α → Bool} {a : α} (hl : O1.length = O0.length) (h : ok a = true) (hc : okCh O0 O1) : snip O0 acc ok (.ok a (O1 ++ .lst acc :: X)) = some (a, O1) := by
  unfold snip
  have e1 : (O1 ++ D.lst acc :: X).take O0.length = O1 := by rw [← hl, List.take_left]
  have e2 : (O1 ++ D.lst acc :: X).take (O0.length + 1) = O1 ++ [.lst acc] := by
    rw [← hl, List.take_length_add_append]; rfl
  show (if _ then some (a, (O1 ++ D.lst acc :: X).take O0.length) else none) = _
  rw [if_pos ⟨by rw [e2, e1], h, by rw [e1]; exact hc⟩, e1]
/-- one turn, the store as it stands or changed below -/
theorem turn_run {g : Tg} {vs : List Nat} {tt : DT} {el : DE} {σ σ1 : Env} {d y : D} {acc : List D} {O O1 O2 X1 X2 : Store} (hg : tgt g d (O ++ [.lst acc]) (wipeE σ vs) = some σ1)
    (h1 : tt σ1 (O ++ [.lst acc]) = .ok true (O1 ++ .lst acc :: X1)) (l1 : O1.length = O.length) (c1 : okCh O O1) (h2 : el σ1 (O1 ++ [.lst acc]) = .ok y (O2 ++ .lst acc :: X2)) (l2 : O2.length = O.length) (c2 : okCh O1 O2)
    (hy : okD O.length y = true) (ha : acc.length < 1000000) : lcTurn g vs tt el σ d acc O = some (acc ++ [y], O2) := by
  unfold lcTurn
  rw [hg, Option.bind_some, h1, snip_ok l1 rfl c1, Option.bind_some]
  simp only [if_true]
  rw [h2, snip_ok (l2.trans l1.symm) (by rw [l1]; exact hy) c2, Option.bind_some, if_pos (Nat.lt_of_lt_of_le ha line_big)]
theorem turn_not {g : Tg} {vs : List Nat} {tt : DT} {el : DE} {σ σ1 : Env} {d : D} {acc : List D} {O O1 X1 : Store} (hg : tgt g d (O ++ [.lst acc]) (wipeE σ vs) = some σ1)
    (h1 : tt σ1 (O ++ [.lst acc]) = .ok false (O1 ++ .lst acc :: X1)) (l1 : O1.length = O.length) (c1 : okCh O O1) : lcTurn g vs tt el σ d acc O = some (acc, O1) := by
  unfold lcTurn
  rw [hg, Option.bind_some, h1, snip_ok l1 rfl c1, Option.bind_some]
  simp
/-- a walk that keeps to P -/
theorem lcL_run {turn : D → List D → Store → Option (List D × Store)} (P : Nat → List D → Store → Prop) : ∀ (l : List D) (j : Nat), (∀ (i : Nat) (d : D), l[i]? = some d → ∀ acc O, P (j + i) acc O → ∃ acc' O', turn d acc O = some (acc', O') ∧ P (j + i + 1) acc' O') →
    ∀ acc O, P j acc O → ∃ acc' O', lcL none turn l acc O = .ok acc' O' ∧ P (j + l.length) acc' O'
  | [], j, _, acc, O, h => ⟨acc, O, by unfold lcL; exact if_pos trivial, h⟩
  | d :: r, j, H, acc, O, h => by
    obtain ⟨a1, O1, e, h1⟩ := H 0 d rfl acc O h
    obtain ⟨a2, O2, e2, h2⟩ := lcL_run P r (j + 1) (fun i d' hd acc O hp => by
      have := H (i + 1) d' (by simpa using hd) acc O (by have e : j + (i + 1) = j + 1 + i := by omega
                                                         rw [e]; exact hp)
      have e : j + (i + 1) + 1 = j + 1 + i + 1 := by omega
      rw [e] at this; exact this) a1 O1 h1
    refine ⟨a2, O2, ?_, ?_⟩
    · unfold lcL
      rw [if_pos (show watchOk none O from trivial), e]
      exact e2
    · have e : j + (d :: r).length = j + 1 + r.length := by simp; omega
      rw [e]; exact h2
theorem eLc_run {mi : DI} {g : Tg} {vs : List Nat} {tt : DT} {el : DE} {σ : Env} {O O1 : Store} {l : List D} (P : Nat → List D → Store → Prop) (hm : mi σ O = .ok ⟨l, none⟩ O1) (h0 : P 0 [] O1)
    (H : ∀ (i : Nat) (d : D), l[i]? = some d → ∀ acc O, P i acc O → ∃ acc' O', lcTurn g vs tt el σ d acc O = some (acc', O') ∧ P (i + 1) acc' O') : ∃ acc O', eLc mi g vs tt el σ O = .ok (.lst acc) O' ∧ P l.length acc O' := by
  obtain ⟨acc, O', e, h⟩ := lcL_run P l 0 (fun i d hd acc O hp => by
    have := H i d hd acc O (by rw [Nat.zero_add] at hp; exact hp)
    rw [Nat.zero_add]; exact this) [] O1 h0
  refine ⟨acc, O', ?_, by rw [Nat.zero_add] at h; exact h⟩
  unfold eLc
  rw [hm]
  show (lcL none (lcTurn g vs tt el σ) l [] O1).bind _ = _
  rw [e]; rfl
/-- a comprehension that changes nothing -/
theorem eLc_pure {α : Type} {mi : DI} {g : Tg} {vs : List Nat} {tt : DT} {el : DE} {σ : Env} {O O1 : Store} (xs : List α) (φ : α → D) (ρ : α → Env) (f : α → Option D) (hm : mi σ O = .ok ⟨xs.map φ, none⟩ O1) (hl : xs.length ≤ 100000)
    (hg : ∀ x ∈ xs, ∀ X, tgt g (φ x) (O1 ++ [X]) (wipeE σ vs) = some (ρ x)) (ht : ∀ x ∈ xs, ∀ X, tt (ρ x) (O1 ++ [X]) = .ok (f x).isSome (O1 ++ [X])) (he : ∀ x ∈ xs, ∀ X y, f x = some y → el (ρ x) (O1 ++ [X]) = .ok y (O1 ++ [X]) ∧ okD O1.length y = true) :
    eLc mi g vs tt el σ O = .ok (.lst (xs.filterMap f)) O1 := by
  obtain ⟨acc, O', e, h1, h2⟩ := eLc_run (g := g) (vs := vs) (tt := tt) (el := el) (fun i acc O' => O' = O1 ∧ acc = (xs.take i).filterMap f) hm ⟨rfl, by simp⟩ (fun i d hd acc O' hp => by
    obtain ⟨rfl, rfl⟩ := hp
    rw [List.getElem?_map] at hd
    obtain ⟨x, hx, rfl⟩ := Option.map_eq_some_iff.mp hd
    have hmem := List.mem_of_getElem? hx
    have htk : xs.take (i + 1) = xs.take i ++ [x] := by
      rw [List.take_add_one, hx]; rfl
    have hlen : ((xs.take i).filterMap f).length < 1000000 := by
      have h1 := List.length_filterMap_le f (xs.take i)
      have h2 : (xs.take i).length ≤ xs.length := by rw [List.length_take]; omega
      omega
    cases hf : f x with
    | none =>
      have ht' := ht x hmem (.lst ((xs.take i).filterMap f))
      rw [hf] at ht'
      exact ⟨_, _, turn_not (X1 := []) (hg x hmem _) ht' rfl (okCh_refl _), rfl, by rw [htk, List.filterMap_append]; simp [hf]⟩
    | some y =>
      have ht' := ht x hmem (.lst ((xs.take i).filterMap f))
      rw [hf] at ht'
      obtain ⟨e1, e2⟩ := he x hmem (.lst ((xs.take i).filterMap f)) y hf
      exact ⟨_, _, turn_run (X1 := []) (X2 := []) (hg x hmem _) ht' rfl (okCh_refl _) e1 rfl (okCh_refl _) e2 hlen, rfl, by rw [htk, List.filterMap_append]; simp [hf]⟩)
  subst h1
  rw [e, h2, List.length_map, List.take_length]
theorem filterMap_some {α β : Type} (f : α → β) (l : List α) : l.filterMap (fun x => some (f x)) = l.map f := by
  induction l with
  | nil => rfl
  | cons a r ih => simp [ih]
/-- .. over each, by one name -/
theorem eLc_map {α : Type} {mi : DI} {i : Nat} {vs : List Nat} {el : DE} {σ : Env} {O O1 : Store} (xs : List α) (φ : α → D) (f : α → D) (hm : mi σ O = .ok ⟨xs.map φ, none⟩ O1) (hl : xs.length ≤ 100000)
    (he : ∀ x ∈ xs, ∀ X, el ((wipeE σ vs).set i (some (φ x))) (O1 ++ [X]) = .ok (f x) (O1 ++ [X]) ∧ okD O1.length (f x) = true) : eLc mi (.nm i) vs tTrue el σ O = .ok (.lst (xs.map f)) O1 := by
  rw [← filterMap_some]
  exact eLc_pure xs φ (fun x => (wipeE σ vs).set i (some (φ x))) (fun x => some (f x)) hm hl (fun _ _ _ => rfl) (fun _ _ _ => rfl) (fun x hx X y e => by cases e; exact he x hx X)
theorem eLc_filter {α : Type} {mi : DI} {i : Nat} {vs : List Nat} {tt : DT} {el : DE} {σ : Env} {O O1 : Store} (xs : List α) (φ : α → D) (p : α → Bool) (f : α → D) (hm : mi σ O = .ok ⟨xs.map φ, none⟩ O1) (hl : xs.length ≤ 100000)
    (ht : ∀ x ∈ xs, ∀ X, tt ((wipeE σ vs).set i (some (φ x))) (O1 ++ [X]) = .ok (p x) (O1 ++ [X])) (he : ∀ x ∈ xs, ∀ X, p x = true → el ((wipeE σ vs).set i (some (φ x))) (O1 ++ [X]) = .ok (f x) (O1 ++ [X]) ∧ okD O1.length (f x) = true) :
    eLc mi (.nm i) vs tt el σ O = .ok (.lst ((xs.filter p).map f)) O1 := by
  have e : (xs.filter p).map f = xs.filterMap (fun x => if p x = true then some (f x) else none) := by
    clear hm hl ht he
    induction xs with
    | nil => rfl
    | cons a r ih =>
      by_cases h : p a = true
      · simp [List.filter_cons, h, ih]
      · simp [List.filter_cons, h, ih]
  rw [e]
  refine eLc_pure xs φ (fun x => (wipeE σ vs).set i (some (φ x))) _ hm hl (fun _ _ _ => rfl) (fun x hx X => ?_) (fun x hx X y e => ?_)
  · rw [ht x hx X]
    by_cases h : p x = true <;> simp [h]
  · by_cases h : p x = true
    · rw [if_pos h] at e
      cases e
      exact he x hx X h
    · rw [if_neg h] at e; cases e
/-- for, keeping to P -/
theorem forL_run {g : Tg} {body : DS} (P : Nat → Env → Store → Prop) : ∀ (l : List D) (j : Nat), (∀ (i : Nat) (d : D), l[i]? = some d → ∀ σ O, P (j + i) σ O → ∃ σ1, tgt g d O σ = some σ1 ∧ ∃ σ2 O2, (body σ1 O = .nx σ2 O2 ∨ body σ1 O = .ct σ2 O2) ∧ P (j + i + 1) σ2 O2) →
    ∀ σ O, P j σ O → ∃ σ' O', forL none g body l σ O = .nx σ' O' ∧ P (j + l.length) σ' O'
  | [], j, _, σ, O, h => ⟨σ, O, by unfold forL; exact if_pos trivial, h⟩
  | d :: r, j, H, σ, O, h => by
    obtain ⟨σ1, hg, σ2, O2, hb, h1⟩ := H 0 d rfl σ O h
    obtain ⟨σ3, O3, e2, h2⟩ := forL_run P r (j + 1) (fun i d' hd σ O hp => by
      have := H (i + 1) d' (by simpa using hd) σ O (by have e : j + (i + 1) = j + 1 + i := by omega
                                                       rw [e]; exact hp)
      have e : j + (i + 1) + 1 = j + 1 + i + 1 := by omega
      rw [e] at this; exact this) σ2 O2 h1
    refine ⟨σ3, O3, ?_, ?_⟩
    · unfold forL
      rw [if_pos (show watchOk none O from trivial), hg]
      show (body σ1 O).loop _ = _
      rcases hb with hb | hb <;> (rw [hb]; exact e2)
    · have e : j + (d :: r).length = j + 1 + r.length := by simp; omega
      rw [e]; exact h2
theorem sFor_run {mi : DI} {g : Tg} {body : DS} {σ : Env} {O O1 : Store} {l : List D} (P : Nat → Env → Store → Prop) (hm : mi σ O = .ok ⟨l, none⟩ O1) (h0 : P 0 σ O1)
    (H : ∀ (i : Nat) (d : D), l[i]? = some d → ∀ σ O, P i σ O → ∃ σ1, tgt g d O σ = some σ1 ∧ ∃ σ2 O2, (body σ1 O = .nx σ2 O2 ∨ body σ1 O = .ct σ2 O2) ∧ P (i + 1) σ2 O2) : ∃ σ' O', sFor mi g body σ O = .nx σ' O' ∧ P l.length σ' O' := by
  obtain ⟨σ', O', e, h⟩ := forL_run (g := g) (body := body) P l 0 (fun i d hd σ O hp => by
    have := H i d hd σ O (by rw [Nat.zero_add] at hp; exact hp)
    rw [Nat.zero_add]; exact this) σ O1 h0
  refine ⟨σ', O', ?_, by rw [Nat.zero_add] at h; exact h⟩
  unfold sFor
  rw [hm]
  exact e
@[simp] theorem tgt_nm (i : Nat) (d : D) (O : Store) (σ : Env) : tgt (.nm i) d O σ = some (σ.set i (some d)) := id rfl
theorem tgt_tp {js : List Nat} {l : List D} {O : Store} {σ : Env} (h : l.length = js.length) : tgt (.tp js) (.tup l) O σ = some (setAll σ js l) := by
  show (if l.length = js.length then some (setAll σ js l) else none) = _
  rw [if_pos h]
@[simp] theorem x_iAny (m : DE) (σ : Env) (O : Store) : iAny m σ O = (m σ O).bind fun d O1 => lift (itemsOf d O1) O1 := id rfl
theorem iRg1_run {m : DE} {σ : Env} {O O1 : Store} {j : Int} {it : Itm} (h1 : m σ O = .ok (.int j) O1) (h2 : rngItm 0 j = some it) : iRg1 m σ O = .ok it O1 := by
  unfold iRg1
  rw [h1, R.bind_ok]
  show lift (rngItm 0 j) O1 = _
  rw [h2]; rfl
theorem eRg_run {m : DE} {mk : List D → D} {σ : Env} {O O1 : Store} {n : Nat} (h1 : m σ O = .ok (.int (n : Nat)) O1) (h2 : n ≤ 1000000) : eRgOf mk m σ O = .ok (mk ((List.range n).map fun i => D.int (i : Nat))) O1 := by
  have key : ∀ j : Int, m σ O = .ok (.int j) O1 → -(2 ^ 62) ≤ j ∧ j < 2 ^ 62 ∧ (j - 0).toNat ≤ 2 ^ 24 → eRgOf mk m σ O = .ok (mk (rgD j)) O1 := by
    intro j h1 hj
    unfold eRgOf
    rw [h1, R.bind_ok]
    show (if -(2 ^ 62) ≤ j ∧ j < 2 ^ 62 ∧ (j - 0).toNat ≤ 2 ^ 24 then (R.ok (mk (rgD j)) O1 : R D) else .stuck) = _
    rw [if_pos hj]
  rw [key _ h1 ⟨by omega, by omega, by omega⟩]
  unfold rgD
  simp
@[simp] theorem x_iEnD (m : DE) (σ : Env) (O : Store) : iEnD m σ O = (m σ O).bind fun d O1 => lift ((itemsOf d O1).map fun it => ⟨enumD it.ds, it.w⟩) O1 := id rfl
@[simp] theorem it_tup (l : List D) (O : Store) : itemsOf (.tup l) O = some ⟨l, none⟩ := id rfl
@[simp] theorem it_rot (l : List D) (O : Store) : itemsOf (.rot l) O = some ⟨l, none⟩ := id rfl
@[simp] theorem it_lst (l : List D) (O : Store) : itemsOf (.lst l) O = some ⟨l, none⟩ := id rfl
@[simp] theorem it_rol (l : List D) (O : Store) : itemsOf (.rol l) O = some ⟨l, none⟩ := id rfl
@[simp] theorem it_str (z : Str) (O : Store) : itemsOf (.str z) O = some ⟨signsOf z, none⟩ := id rfl
theorem rng_ok {n : Nat} (h : n ≤ 1000000) : rngItm 0 (n : Int) = some ⟨(List.range n).map fun i => D.int (i : Nat), none⟩ := by
  unfold rngItm
  rw [if_pos ⟨by decide, by decide, by omega, by omega⟩]
  simp
@[simp] theorem wipe_nil (σ : Env) : wipeE σ [] = σ := id rfl
@[simp] theorem wipe_cons (σ : Env) (i : Nat) (r : List Nat) : wipeE σ (i :: r) = (wipeE σ r).set i none := id rfl
open Classical in
/-- the end of a def that lets go what it made -/
theorem fin_ok {O O1 X : Store} {d : D} (hl : O1.length = O.length) (hd : frz (O1 ++ X) O.length d = some d) (hc : okCh O O1) : fin true O d (O1 ++ X) = .ok d O1 := by
  unfold fin
  rw [if_pos rfl, hd]
  have e1 : (O1 ++ X).take O.length = O1 := by rw [← hl, List.take_left]
  show (if okCh O ((O1 ++ X).take O.length) then R.ok d ((O1 ++ X).take O.length) else .stuck) = _
  rw [e1, if_pos hc]
open Classical in
theorem fin_ptr {O O1 X : Store} {l : List D} {k : Nat} (hl : O1.length = O.length) (hk : O.length ≤ k) (hg : (O1 ++ X)[k]? = some (.lst l)) (ho : okDs O.length l = true) (hc : okCh O O1) : fin true O (.ptr k) (O1 ++ X) = .ok (.lst l) O1 := by
  unfold fin
  have e0 : frz (O1 ++ X) O.length (.ptr k) = some (.lst l) := by
    unfold frz
    rw [if_neg (Nat.not_lt.mpr hk), hg]
    simp [ho]
  rw [if_pos rfl, e0]
  have e1 : (O1 ++ X).take O.length = O1 := by rw [← hl, List.take_left]
  show (if okCh O ((O1 ++ X).take O.length) then R.ok (D.lst l) ((O1 ++ X).take O.length) else .stuck) = _
  rw [e1, if_pos hc]
theorem okDs_map {α : Type} {n : Nat} (f : α → D) (h : ∀ x, okD n (f x) = true) : ∀ l : List α, okDs n (l.map f) = true
  | [] => rfl
  | x :: r => Bool.and_eq_true_iff.mpr ⟨h x, okDs_map f h r⟩
end CP
namespace CP
open PySem PySem.Spec PyProof.Rows L2

abbrev Pt := Int × Int
def pt (p : Pt) : D := .tup [.int p.1, .int p.2]
def pyPt (p : Pt) : PyData := .tuple [.int p.1, .int p.2]
def ix (i : Nat) : D := .int (i : Nat)
theorem toPys_map {α : Type} (φ : α → D) (ψ : α → PyData) (h : ∀ x, toPy (φ x) = some (ψ x)) : ∀ l : List α, toPys (l.map φ) = some (l.map ψ)
  | [] => rfl
  | x :: r => by
    show toPys (φ x :: r.map φ) = _
    unfold toPys
    rw [h x, toPys_map φ ψ h r]; rfl
theorem lay_map {α : Type} (ψ : α → PyData) (h : ∀ x, (ψ x).canLay0 = true) : ∀ l : List α, PyData.canLayAll0 (l.map ψ) = true
  | [] => rfl
  | x :: r => by
    show PyData.canLayAll0 (ψ x :: r.map ψ) = true
    unfold PyData.canLayAll0
    rw [h x, lay_map ψ h r]; rfl
theorem depth_map {α : Type} (ψ : α → PyData) {n : Nat} (h : ∀ x, (ψ x).depth ≤ n) : ∀ l : List α, PyData.depthAll (l.map ψ) ≤ n
  | [] => Nat.zero_le _
  | x :: r => by
    show PyData.depthAll (ψ x :: r.map ψ) ≤ n
    unfold PyData.depthAll
    exact Nat.max_le.mpr ⟨h x, depth_map ψ h r⟩
theorem pyPt_of (p : Pt) : toPy (pt p) = some (pyPt p) := rfl
theorem pyPt_lay (p : Pt) : (pyPt p).canLay0 = true := rfl
theorem pyPt_depth (p : Pt) : (pyPt p).depth ≤ 1 := by show max 0 (max 0 0) + 1 ≤ 1; decide
theorem pyPt_shaped (p : Pt) : SeqAt.shaped (pyPt p) = true := rfl
theorem shaped_list {ds : List PyData} (h1 : PyData.canLayAll0 ds = true) (h2 : PyData.depthAll ds ≤ 20) : SeqAt.shaped (.list ds) = true := by
  unfold SeqAt.shaped
  have e1 : (PyData.list ds).canLay0 = true := h1
  have e2 : (PyData.list ds).depth ≤ 64 := by show PyData.depthAll ds + 1 ≤ 64; omega
  rw [e1, decide_eq_true e2]; rfl
theorem shaped_tuple {ds : List PyData} (h1 : PyData.canLayAll0 ds = true) (h2 : PyData.depthAll ds ≤ 20) : SeqAt.shaped (.tuple ds) = true := by
  unfold SeqAt.shaped
  have e1 : (PyData.tuple ds).canLay0 = true := h1
  have e2 : (PyData.tuple ds).depth ≤ 64 := by show PyData.depthAll ds + 1 ≤ 64; omega
  rw [e1, decide_eq_true e2]; rfl
theorem eqv_pt (p q : Pt) : PyData.eqv (pyPt p) (pyPt q) = decide (p = q) := by
  obtain ⟨a, b⟩ := p
  obtain ⟨c, d⟩ := q
  show (a == c && (b == d && true)) = _
  by_cases h1 : a = c <;> by_cases h2 : b = d <;> simp [h1, h2]
theorem ne_pt (p q : Pt) (O : Store) : dNe (pt p) (pt q) O = some (.bl (!decide (p = q))) := by
  have e : dNe (pt p) (pt q) O = (if SeqAt.shaped (pyPt p) && SeqAt.shaped (pyPt q) then some (.bl (!PyData.eqv (pyPt p) (pyPt q))) else none) := rfl
  rw [e, pyPt_shaped, pyPt_shaped, eqv_pt]; rfl
theorem eq_pt (p q : Pt) (O : Store) : dEq (pt p) (pt q) O = some (.bl (decide (p = q))) := by
  have e : dEq (pt p) (pt q) O = (if SeqAt.shaped (pyPt p) && SeqAt.shaped (pyPt q) then some (.bl (PyData.eqv (pyPt p) (pyPt q))) else none) := rfl
  rw [e, pyPt_shaped, pyPt_shaped, eqv_pt]; rfl
theorem any_pt (p : Pt) : ∀ l : List Pt, ((l.map pyPt).any fun z => PyData.eqv z (pyPt p)) = decide (p ∈ l)
  | [] => rfl
  | q :: r => by
    rw [List.map_cons, List.any_cons, any_pt p r, eqv_pt]
    by_cases h : q = p
    · subst h; simp
    · have h' : ¬ p = q := fun z => h z.symm
      simp [h, h']
theorem pts_list (l : List Pt) : SeqAt.shaped (.list (l.map pyPt)) = true := shaped_list (lay_map _ pyPt_lay l) (Nat.le_trans (depth_map _ pyPt_depth l) (by decide))
theorem pts_tuple (l : List Pt) : SeqAt.shaped (.tuple (l.map pyPt)) = true := shaped_tuple (lay_map _ pyPt_lay l) (Nat.le_trans (depth_map _ pyPt_depth l) (by decide))
theorem notIn_ptr {O : Store} {k : Nat} {l : List Pt} (p : Pt) (h : O[k]? = some (.lst (l.map pt))) : dNotIn (pt p) (.ptr k) O = some (.bl (!decide (p ∈ l))) := by
  have e : der (.ptr k) O = .lst (l.map pt) := by
    show O.getD k .non = _
    rw [List.getD_eq_getElem?_getD, h]; rfl
  unfold dNotIn dInB
  simp only [e, pyPt_of, toPys_map pt pyPt pyPt_of l, pyPt_shaped, pts_list, any_pt]
  rfl
theorem in_tup_pt (p : Pt) (l : List Pt) (O : Store) : dIn (pt p) (.tup (l.map pt)) O = some (.bl (decide (p ∈ l))) := by
  have e : der (.tup (l.map pt)) O = .tup (l.map pt) := rfl
  unfold dIn dInB
  simp only [e, pyPt_of, toPys_map pt pyPt pyPt_of l, pyPt_shaped, pts_tuple, any_pt]
  rfl
theorem len_ptr {O : Store} {k : Nat} {l : List D} (h : O[k]? = some (.lst l)) : dLen [.ptr k] O = some (.int l.length) := by
  have e : der (.ptr k) O = .lst l := by
    show O.getD k .non = _
    rw [List.getD_eq_getElem?_getD, h]; rfl
  unfold dLen
  simp only [e]
@[simp] theorem len_tup (l : List D) (O : Store) : dLen [.tup l] O = some (.int l.length) := id rfl
@[simp] theorem len_rot (l : List D) (O : Store) : dLen [.rot l] O = some (.int l.length) := id rfl
@[simp] theorem len_lst (l : List D) (O : Store) : dLen [.lst l] O = some (.int l.length) := id rfl
@[simp] theorem len_rol (l : List D) (O : Store) : dLen [.rol l] O = some (.int l.length) := id rfl
theorem len_str {z : Str} (O : Store) (h : z.length ≤ 1000000) : dLen [.str z] O = some (.int z.length) := by
  show (if z.length ≤ sizeLine then some (D.int z.length) else none) = _
  rw [if_pos (Nat.le_trans h line_big)]
theorem append_ptr {O : Store} {k : Nat} {l : List D} (d : D) (h : O[k]? = some (.lst l)) (hl : l.length < 1000000) : dAppend (.ptr k) [d] O = some (.non, O.set k (.lst (l ++ [d]))) := by
  unfold dAppend
  simp only [h]
  rw [if_pos (Nat.lt_of_lt_of_le hl line_big)]
theorem ty_ptr {O : Store} {k : Nat} {l : List D} (h : O[k]? = some (.lst l)) : tyD "list" (.ptr k) O = true := by
  have e : der (.ptr k) O = .lst l := by
    show O.getD k .non = _
    rw [List.getD_eq_getElem?_getD, h]; rfl
  unfold tyD
  simp only [e]; rfl
@[simp] theorem ty_str (z : Str) (O : Store) : tyD "str" (.str z) O = true := id rfl
theorem atI_mem {l : List D} {i : Int} (h0 : 0 ≤ i) (h1 : i < l.length) : ∃ d, d ∈ l ∧ atI l i = some d := by
  have hn : i.toNat < l.length := by omega
  refine ⟨l[i.toNat], List.getElem_mem hn, ?_⟩
  simp [atI, ixN, h0, h1, hn]
theorem atI_nat {α : Type} {l : List α} {i : Nat} (h : i < l.length) : atI l (i : Int) = some l[i] := by
  have h1 : (i : Int) < (l.length : Int) := by omega
  simp [atI, ixN, h1, h]
theorem okDs_pts (n : Nat) (l : List Pt) : okDs n (l.map pt) = true := okDs_map pt (fun _ => rfl) l
theorem okDs_ix (n : Nat) (l : List Nat) : okDs n (l.map ix) = true := okDs_map ix (fun _ => rfl) l
theorem set_app {O : Store} {k : Nat} {d e : D} {X : Store} (h : O[k]? = some d) : (O ++ X).set k e = O.set k e ++ X := List.set_append_left _ _ (List.getElem?_eq_some_iff.mp h).1
theorem get_app {O : Store} {k : Nat} {d : D} {X : Store} (h : O[k]? = some d) : (O ++ X)[k]? = some d := by
  rw [List.getElem?_append_left (List.getElem?_eq_some_iff.mp h).1]; exact h
theorem len_set {O : Store} {k : Nat} {d : D} : (O.set k d).length = O.length := List.length_set
/-- valid points -/
structure PtsOk (l : List Pt) : Prop where
  nd : l.Nodup
  nz : ∀ p ∈ l, p ≠ (0, 0)
  x : ∀ p ∈ l, -1000000 ≤ p.1 ∧ p.1 ≤ 1000000
  y : ∀ p ∈ l, -1000000 ≤ p.2 ∧ p.2 ≤ 1000000
end CP
namespace CP
open PySem PySem.Spec PyProof.Rows L2
/-- a run that ends with a value, of which Q holds -/
def R.wpD {α : Type} (r : R α) (Q : α → Store → Prop) : Prop := match r with
  | .ok a O => Q a O
  | _ => False
structure R.wp {α : Type} (r : R α) (Q : α → Store → Prop) : Prop where
  of ::
  h : r.wpD Q
theorem wp_D {α : Type} {r : R α} {Q : α → Store → Prop} : r.wp Q ↔ r.wpD Q := ⟨R.wp.h, R.wp.of⟩
theorem wp_ok {α : Type} {a : α} {O : Store} {Q : α → Store → Prop} : (R.ok a O).wp Q ↔ Q a O := wp_D
theorem wp_bind {α β : Type} {r : R α} {f : α → Store → R β} {Q : β → Store → Prop} : (r.bind f).wp Q ↔ r.wp fun a O => (f a O).wp Q := by
  rw [wp_D, wp_D]
  cases r with
  | ok a O => exact wp_D.symm
  | _ => exact Iff.rfl
theorem R.wp.mono {α : Type} {r : R α} {Q Q' : α → Store → Prop} (h : r.wp Q) (k : ∀ a O, Q a O → Q' a O) : r.wp Q' := by
  rw [wp_D] at h ⊢
  cases r with
  | ok a O => exact k a O h
  | _ => exact h
theorem wp_iff {α : Type} {r : R α} {Q : α → Store → Prop} : r.wp Q ↔ ∃ a O, r = .ok a O ∧ Q a O := by
  constructor
  · intro h
    rw [wp_D] at h
    cases r with
    | ok a O => exact ⟨a, O, rfl, h⟩
    | _ => exact h.elim
  · rintro ⟨a, O, rfl, h⟩
    exact wp_ok.mpr h
theorem wp_eq {α : Type} {r : R α} {a : α} {O : Store} (e : r = .ok a O) {Q : α → Store → Prop} : r.wp Q ↔ Q a O := by rw [e]; exact wp_ok
/-- a statement's end -/
def Fl.wpD (f : Fl) (N C B : Env → Store → Prop) (T : D → Store → Prop) : Prop := match f with
  | .nx σ O => N σ O
  | .ct σ O => C σ O
  | .bk σ O => B σ O
  | .rt d O => T d O
  | _ => False
structure Fl.wp (f : Fl) (N C B : Env → Store → Prop) (T : D → Store → Prop) : Prop where
  of ::
  h : f.wpD N C B T
theorem fw_D {f : Fl} {N C B : Env → Store → Prop} {T : D → Store → Prop} : f.wp N C B T ↔ f.wpD N C B T := ⟨Fl.wp.h, Fl.wp.of⟩
/-- what follows -/
def kont (t : DS) (N C B : Env → Store → Prop) (T : D → Store → Prop) (σ : Env) (O : Store) : Prop := (t σ O).wp N C B T
section
variable {N C B : Env → Store → Prop} {T : D → Store → Prop} {σ : Env} {O : Store} {s t : DS}
theorem fw_nx : (Fl.nx σ O).wp N C B T ↔ N σ O := fw_D
theorem fw_ct : (Fl.ct σ O).wp N C B T ↔ C σ O := fw_D
theorem fw_bk : (Fl.bk σ O).wp N C B T ↔ B σ O := fw_D
theorem fw_rt {d : D} : (Fl.rt d O).wp N C B T ↔ T d O := fw_D
theorem fw_seq {f : Fl} : (f.seq t).wp N C B T ↔ f.wp (kont t N C B T) C B T := by
  rw [fw_D, fw_D]
  cases f with
  | nx σ O => exact fw_D.symm
  | _ => exact Iff.rfl
theorem fw_sSeq : (sSeq s t σ O).wp N C B T ↔ (s σ O).wp (kont t N C B T) C B T := fw_seq
theorem fw_st {α : Type} {r : R α} {f : α → Store → Fl} : (r.st σ f).wp N C B T ↔ r.wp fun a O => (f a O).wp N C B T := by
  rw [fw_D, wp_D]
  cases r with
  | ok a O => exact fw_D.symm
  | _ => exact Iff.rfl
theorem Fl.wp.mono {f : Fl} {N' C' B' : Env → Store → Prop} {T' : D → Store → Prop} (h : f.wp N C B T) (hn : ∀ σ O, N σ O → N' σ O) (hc : ∀ σ O, C σ O → C' σ O) (hb : ∀ σ O, B σ O → B' σ O) (ht : ∀ d O, T d O → T' d O) : f.wp N' C' B' T' := by
  rw [fw_D] at h ⊢
  cases f with
  | nx σ O => exact hn σ O h
  | ct σ O => exact hc σ O h
  | bk σ O => exact hb σ O h
  | rt d O => exact ht d O h
  | er _ _ _ => exact h
  | stuck => exact h
theorem forL_wp {g : Tg} {body : DS} (P : Nat → Env → Store → Prop) : ∀ (l : List D) (j : Nat), (∀ (i : Nat) (d : D), l[i]? = some d → ∀ σ O, P (j + i) σ O → ∃ σ1, tgt g d O σ = some σ1 ∧ (body σ1 O).wp (P (j + i + 1)) (P (j + i + 1)) N T) →
    (∀ σ O, P (j + l.length) σ O → N σ O) → ∀ σ O, P j σ O → (forL none g body l σ O).wp N C B T
  | [], j, _, F, σ, O, h => by
    unfold forL
    rw [if_pos (show watchOk none O from trivial)]
    exact fw_nx.mpr (F σ O h)
  | d :: r, j, H, F, σ, O, h => by
    obtain ⟨σ1, hg, hb⟩ := H 0 d rfl σ O h
    have e1 : ∀ i, j + (i + 1) = j + 1 + i := fun i => by omega
    have e2 : j + (d :: r).length = j + 1 + r.length := by simp; omega
    have ih := forL_wp P r (j + 1) (fun i d' hd σ O hp => by
      have := H (i + 1) d' (by simpa using hd) σ O (by rw [e1]; exact hp)
      rw [e1] at this; exact this) (fun σ O hp => F σ O (by rw [e2]; exact hp))
    unfold forL
    rw [if_pos (show watchOk none O from trivial), hg]
    show ((body σ1 O).loop (forL none g body r)).wp N C B T
    rw [fw_D] at hb
    revert hb
    cases body σ1 O with
    | nx σ2 O2 => exact fun hb => ih σ2 O2 hb
    | ct σ2 O2 => exact fun hb => ih σ2 O2 hb
    | bk σ2 O2 => exact fun hb => fw_nx.mpr hb
    | rt d O2 => exact fun hb => fw_rt.mpr hb
    | er _ _ _ => exact fun hb => hb.elim
    | stuck => exact fun hb => hb.elim
theorem fw_for {mi : DI} {g : Tg} {body : DS} {O1 : Store} (l : List D) (P : Nat → Env → Store → Prop) (hm : mi σ O = .ok ⟨l, none⟩ O1) (h0 : P 0 σ O1)
    (H : ∀ (i : Nat) (d : D), l[i]? = some d → ∀ σ O, P i σ O → ∃ σ1, tgt g d O σ = some σ1 ∧ (body σ1 O).wp (P (i + 1)) (P (i + 1)) N T) (F : ∀ σ O, P l.length σ O → N σ O) : (sFor mi g body σ O).wp N C B T := by
  unfold sFor
  rw [hm]
  exact forL_wp P l 0 (fun i d hd σ O hp => by
    have := H i d hd σ O (by rw [Nat.zero_add] at hp; exact hp)
    rw [Nat.zero_add]; exact this) (fun σ O hp => F σ O (by rw [Nat.zero_add] at hp; exact hp)) σ O1 h0
/-- .. over data of one kind -/
theorem fw_forM {α : Type} {mi : DI} {g : Tg} {body : DS} {O1 : Store} (xs : List α) (φ : α → D) (P : Nat → Env → Store → Prop) (hm : mi σ O = .ok ⟨xs.map φ, none⟩ O1) (h0 : P 0 σ O1)
    (H : ∀ (i : Nat) (x : α), xs[i]? = some x → ∀ σ O, P i σ O → ∃ σ1, tgt g (φ x) O σ = some σ1 ∧ (body σ1 O).wp (P (i + 1)) (P (i + 1)) N T) (F : ∀ σ O, P xs.length σ O → N σ O) : (sFor mi g body σ O).wp N C B T :=
  fw_for (xs.map φ) P hm h0 (fun i d hd σ O hp => by
    rw [List.getElem?_map] at hd
    obtain ⟨x, hx, rfl⟩ := Option.map_eq_some_iff.mp hd
    exact H i x hx σ O hp) (fun σ O hp => F σ O (by rw [List.length_map] at hp; exact hp))
end
theorem wp_exit {drop : Bool} {O0 : Store} {f : Fl} {Q : D → Store → Prop} : (exitF drop O0 f).wp Q ↔ f.wp (fun _ O => (fin drop O0 .non O).wp Q) (fun _ _ => False) (fun _ _ => False) (fun d O => (fin drop O0 d O).wp Q) := by
  rw [fw_D]
  cases f with
  | er x σ O =>
    show (finX drop O0 x O).wp Q ↔ False
    refine ⟨fun h => ?_, False.elim⟩
    rw [wp_D] at h
    unfold finX at h
    split at h
    · split at h
      · split at h
        · exact h
        · exact h
      · exact h
    · exact h
  | nx σ O => exact Iff.rfl
  | rt σ O => exact Iff.rfl
  | _ => exact wp_D
theorem wp_fn {drop : Bool} {n : Nat} {m : DS} {ds : List D} {O : Store} {Q : D → Store → Prop} : (fnD drop n m ds O).wp Q ↔ (m (ds.map some ++ List.replicate (n - ds.length) none) O).wp (fun _ O' => (fin drop O .non O').wp Q) (fun _ _ => False) (fun _ _ => False) (fun d O' => (fin drop O d O').wp Q) := wp_exit
theorem wp_fin0 {O O' : Store} {d : D} {Q : D → Store → Prop} : (fin false O d O').wp Q ↔ Q d O' := wp_ok
/-- the value -/
def R.val (r : R D) : D := match r with | .ok d _ => d | _ => .non
def R.tru (r : R Bool) : Bool := match r with | .ok d _ => d | _ => false
def R.itms (r : R Itm) : List D := match r with | .ok d _ => d.ds | _ => []
theorem val_ok {d : D} {O : Store} : (R.ok d O).val = d := id rfl
theorem tru_ok {d : Bool} {O : Store} : (R.ok d O).tru = d := id rfl
theorem itms_ok {d : Itm} {O : Store} : (R.ok d O).itms = d.ds := id rfl
/-- a comprehension that changes nothing, by what it gives -/
theorem eLc_auto {mi : DI} {i : Nat} {vs : List Nat} {el : DE} {σ : Env} {O : Store} (h1 : mi σ O = .ok ⟨(mi σ O).itms, none⟩ O) (h2 : (mi σ O).itms.length ≤ 100000)
    (h3 : ∀ d ∈ (mi σ O).itms, ∀ X, el ((wipeE σ vs).set i (some d)) (O ++ [X]) = .ok (el ((wipeE σ vs).set i (some d)) (O ++ [.non])).val (O ++ [X]) ∧ okD O.length (el ((wipeE σ vs).set i (some d)) (O ++ [.non])).val = true) :
    eLc mi (.nm i) vs tTrue el σ O = .ok (.lst ((mi σ O).itms.map fun d => (el ((wipeE σ vs).set i (some d)) (O ++ [.non])).val)) O :=
  eLc_map (mi σ O).itms (fun d => d) _ (by rw [List.map_id']; exact h1) h2 h3
theorem eLcF_auto {mi : DI} {i : Nat} {vs : List Nat} {tt : DT} {el : DE} {σ : Env} {O : Store} (h1 : mi σ O = .ok ⟨(mi σ O).itms, none⟩ O) (h2 : (mi σ O).itms.length ≤ 100000)
    (h4 : ∀ d ∈ (mi σ O).itms, ∀ X, tt ((wipeE σ vs).set i (some d)) (O ++ [X]) = .ok (tt ((wipeE σ vs).set i (some d)) (O ++ [.non])).tru (O ++ [X]))
    (h3 : ∀ d ∈ (mi σ O).itms, ∀ X, (tt ((wipeE σ vs).set i (some d)) (O ++ [.non])).tru = true → el ((wipeE σ vs).set i (some d)) (O ++ [X]) = .ok (el ((wipeE σ vs).set i (some d)) (O ++ [.non])).val (O ++ [X]) ∧ okD O.length (el ((wipeE σ vs).set i (some d)) (O ++ [.non])).val = true) :
    eLc mi (.nm i) vs tt el σ O = .ok (.lst (((mi σ O).itms.filter fun d => (tt ((wipeE σ vs).set i (some d)) (O ++ [.non])).tru).map fun d => (el ((wipeE σ vs).set i (some d)) (O ++ [.non])).val)) O :=
  eLc_filter (mi σ O).itms (fun d => d) _ _ (by rw [List.map_id']; exact h1) h2 h4 h3
@[simp] theorem pt_0 (p : Pt) (O : Store) : dIx (pt p) (.int 0) O = some (.int p.1) := by simp [pt]
@[simp] theorem pt_1 (p : Pt) (O : Store) : dIx (pt p) (.int 1) O = some (.int p.2) := by simp [pt]
theorem pt_fold (a b : Int) : D.tup [.int a, .int b] = pt (a, b) := id rfl
theorem eq_of_wp {α : Type} {r : R α} {x : α} {O : Store} (h : r.wp fun a O' => a = x ∧ O' = O) : r = .ok x O := by
  obtain ⟨a, O', rfl, rfl, rfl⟩ := wp_iff.mp h
  rfl
end CP
namespace CP
open PySem PySem.Spec PyProof.Rows L2
def wl (w : Int × Int × Int) : D := .lst [.int w.1, .int w.2.1, .int w.2.2]
structure Wok (n : Nat) (w : Int × Int × Int) : Prop where
  a0 : 0 ≤ w.1
  a1 : w.1 < 2147483647
  b0 : 0 ≤ w.2.1
  c0 : 0 ≤ w.2.2
  c1 : w.2.2 ≤ n
theorem Wok.mono {n m : Nat} {w : Int × Int × Int} (h : Wok n w) (hn : n ≤ m) : Wok m w := ⟨h.a0, h.a1, h.b0, h.c0, by have := h.c1; omega⟩
theorem okD_wl (n : Nat) (w : Int × Int × Int) : okD n (wl w) = true := rfl
end CP
namespace CP
open PySem PySem.Spec PyProof.Rows L2
structure Nice (N d : Nat) (p : PyData) : Prop where
  ls : p.leavesShort 60 = true
  sw : p.showable = true
  nd : p.hasDict = false
  dp : p.depth ≤ d
  wt : p.weight ≤ N
  cl : p.canLay0 = true
theorem Nice.mono {N M d e : Nat} {p : PyData} (h : Nice N d p) (h1 : N ≤ M) (h2 : d ≤ e) : Nice M e p := ⟨h.ls, h.sw, h.nd, Nat.le_trans h.dp h2, Nat.le_trans h.wt h1, h.cl⟩
theorem nice_none : Nice 0 0 .none := ⟨rfl, rfl, rfl, Nat.le_refl _, Nat.le_refl _, rfl⟩
theorem nice_bool (b : Bool) : Nice 0 0 (.bool b) := ⟨rfl, rfl, rfl, Nat.le_refl _, Nat.le_refl _, rfl⟩
theorem nice_int {i : Int} (h : i.natAbs < 10 ^ 50) : Nice 200 0 (.int i) where
  ls := by
    have e := int_text_length_le10 (k := 50) (by decide) h
    simp only [PyData.leavesShort, decide_eq_true_eq]
    show (Str.ofString (toString i)).length ≤ 60
    rw [PySem.ofString_length]; omega
  sw := by
    simp only [PyData.showable, decide_eq_true_eq]
    by_cases hz : i.natAbs = 0
    · rw [hz]; decide
    · exact Nat.lt_of_lt_of_le ((Nat.log2_lt hz).mpr (Nat.lt_of_lt_of_le h (by decide : 10 ^ 50 ≤ 2 ^ 170))) (by decide)
  nd := rfl
  dp := Nat.le_refl _
  wt := by
    simp only [PyData.weight]
    split
    · omega
    · by_cases hz : i.natAbs = 0
      · rw [hz]; decide
      · have := (Nat.log2_lt hz).mpr (Nat.lt_of_lt_of_le h (by decide : 10 ^ 50 ≤ 2 ^ 170))
        omega
  cl := rfl
theorem nice_nat {i : Nat} (h : i < 10 ^ 50) : Nice 200 0 (.int (i : Nat)) := nice_int (by rw [Int.natAbs_natCast]; exact h)
theorem nice_all {N d : Nat} : ∀ {xs : List PyData}, (∀ x ∈ xs, Nice N d x) → PyData.leavesShortAll 60 xs = true ∧ PyData.showableAll xs = true ∧ PyData.hasDictAll xs = false ∧ PyData.depthAll xs ≤ d ∧ PyData.weightAll xs ≤ xs.length * (N + 1) ∧ PyData.canLayAll0 xs = true
  | [], _ => ⟨rfl, rfl, rfl, Nat.zero_le _, Nat.zero_le _, rfl⟩
  | x :: r, h => by
    obtain ⟨a, b, c, e, f, g⟩ := nice_all (xs := r) fun y hy => h y (List.mem_cons_of_mem _ hy)
    have hx := h x List.mem_cons_self
    refine ⟨?_, ?_, ?_, ?_, ?_, ?_⟩
    · simp only [PyData.leavesShortAll, hx.ls, a, Bool.and_self]
    · simp only [PyData.showableAll, hx.sw, b, Bool.and_self]
    · simp only [PyData.hasDictAll, hx.nd, c, Bool.or_self]
    · show max x.depth (PyData.depthAll r) ≤ d
      have := hx.dp
      omega
    · simp only [PyData.weightAll, List.length_cons]
      have e1 : (r.length + 1) * (N + 1) = r.length * (N + 1) + (N + 1) := Nat.succ_mul ..
      have := hx.wt
      omega
    · simp only [PyData.canLayAll0, hx.cl, g, Bool.and_self]
theorem nice_tuple {N d : Nat} {xs : List PyData} (h : ∀ x ∈ xs, Nice N d x) : Nice (xs.length * (N + 1)) (d + 1) (.tuple xs) := by
  obtain ⟨a, b, c, e, f, g⟩ := nice_all h
  exact ⟨by simpa only [PyData.leavesShort] using a, by simpa only [PyData.showable] using b, by simpa only [PyData.hasDict] using c, by show PyData.depthAll xs + 1 ≤ _; omega, by simpa only [PyData.weight] using f, by simpa only [PyData.canLay0] using g⟩
theorem nice_list {N d : Nat} {xs : List PyData} (h : ∀ x ∈ xs, Nice N d x) : Nice (xs.length * (N + 1)) (d + 1) (.list xs) := by
  obtain ⟨a, b, c, e, f, g⟩ := nice_all h
  exact ⟨by simpa only [PyData.leavesShort] using a, by simpa only [PyData.showable] using b, by simpa only [PyData.hasDict] using c, by show PyData.depthAll xs + 1 ≤ _; omega, by simpa only [PyData.weight] using f, by simpa only [PyData.canLay0] using g⟩
theorem Nice.repr {N d : Nat} {p : PyData} {x : D} {O : Store} (h : Nice N d p) (hN : N ≤ 200000) (hd : d ≤ 60) (e : toPy (der x O) = some p) : dRepr [x] O = some (.str p.shown) := by
  have h1 := PyData.shown_le 60 (by decide) p h.ls
  have h2 : (60 + 2) * p.weight ≤ 62 * 200000 := Nat.mul_le_mul_left 62 (Nat.le_trans h.wt hN)
  have h3 : p.shown.length ≤ sizeLine := by rw [sizeLine_eq]; omega
  have h4 : p.depth ≤ 64 := Nat.le_trans h.dp (by omega)
  unfold dRepr
  simp only [e, h.sw, h.nd, h3, h4]
  rfl
theorem Nice.shaped {N d : Nat} {p : PyData} (h : Nice N d p) (hd : d ≤ 60) : SeqAt.shaped p = true := by
  unfold SeqAt.shaped
  rw [h.cl, decide_eq_true (show p.depth ≤ 64 from Nat.le_trans h.dp (by omega))]; rfl
mutual
theorem eqv_refl : ∀ p : PyData, p.canLay0 = true → PyData.eqv p p = true
  | .none, _ => rfl
  | .bool b, _ => by cases b <;> rfl
  | .int i, _ => by simp [PyData.eqv]
  | .str x, _ => by simp [PyData.eqv]
  | .list xs, h => by
    simp only [PyData.eqv]
    exact eqvAll_refl xs (by simpa only [PyData.canLay0] using h)
  | .tuple xs, h => by
    simp only [PyData.eqv]
    exact eqvAll_refl xs (by simpa only [PyData.canLay0] using h)
  | .dict _, h => by simp [PyData.canLay0] at h
theorem eqvAll_refl : ∀ ps : List PyData, PyData.canLayAll0 ps = true → PyData.eqvAll ps ps = true
  | [], _ => rfl
  | p :: r, h => by
    have h' : p.canLay0 = true ∧ PyData.canLayAll0 r = true := by simpa only [PyData.canLayAll0, Bool.and_eq_true] using h
    simp only [PyData.eqvAll, eqv_refl p h'.1, eqvAll_refl r h'.2, Bool.and_self]
end
theorem eqB_same {x : D} {O : Store} {N d : Nat} {p : PyData} (neg : Bool) (h : Nice N d p) (hd : d ≤ 60) (e : toPy (der x O) = some p) : dEqB neg x x O = some (.bl neg.not) := by
  have h1 := h.shaped hd
  have h2 := eqv_refl p h.cl
  cases x with
  | int a =>
    show some (D.bl (if neg then !decide (a = a) else decide (a = a))) = _
    cases neg <;> simp
  | str a =>
    show some (D.bl (if neg then !decide (a = a) else decide (a = a))) = _
    cases neg <;> simp
  | _ =>
    unfold dEqB
    simp only [e, h1, h2]
    cases neg <;> rfl
theorem ne_same {x : D} {O : Store} {N d : Nat} {p : PyData} (h : Nice N d p) (hd : d ≤ 60) (e : toPy (der x O) = some p) : dNe x x O = some (.bl false) := eqB_same true h hd e
theorem eq_same {x : D} {O : Store} {N d : Nat} {p : PyData} (h : Nice N d p) (hd : d ≤ 60) (e : toPy (der x O) = some p) : dEq x x O = some (.bl true) := eqB_same false h hd e
end CP
namespace CP
open PySem PySem.Spec PyProof.Rows L2
theorem all_bls (bs : List Bool) (O : Store) : dAll [.lst (bs.map D.bl)] O = some (.bl (bs.all id)) := by
  show ((some (bs.map D.bl)).bind fun l => (blsOf l).map fun ns => D.bl (ns.all id)) = _
  rw [Option.bind_some, blsOf_map]; rfl
theorem fn_wp {n : Nat} {m : DS} {ds : List D} {O : Store} {Q : D → Store → Prop} (H : ∀ T : D → Store → Prop, (∀ d O', Q d O' → T d O') → ∀ N C B : Env → Store → Prop, (m (ds.map some ++ List.replicate (n - ds.length) none) O).wp N C B T) : (fnD false n m ds O).wp Q := by
  rw [wp_fn]
  exact H _ (fun d O' h => wp_fin0.mpr h) _ _ _
theorem fn_drop {n : Nat} {m : DS} {ds : List D} {O : Store} {Q : D → Store → Prop} (H : ∀ T : D → Store → Prop, (∀ d O', (fin true O d O').wp Q → T d O') → ∀ N C B : Env → Store → Prop, (m (ds.map some ++ List.replicate (n - ds.length) none) O).wp N C B T) : (fnD true n m ds O).wp Q := by
  rw [wp_fn]
  exact H _ (fun d O' h => h) _ _ _
section
variable {N C B : Env → Store → Prop} {T : D → Store → Prop} {σ : Env} {O : Store}
theorem fw_forQ {α : Type} {mi : DI} {g : Tg} {body : DS} {O1 : Store} (xs : List α) (φ : α → D) (P : Nat → Env → Store → Prop) (hm : mi σ O = .ok ⟨xs.map φ, none⟩ O1) (h0 : P 0 σ O1)
    (H : ∀ (i : Nat) (x : α), xs[i]? = some x → ∀ σ O, P i σ O → ∀ (N' B' : Env → Store → Prop) (T' : D → Store → Prop), (∀ σ O, P (i + 1) σ O → N' σ O) → (∀ d O, T d O → T' d O) → ∃ σ1, tgt g (φ x) O σ = some σ1 ∧ (body σ1 O).wp N' N' B' T') (F : ∀ σ O, P xs.length σ O → N σ O) : (sFor mi g body σ O).wp N C B T :=
  fw_forM xs φ P hm h0 (fun i x hx σ O hp => H i x hx σ O hp _ _ _ (fun _ _ h => h) fun _ _ h => h) F
end
theorem enumD_map {α : Type} (φ : α → D) (xs : List α) (d : α) : enumD (xs.map φ) = (List.range xs.length).map fun i => D.tup [ix i, φ (xs.getD i d)] := by
  unfold enumD
  apply List.ext_getElem?
  intro i
  rw [List.getElem?_mapIdx, List.getElem?_map, List.getElem?_map]
  by_cases h : i < xs.length
  · rw [List.getElem?_eq_getElem h, List.getElem?_range h]
    show some _ = some (D.tup [ix i, φ (xs.getD i d)])
    rw [List.getD_eq_getElem?_getD, List.getElem?_eq_getElem h]; rfl
  · rw [List.getElem?_eq_none (by omega), List.getElem?_eq_none (by simpa using h)]; rfl
theorem range_get {n i x : Nat} (h : (List.range n)[i]? = some x) : x = i ∧ i < n := by
  obtain ⟨h1, h2⟩ := List.getElem?_eq_some_iff.mp h
  rw [List.length_range] at h1
  rw [List.getElem_range] at h2
  exact ⟨h2.symm, h1⟩
def jr (w : Int × Int × Int) : D := .lst [.int w.1, .int w.2.1, .int w.2.2]
structure Jok (n : Nat) (w : Int × Int × Int) : Prop where
  a0 : 0 ≤ w.1
  b0 : 0 ≤ w.2.1
  b1 : w.2.1 < 2147483647
  c0 : 0 ≤ w.2.2
  c1 : w.2.2 ≤ n
theorem Jok.mono {n m : Nat} {w : Int × Int × Int} (h : Jok n w) (hn : n ≤ m) : Jok m w := ⟨h.a0, h.b0, h.b1, h.c0, by have := h.c1; omega⟩
theorem draw_run {O : Store} {k n : Nat} {w : Int × Int × Int} {sz : Int} (h : O[k]? = some (jr w)) (hw : Jok n w) (hn : n ≤ 1000000) (h0 : 0 < sz) (h1 : sz < 2 ^ 40) :
    ∃ w' r, m_law_draw [.ptr k, .int sz] O = .ok (.int r) (O.set k (jr w')) ∧ Jok (n + 1) w' ∧ 0 ≤ r ∧ r < sz := by
  obtain ⟨a, b, c⟩ := w
  have g : O[k]? = some (.lst [.int a, .int b, .int c]) := h
  have ha := hw.a0; have hb := hw.b0; have hb1 := hw.b1; have hc := hw.c0; have hc1 := hw.c1
  simp only at ha hb hb1 hc hc1
  have g1 : ∀ e, (O.set k e)[k]? = some e := fun e => set_get g
  have p2 : putAt (.ptr k) (.int 2) (.int (c + 1)) O = some (O.set k (.lst [.int a, .int b, .int (c + 1)])) := by
    rw [put_ptr g (n := 2) rfl]; rfl
  have hc' : 0 ≤ c + 1 ∧ c + 1 ≤ ((n + 1 : Nat) : Int) := by omega
  by_cases hap : 0 < a
  · have p0 : putAt (.ptr k) (.int 0) (.int (a / sz)) (O.set k (.lst [.int a, .int b, .int (c + 1)])) = some (O.set k (.lst [.int (a / sz), .int b, .int (c + 1)])) := by
      rw [put_ptr (g1 _) (n := 0) rfl, set_set]; rfl
    have hdv : ∀ O, dDiv (.int a) (.int sz) O = some (.int (a / sz)) := fun O => div_ii O h0 (by omega)
    refine ⟨(a / sz, b, c + 1), a % sz, ?_, ⟨Int.ediv_nonneg ha (by omega), hb, hb1, hc'.1, hc'.2⟩, Int.emod_nonneg _ (by omega), Int.emod_lt_of_pos _ h0⟩
    simp [m_law_draw, b_law_draw, fnD, ix_ptr g, ix_ptr (g1 _), p2, mod_ii _ h0, hdv, p0, hap, jr]
  · obtain ⟨kp, hkp⟩ : ∃ kp, kp = b + 70001 * (c + 1) := ⟨_, rfl⟩
    have hk0 : 0 ≤ kp := by omega
    have hk1 : kp < 80000000000 := by omega
    have hy0 : 0 ≤ kp % 65003 := Int.emod_nonneg _ (by decide)
    have hy1 : kp % 65003 < 65003 := Int.emod_lt_of_pos _ (by decide)
    generalize hye : kp % 65003 = y at hy0 hy1
    have hx0 : 0 ≤ (kp * (y + 54001) + 11 * (c + 1) + 19) % 2147483549 := Int.emod_nonneg _ (by decide)
    have hx1 : (kp * (y + 54001) + 11 * (c + 1) + 19) % 2147483549 < 2147483549 := Int.emod_lt_of_pos _ (by decide)
    generalize hxe : (kp * (y + 54001) + 11 * (c + 1) + 19) % 2147483549 = x at hx0 hx1
    have m0 : ∀ O, dMulI (.int 70001) (.int (c + 1)) O = some (.int (70001 * (c + 1))) := fun O => mul_ii O (by decide) (by omega)
    have m1 : ∀ O, dMulI (.int kp) (.int (y + 54001)) O = some (.int (kp * (y + 54001))) := fun O => mul_ii O (by omega) (by omega)
    have m2 : ∀ O, dMulI (.int 11) (.int (c + 1)) O = some (.int (11 * (c + 1))) := fun O => mul_ii O (by decide) (by omega)
    have p1 : putAt (.ptr k) (.int 1) (.int x) (O.set k (.lst [.int a, .int b, .int (c + 1)])) = some (O.set k (.lst [.int a, .int x, .int (c + 1)])) := by
      rw [put_ptr (g1 _) (n := 1) rfl, set_set]; rfl
    refine ⟨(a, x, c + 1), (x / 509) % sz, ?_, ⟨ha, hx0, by show x < _; omega, hc'.1, hc'.2⟩, Int.emod_nonneg _ (by omega), Int.emod_lt_of_pos _ h0⟩
    simp [m_law_draw, b_law_draw, fnD, ix_ptr g, ix_ptr (g1 _), p2, m0, ← hkp, m1, m2, mod_ii, hye, hxe, p1, hap, div_ii, mod_ii _ h0, jr]
theorem one_run {O : Store} {k n : Nat} {w : Int × Int × Int} {l : List D} (h : O[k]? = some (jr w)) (hw : Jok n w) (hn : n ≤ 1000000) (h0 : 0 < l.length) (h1 : l.length ≤ 100000) :
    ∃ w' d, m_law_one [.ptr k, .lst l] O = .ok d (O.set k (jr w')) ∧ Jok (n + 1) w' ∧ d ∈ l := by
  obtain ⟨w1, r1, e1, hw1, a0, a1⟩ := draw_run (sz := (l.length : Int)) h hw (by omega) (by omega) (by omega)
  obtain ⟨d, hd, q2⟩ := atI_mem a0 a1
  exact ⟨w1, d, by simp [m_law_one, b_law_one, fnD, e1, q2], hw1, hd⟩
theorem bcut_ints (ns : List Int) (a b : Option Int) : ∃ ms : List Int, cutD (ns.map D.int) a b = ms.map D.int ∧ ms.length ≤ ns.length := by
  unfold cutD
  rw [← List.map_drop, ← List.map_take]
  exact ⟨_, rfl, by rw [List.length_take, List.length_drop]; omega⟩
theorem bag_run {ns : List Int} {k : Nat} (O : Store) (hk : k ≤ 100) (hl : ns.length ≤ 1000) : ∃ w, m_law_bag [.rol (ns.map D.int), ix k] O = .ok (.ptr O.length) (O ++ [jr w]) ∧ Jok 0 w := by
  obtain ⟨ms, hms, hml⟩ := bcut_ints ns none (some 7)
  have hsl : ∀ O, dSl (.rol (ns.map D.int)) none (some 7) O = some (.lst (ms.map D.int)) := fun O => by
    rw [← hms]; rfl
  have key : (m_law_bag [.rol (ns.map D.int), ix k] O).wp fun d O' => d = .ptr O.length ∧ ∃ w, O' = O ++ [jr w] ∧ Jok 0 w := by
    unfold m_law_bag b_law_bag
    refine fn_wp fun T hT N C B => ?_
    have h1 : ∀ O, dAdd (ix k) (.int 5) O = some (.int ((k : Int) + 5)) := fun O => rfl
    have h2 : ∀ O, dMulI (.int 97919) (.int ((k : Int) + 5)) O = some (.int (97919 * ((k : Int) + 5))) := fun O => mul_ii O (by decide) (by omega)
    have h17 : ∀ O, dMulI (.int 17) (ix k) O = some (.int (17 * (k : Int))) := fun O => mul_ii O (by decide) (by omega)
    have hlen : ∀ O, dLen [.rol (ns.map D.int)] O = some (.int ns.length) := fun O => by rw [len_rol, List.length_map]
    have hp : ∀ O, dPow (.int 10) (.int 15) O = some (.int (10 ^ 15)) := fun O => pow_ii O (by decide)
    have hM : ∀ (x y z : D) O, mkM [x, y, z] O = .ok (.ptr O.length) (O ++ [.lst [x, y, z]]) := fun _ _ _ O => mkM_ok (by simp)
    have key : ∃ v : Int, ∀ (x y a b : Option D) (O : Store), eIf (tV (e2 dLt (eV 1) (eN dLen (aCons (eV 0) aNil)))) (eN dInt1 (aCons (e2 dIx (eV 0) (eV 1)) aNil)) (eC (.int 0)) [some (.rol (ns.map D.int)), some (ix k), x, y, a, b] O = .ok (.int v) O := by
      by_cases h : k < ns.length
      · have h1 := atI_nat (l := ns.map D.int) (i := k) (by rw [List.length_map]; exact h)
        rw [List.getElem_map] at h1
        have h3 : ∀ O, dLt (ix k) (.int ns.length) O = some (.bl true) := fun O => by
          show dLt (.int _) (.int _) O = _
          rw [lt_ii, decide_eq_true (by omega)]
        have h4 : ∀ O, dIx (.rol (ns.map D.int)) (ix k) O = some (.int ns[k]) := fun O => by
          show dIx _ (.int _) O = _
          rw [ix_rol]; exact h1
        clear h1
        generalize ns[k] = v at *
        generalize ns.map D.int = NN at *
        generalize (ns.length : Int) = nl at *
        generalize ix k = kk at *
        exact ⟨v, fun x y a b O => by simp [hlen, h3, h4, -len_rol]⟩
      · have h3 : ∀ O, dLt (ix k) (.int ns.length) O = some (.bl false) := fun O => by
          show dLt (.int _) (.int _) O = _
          rw [lt_ii, decide_eq_false (by omega)]
        generalize ns.map D.int = NN at *
        generalize (ns.length : Int) = nl at *
        generalize ix k = kk at *
        exact ⟨0, fun x y a b O => by simp [hlen, h3, -len_rol]⟩
    obtain ⟨v, hv⟩ := key
    have hs : (0 : Int) ≤ 97919 * ((k : Int) + 5) ∧ 97919 * ((k : Int) + 5) < 2147483647 := by omega
    generalize 97919 * ((k : Int) + 5) = s0 at *
    generalize (k : Int) + 5 = k5 at *
    generalize 17 * (k : Int) = k17 at *
    generalize eIf (tV (e2 dLt (eV 1) (eN dLen (aCons (eV 0) aNil)))) (eN dInt1 (aCons (e2 dIx (eV 0) (eV 1)) aNil)) (eC (.int 0)) = EE at *
    generalize ns.map D.int = NN at *
    generalize ix k = kk at *
    generalize hMM : ms.map D.int = MM at *
    simp [hv, h1, h2, fw_seq, fw_st, kont, fw_nx]
    refine fw_forQ (O1 := O) ms D.int (fun i σ O' => O' = O ∧ ∃ (s : Int) (a : Option D), σ = [some (.rol NN), some kk, some (.int v), some (.int s), a, none] ∧ 0 ≤ s ∧ s < 2147483647) (by simp [hsl, hMM]) ⟨rfl, _, _, rfl, hs.1, hs.2⟩ ?_ ?_
    · rintro i u hu σ O' ⟨rfl, s, a, rfl, s0, s1⟩ N1 B1 T1 hN1 hT1
      refine ⟨_, rfl, ?_⟩
      have m1 : ∀ O, dMulI (.int s) (.int 56711) O = some (.int (s * 56711)) := fun O => mul_ii O (by omega) (by decide)
      have m2 : ∀ O, dMod (.int u) (.int 1000121) O = some (.int (u % 1000121)) := fun O => mod_ii O (by decide)
      have m3 : ∀ x O, dMod (.int x) (.int 2147483549) O = some (.int (x % 2147483549)) := fun x O => mod_ii O (by decide)
      have hz0 : 0 ≤ (s * 56711 + u % 1000121 + k17) % 2147483549 := Int.emod_nonneg _ (by decide)
      have hz1 : (s * 56711 + u % 1000121 + k17) % 2147483549 < 2147483549 := Int.emod_lt_of_pos _ (by decide)
      have hend := hN1 [some (.rol NN), some kk, some (.int v), some (.int ((s * 56711 + u % 1000121 + k17) % 2147483549)), some (.int u), none] O' ⟨rfl, _, _, rfl, hz0, by omega⟩
      generalize s * 56711 = z1 at *
      generalize u % 1000121 = z2 at *
      simp [m1, m2, m3, h17, fw_st, fw_nx]
      exact hend
    · rintro σ O' ⟨rfl, s, a, rfl, s0, s1⟩
      have n1 : ∀ O, dMod (.int v) (.int 999931) O = some (.int (v % 999931)) := fun O => mod_ii O (by decide)
      have hv0 : 0 ≤ v % 999931 := Int.emod_nonneg _ (by decide)
      have hv1 : v % 999931 < 999931 := Int.emod_lt_of_pos _ (by decide)
      have n2 : ∀ O, dMulI (.int 91009) (.int (v % 999931)) O = some (.int (91009 * (v % 999931))) := fun O => mul_ii O (by decide) (by omega)
      have m3 : ∀ x O, dMod (.int x) (.int 2147483549) O = some (.int (x % 2147483549)) := fun x O => mod_ii O (by decide)
      have hz0 : 0 ≤ (s + 91009 * (v % 999931)) % 2147483549 := Int.emod_nonneg _ (by decide)
      have hz1 : (s + 91009 * (v % 999931)) % 2147483549 < 2147483549 := Int.emod_lt_of_pos _ (by decide)
      have held : ∃ u : Int, 0 ≤ u ∧ eIf (tO (tV (e2 dLt (eV 2) (eC (.int 0)))) (tV (e2 dGe (eV 2) (e2 dPow (eC (.int 10)) (eC (.int 15)))))) (eN dAbs (aCons (eV 2) aNil)) (eC (.int 0)) [some (.rol NN), some kk, some (.int v), some (.int s), a, none] O' = .ok (.int u) O' := by
        generalize (10 : Int) ^ 15 = q at *
        by_cases hn : v < 0
        · exact ⟨-v, by omega, by simp [hn]⟩
        · by_cases hq : q ≤ v
          · exact ⟨v, by omega, by simp [hn, hp, hq]⟩
          · exact ⟨0, by omega, by simp [hn, hp, hq]⟩
      obtain ⟨u, u0, e⟩ := held
      have hend := hT (.ptr O'.length) (O' ++ [jr (u, (s + 91009 * (v % 999931)) % 2147483549, 0)]) ⟨rfl, (u, (s + 91009 * (v % 999931)) % 2147483549, 0), rfl, ⟨u0, hz0, by show (s + 91009 * (v % 999931)) % 2147483549 < _; omega, Int.le_refl _, Int.le_refl _⟩⟩
      simp only [jr] at hend
      generalize v % 999931 = z1 at *
      generalize 91009 * z1 = z2 at *
      generalize eIf (tO (tV (e2 dLt (eV 2) (eC (.int 0)))) (tV (e2 dGe (eV 2) (e2 dPow (eC (.int 10)) (eC (.int 15)))))) (eN dAbs (aCons (eV 2) aNil)) (eC (.int 0)) = E2 at *
      simp [kont, fw_seq, fw_st, e, n1, n2, m3, fw_nx, fw_rt, hM]
      exact hend
  obtain ⟨d, O', e, rfl, w, rfl, hw⟩ := wp_iff.mp key
  exact ⟨w, e, hw⟩
noncomputable def blaw (c : Int) : DS := sRet (eN dAll (aCons (eLc (iRg1 (eN dMax (aCons (eC (.int 2)) (aCons (eN dMin (aCons (eN dLen (aCons (eV 0) aNil)) (aCons (eC (.int c)) aNil))) aNil)))) (.nm 1) [1] tTrue (eCall 1 m_law_right (aCons (eCall 2 m_law_bag (aCons (eV 0) (aCons (eV 1) aNil))) aNil))) aNil))
theorem blaw_true (c : Nat) (hc : c ≤ 6) (R : ∀ (O : Store) (k : Nat) (w : Int × Int × Int), O[k]? = some (jr w) → Jok 0 w → ∃ w', m_law_right [.ptr k] O = .ok (.bl true) (O.set k (jr w'))) (ns : List Int) (hl : ns.length ≤ 63) :
    ∃ O, fnD false 2 (blaw c) [.rol (ns.map D.int)] [] = .ok (.bl true) O := by
  have c1 : ∀ O, dMin [.int ns.length, .int c] O = some (.int ((min ns.length c : Nat) : Int)) := fun O => by
    show some (D.int (if (c : Int) < (ns.length : Int) then c else ns.length)) = _
    congr 2
    split <;> omega
  have c2 : ∀ O, dMax [.int 2, .int ((min ns.length c : Nat) : Int)] O = some (.int ((max 2 (min ns.length c) : Nat) : Int)) := fun O => by
    show some (D.int (if ((min ns.length c : Nat) : Int) > 2 then ((min ns.length c : Nat) : Int) else 2)) = _
    congr 2
    split <;> omega
  have hlen : ∀ O, dLen [.rol (ns.map D.int)] O = some (.int ns.length) := fun O => by rw [len_rol, List.length_map]
  have hr : (eN dMax (aCons (eC (.int 2)) (aCons (eN dMin (aCons (eN dLen (aCons (eV 0) aNil)) (aCons (eC (.int c)) aNil))) aNil))) [some (.rol (ns.map D.int)), none] [] = .ok (.int ((max 2 (min ns.length c) : Nat) : Int)) [] := by
    generalize ns.map D.int = NN at *
    generalize (ns.length : Int) = nl at *
    generalize ((min ns.length c : Nat) : Int) = mn at *
    generalize ((max 2 (min ns.length c) : Nat) : Int) = mx at *
    simp [hlen, c1, c2, -len_rol]
  have hN : max 2 (min ns.length c) ≤ 6 := by omega
  generalize max 2 (min ns.length c) = N at hr hN
  let P : Nat → List D → Store → Prop := fun i acc O' => acc = List.replicate i (.bl true) ∧ O' = []
  obtain ⟨acc, O', e, rfl, rfl⟩ := eLc_run (mi := iRg1 (eN dMax (aCons (eC (.int 2)) (aCons (eN dMin (aCons (eN dLen (aCons (eV 0) aNil)) (aCons (eC (.int c)) aNil))) aNil)))) (g := .nm 1) (vs := [1]) (tt := tTrue) (el := eCall 1 m_law_right (aCons (eCall 2 m_law_bag (aCons (eV 0) (aCons (eV 1) aNil))) aNil)) (σ := [some (.rol (ns.map D.int)), none]) (O := []) (O1 := []) (l := (List.range N).map ix) P
    (iRg1_run hr (rng_ok (by omega))) ⟨rfl, rfl⟩ (by
      rintro i d hd acc O' ⟨rfl, rfl⟩
      have hi : i < N := by
        have := (List.getElem?_eq_some_iff.mp hd).1; simpa using this
      have hd' : d = ix i := by
        rw [List.getElem?_map, List.getElem?_eq_getElem (by rw [List.length_range]; exact hi), List.getElem_range] at hd
        cases hd; rfl
      subst hd'
      obtain ⟨w, e1, hw⟩ := bag_run (ns := ns) (k := i) [D.lst (List.replicate i (.bl true))] (by omega) (by omega)
      obtain ⟨w', e2'⟩ := R ([D.lst (List.replicate i (.bl true))] ++ [jr w]) 1 w rfl hw
      refine ⟨_, _, turn_run (X1 := []) (X2 := [jr w']) (O1 := []) (O2 := []) (y := .bl true) rfl rfl rfl (okCh_refl _) ?_ rfl (okCh_refl _) rfl (by rw [List.length_replicate]; omega), ?_, rfl⟩
      · generalize m_law_right = mr at *
        generalize m_law_bag = mw at *
        generalize ns.map D.int = NN at *
        generalize ix i = ii at *
        generalize List.replicate i (D.bl true) = RR at *
        have e1' : mw [.rol NN, ii] [D.lst RR] = .ok (.ptr 1) [D.lst RR, jr w] := e1
        have e2'' : mr [.ptr 1] [D.lst RR, jr w] = .ok (.bl true) [D.lst RR, jr w'] := e2'
        simp [e1', e2'']
      · exact (List.replicate_succ' ..).symm)
  refine ⟨[], ?_⟩
  have ha : dAll [.lst (List.replicate ((List.range N).map ix).length (.bl true))] [] = some (.bl true) := by
    have := all_bls (List.replicate ((List.range N).map ix).length true) []
    rw [List.map_replicate] at this
    rw [this]
    simp
  unfold blaw
  generalize eLc (iRg1 (eN dMax (aCons (eC (.int 2)) (aCons (eN dMin (aCons (eN dLen (aCons (eV 0) aNil)) (aCons (eC (.int c)) aNil))) aNil)))) (.nm 1) [1] tTrue (eCall 1 m_law_right (aCons (eCall 2 m_law_bag (aCons (eV 0) (aCons (eV 1) aNil))) aNil)) = EE at e ⊢
  generalize List.replicate ((List.range N).map ix).length (D.bl true) = RR at *
  generalize ns.map D.int = NN at *
  simp [fnD, e, ha]
theorem forL_nx {g : Tg} {body : DS} (P : Nat → Env → Store → Prop) : ∀ (l : List D) (i : Nat),
    (∀ (q : Nat) (d : D), l[q]? = some d → ∀ σ O, P (i + q) σ O → ∃ σ1, tgt g d O σ = some σ1 ∧ ∃ σ2 O2, body σ1 O = .nx σ2 O2 ∧ P (i + q + 1) σ2 O2) →
    ∀ σ O, P i σ O → ∃ σ' O', forL none g body l σ O = .nx σ' O' ∧ P (i + l.length) σ' O'
  | [], i, _, σ, O, hp => ⟨σ, O, rfl, hp⟩
  | d :: r, i, hn, σ, O, hp => by
    obtain ⟨σ1, e1, σ2, O2, e2', hp2⟩ := hn 0 d rfl σ O hp
    obtain ⟨σ', O', e3, hf⟩ := forL_nx P r (i + 1) (fun q d' hd σ O hp' => by
      have := hn (q + 1) d' (by simpa using hd) σ O (by rw [show i + (q + 1) = i + 1 + q by omega]; exact hp')
      rw [show i + (q + 1) + 1 = i + 1 + q + 1 by omega] at this; exact this) σ2 O2 hp2
    refine ⟨σ', O', ?_, by rw [List.length_cons, show i + (r.length + 1) = i + 1 + r.length by omega]; exact hf⟩
    unfold forL
    rw [if_pos (show watchOk none O from trivial), e1]
    show (body σ1 O).loop _ = _
    rw [e2']
    exact e3
theorem sFor_nx {mi : DI} {g : Tg} {body : DS} {σ : Env} {O O1 : Store} {l : List D} (P : Nat → Env → Store → Prop) (hm : mi σ O = .ok ⟨l, none⟩ O1) (h0 : P 0 σ O1)
    (hn : ∀ (q : Nat) (d : D), l[q]? = some d → ∀ σ O, P q σ O → ∃ σ1, tgt g d O σ = some σ1 ∧ ∃ σ2 O2, body σ1 O = .nx σ2 O2 ∧ P (q + 1) σ2 O2) : ∃ σ' O', sFor mi g body σ O = .nx σ' O' ∧ P l.length σ' O' := by
  obtain ⟨σ', O', e, hf⟩ := forL_nx (g := g) (body := body) P l 0 (fun q d hd σ O hp => by
    have := hn q d hd σ O (by rw [Nat.zero_add] at hp; exact hp)
    rw [Nat.zero_add]; exact this) σ O1 h0
  rw [Nat.zero_add] at hf
  refine ⟨σ', O', ?_, hf⟩
  unfold sFor
  rw [hm]
  exact e
end CP
namespace CP
open PySem PySem.Spec PyProof.Rows L2
def xs (d : D) : List D := [D.exc true "InvalidPoints" ["index"] [d], D.exc true "InvalidColours" ["value"] [d], D.exc true "InvalidText" ["value"] [d], D.exc true "InvalidLot" ["index"] [d], D.exc true "InvalidPick" ["value"] [d], D.exc true "InvalidIndex" ["value"] [d], D.exc true "InvalidDirection" ["value"] [d], D.exc true "InvalidTold" ["value"] [d], D.exc true "InvalidSeen" ["index"] [d], D.exc true "InvalidDeeds" ["index"] [d], D.exc true "InvalidPromise" ["value"] [d], D.exc true "InvalidLine" ["value"] [d], D.exc true "NotAGround" ["value"] [d], D.exc true "UnknownColour" ["value"] [d], D.exc true "NotAround" ["value"] [d], D.exc true "Refused" ["value"] [d], D.exc true "Broken" ["index"] [d], D.exc true "TooMany" ["limit"] [d]]
def xat (d : D) (i : Nat) : D := (xs d).getD i .non
def kd (i : Nat) : List D := (List.range 18).map fun j => .bl (decide (j = i))
def bd (i : Nat) : List D := [.bl (decide (i < 13)), .bl (decide (13 ≤ i) && decide (i < 17)), .bl (decide (i = 17))]
theorem ones_run (d : D) (O : Store) : m_law_made_ones [d] O = .ok (.lst (xs d ++ xs d)) O := by kernel_rfl
theorem ix36 : ∀ i, i < 36 → ∀ d O, dIx (.lst (xs d ++ xs d)) (ix i) O = some (xat d (i % 18))
  | 0, _ => fun d O => by kernel_rfl
  | 1, _ => fun d O => by kernel_rfl
  | 2, _ => fun d O => by kernel_rfl
  | 3, _ => fun d O => by kernel_rfl
  | 4, _ => fun d O => by kernel_rfl
  | 5, _ => fun d O => by kernel_rfl
  | 6, _ => fun d O => by kernel_rfl
  | 7, _ => fun d O => by kernel_rfl
  | 8, _ => fun d O => by kernel_rfl
  | 9, _ => fun d O => by kernel_rfl
  | 10, _ => fun d O => by kernel_rfl
  | 11, _ => fun d O => by kernel_rfl
  | 12, _ => fun d O => by kernel_rfl
  | 13, _ => fun d O => by kernel_rfl
  | 14, _ => fun d O => by kernel_rfl
  | 15, _ => fun d O => by kernel_rfl
  | 16, _ => fun d O => by kernel_rfl
  | 17, _ => fun d O => by kernel_rfl
  | 18, _ => fun d O => by kernel_rfl
  | 19, _ => fun d O => by kernel_rfl
  | 20, _ => fun d O => by kernel_rfl
  | 21, _ => fun d O => by kernel_rfl
  | 22, _ => fun d O => by kernel_rfl
  | 23, _ => fun d O => by kernel_rfl
  | 24, _ => fun d O => by kernel_rfl
  | 25, _ => fun d O => by kernel_rfl
  | 26, _ => fun d O => by kernel_rfl
  | 27, _ => fun d O => by kernel_rfl
  | 28, _ => fun d O => by kernel_rfl
  | 29, _ => fun d O => by kernel_rfl
  | 30, _ => fun d O => by kernel_rfl
  | 31, _ => fun d O => by kernel_rfl
  | 32, _ => fun d O => by kernel_rfl
  | 33, _ => fun d O => by kernel_rfl
  | 34, _ => fun d O => by kernel_rfl
  | 35, _ => fun d O => by kernel_rfl
  | _ + 36, h => absurd h (by omega)
theorem mod36 : ∀ i, i < 36 → ∀ O, dInt1 [ix i] O = some (ix i) ∧ dMod (ix i) (.int 18) O = some (ix (i % 18))
  | 0, _ => fun O => ⟨by kernel_rfl, by kernel_rfl⟩
  | 1, _ => fun O => ⟨by kernel_rfl, by kernel_rfl⟩
  | 2, _ => fun O => ⟨by kernel_rfl, by kernel_rfl⟩
  | 3, _ => fun O => ⟨by kernel_rfl, by kernel_rfl⟩
  | 4, _ => fun O => ⟨by kernel_rfl, by kernel_rfl⟩
  | 5, _ => fun O => ⟨by kernel_rfl, by kernel_rfl⟩
  | 6, _ => fun O => ⟨by kernel_rfl, by kernel_rfl⟩
  | 7, _ => fun O => ⟨by kernel_rfl, by kernel_rfl⟩
  | 8, _ => fun O => ⟨by kernel_rfl, by kernel_rfl⟩
  | 9, _ => fun O => ⟨by kernel_rfl, by kernel_rfl⟩
  | 10, _ => fun O => ⟨by kernel_rfl, by kernel_rfl⟩
  | 11, _ => fun O => ⟨by kernel_rfl, by kernel_rfl⟩
  | 12, _ => fun O => ⟨by kernel_rfl, by kernel_rfl⟩
  | 13, _ => fun O => ⟨by kernel_rfl, by kernel_rfl⟩
  | 14, _ => fun O => ⟨by kernel_rfl, by kernel_rfl⟩
  | 15, _ => fun O => ⟨by kernel_rfl, by kernel_rfl⟩
  | 16, _ => fun O => ⟨by kernel_rfl, by kernel_rfl⟩
  | 17, _ => fun O => ⟨by kernel_rfl, by kernel_rfl⟩
  | 18, _ => fun O => ⟨by kernel_rfl, by kernel_rfl⟩
  | 19, _ => fun O => ⟨by kernel_rfl, by kernel_rfl⟩
  | 20, _ => fun O => ⟨by kernel_rfl, by kernel_rfl⟩
  | 21, _ => fun O => ⟨by kernel_rfl, by kernel_rfl⟩
  | 22, _ => fun O => ⟨by kernel_rfl, by kernel_rfl⟩
  | 23, _ => fun O => ⟨by kernel_rfl, by kernel_rfl⟩
  | 24, _ => fun O => ⟨by kernel_rfl, by kernel_rfl⟩
  | 25, _ => fun O => ⟨by kernel_rfl, by kernel_rfl⟩
  | 26, _ => fun O => ⟨by kernel_rfl, by kernel_rfl⟩
  | 27, _ => fun O => ⟨by kernel_rfl, by kernel_rfl⟩
  | 28, _ => fun O => ⟨by kernel_rfl, by kernel_rfl⟩
  | 29, _ => fun O => ⟨by kernel_rfl, by kernel_rfl⟩
  | 30, _ => fun O => ⟨by kernel_rfl, by kernel_rfl⟩
  | 31, _ => fun O => ⟨by kernel_rfl, by kernel_rfl⟩
  | 32, _ => fun O => ⟨by kernel_rfl, by kernel_rfl⟩
  | 33, _ => fun O => ⟨by kernel_rfl, by kernel_rfl⟩
  | 34, _ => fun O => ⟨by kernel_rfl, by kernel_rfl⟩
  | 35, _ => fun O => ⟨by kernel_rfl, by kernel_rfl⟩
  | _ + 36, h => absurd h (by omega)
theorem kind18 : ∀ i, i < 18 → ∀ d O, m_law_kind_of [xat d i] O = .ok (.lst (kd i)) O
  | 0, _ => fun d O => by kernel_rfl
  | 1, _ => fun d O => by kernel_rfl
  | 2, _ => fun d O => by kernel_rfl
  | 3, _ => fun d O => by kernel_rfl
  | 4, _ => fun d O => by kernel_rfl
  | 5, _ => fun d O => by kernel_rfl
  | 6, _ => fun d O => by kernel_rfl
  | 7, _ => fun d O => by kernel_rfl
  | 8, _ => fun d O => by kernel_rfl
  | 9, _ => fun d O => by kernel_rfl
  | 10, _ => fun d O => by kernel_rfl
  | 11, _ => fun d O => by kernel_rfl
  | 12, _ => fun d O => by kernel_rfl
  | 13, _ => fun d O => by kernel_rfl
  | 14, _ => fun d O => by kernel_rfl
  | 15, _ => fun d O => by kernel_rfl
  | 16, _ => fun d O => by kernel_rfl
  | 17, _ => fun d O => by kernel_rfl
  | _ + 18, h => absurd h (by omega)
theorem base18 : ∀ i, i < 18 → ∀ d O, m_law_bases [xat d i] O = .ok (.lst (bd i ++ bd i)) O
  | 0, _ => fun d O => by kernel_rfl
  | 1, _ => fun d O => by kernel_rfl
  | 2, _ => fun d O => by kernel_rfl
  | 3, _ => fun d O => by kernel_rfl
  | 4, _ => fun d O => by kernel_rfl
  | 5, _ => fun d O => by kernel_rfl
  | 6, _ => fun d O => by kernel_rfl
  | 7, _ => fun d O => by kernel_rfl
  | 8, _ => fun d O => by kernel_rfl
  | 9, _ => fun d O => by kernel_rfl
  | 10, _ => fun d O => by kernel_rfl
  | 11, _ => fun d O => by kernel_rfl
  | 12, _ => fun d O => by kernel_rfl
  | 13, _ => fun d O => by kernel_rfl
  | 14, _ => fun d O => by kernel_rfl
  | 15, _ => fun d O => by kernel_rfl
  | 16, _ => fun d O => by kernel_rfl
  | 17, _ => fun d O => by kernel_rfl
  | _ + 18, h => absurd h (by omega)
theorem attr18 : ∀ i, i < 18 → ∀ d O, m_law_attribute [xat d i, ix i] O = .ok d O
  | 0, _ => fun d O => by kernel_rfl
  | 1, _ => fun d O => by kernel_rfl
  | 2, _ => fun d O => by kernel_rfl
  | 3, _ => fun d O => by kernel_rfl
  | 4, _ => fun d O => by kernel_rfl
  | 5, _ => fun d O => by kernel_rfl
  | 6, _ => fun d O => by kernel_rfl
  | 7, _ => fun d O => by kernel_rfl
  | 8, _ => fun d O => by kernel_rfl
  | 9, _ => fun d O => by kernel_rfl
  | 10, _ => fun d O => by kernel_rfl
  | 11, _ => fun d O => by kernel_rfl
  | 12, _ => fun d O => by kernel_rfl
  | 13, _ => fun d O => by kernel_rfl
  | 14, _ => fun d O => by kernel_rfl
  | 15, _ => fun d O => by kernel_rfl
  | 16, _ => fun d O => by kernel_rfl
  | 17, _ => fun d O => by kernel_rfl
  | _ + 18, h => absurd h (by omega)
theorem nkd18 : ∀ i, i < 18 → ∀ O, dNe (.lst (kd i)) (.lst (kd i)) O = some (.bl false)
  | 0, _ => fun O => by kernel_rfl
  | 1, _ => fun O => by kernel_rfl
  | 2, _ => fun O => by kernel_rfl
  | 3, _ => fun O => by kernel_rfl
  | 4, _ => fun O => by kernel_rfl
  | 5, _ => fun O => by kernel_rfl
  | 6, _ => fun O => by kernel_rfl
  | 7, _ => fun O => by kernel_rfl
  | 8, _ => fun O => by kernel_rfl
  | 9, _ => fun O => by kernel_rfl
  | 10, _ => fun O => by kernel_rfl
  | 11, _ => fun O => by kernel_rfl
  | 12, _ => fun O => by kernel_rfl
  | 13, _ => fun O => by kernel_rfl
  | 14, _ => fun O => by kernel_rfl
  | 15, _ => fun O => by kernel_rfl
  | 16, _ => fun O => by kernel_rfl
  | 17, _ => fun O => by kernel_rfl
  | _ + 18, h => absurd h (by omega)
theorem nbd18 : ∀ i, i < 18 → ∀ O, dNe (.lst (bd i ++ bd i)) (.lst (bd i ++ bd i)) O = some (.bl false)
  | 0, _ => fun O => by kernel_rfl
  | 1, _ => fun O => by kernel_rfl
  | 2, _ => fun O => by kernel_rfl
  | 3, _ => fun O => by kernel_rfl
  | 4, _ => fun O => by kernel_rfl
  | 5, _ => fun O => by kernel_rfl
  | 6, _ => fun O => by kernel_rfl
  | 7, _ => fun O => by kernel_rfl
  | 8, _ => fun O => by kernel_rfl
  | 9, _ => fun O => by kernel_rfl
  | 10, _ => fun O => by kernel_rfl
  | 11, _ => fun O => by kernel_rfl
  | 12, _ => fun O => by kernel_rfl
  | 13, _ => fun O => by kernel_rfl
  | 14, _ => fun O => by kernel_rfl
  | 15, _ => fun O => by kernel_rfl
  | 16, _ => fun O => by kernel_rfl
  | 17, _ => fun O => by kernel_rfl
  | _ + 18, h => absurd h (by omega)
noncomputable abbrev DU23 : DE := (eLst (aCons (e2 dLt (eV 7) (eC (.int 13))) (aCons (eCh dLe dLt (eC (.int 13)) (eV 7) (eC (.int 17))) (aCons (e2 dEq (eV 7) (eC (.int 17))) aNil))))
theorem due18 : ∀ i, i < 18 → ∀ (a0 a1 a2 a3 a4 a5 a6 a8 a9 a10 a11 : Option D) O, DU23 [a0, a1, a2, a3, a4, a5, a6, some (ix i), a8, a9, a10, a11] O = .ok (.lst (bd i)) O
  | 0, _ => fun a0 a1 a2 a3 a4 a5 a6 a8 a9 a10 a11 O => by kernel_rfl
  | 1, _ => fun a0 a1 a2 a3 a4 a5 a6 a8 a9 a10 a11 O => by kernel_rfl
  | 2, _ => fun a0 a1 a2 a3 a4 a5 a6 a8 a9 a10 a11 O => by kernel_rfl
  | 3, _ => fun a0 a1 a2 a3 a4 a5 a6 a8 a9 a10 a11 O => by kernel_rfl
  | 4, _ => fun a0 a1 a2 a3 a4 a5 a6 a8 a9 a10 a11 O => by kernel_rfl
  | 5, _ => fun a0 a1 a2 a3 a4 a5 a6 a8 a9 a10 a11 O => by kernel_rfl
  | 6, _ => fun a0 a1 a2 a3 a4 a5 a6 a8 a9 a10 a11 O => by kernel_rfl
  | 7, _ => fun a0 a1 a2 a3 a4 a5 a6 a8 a9 a10 a11 O => by kernel_rfl
  | 8, _ => fun a0 a1 a2 a3 a4 a5 a6 a8 a9 a10 a11 O => by kernel_rfl
  | 9, _ => fun a0 a1 a2 a3 a4 a5 a6 a8 a9 a10 a11 O => by kernel_rfl
  | 10, _ => fun a0 a1 a2 a3 a4 a5 a6 a8 a9 a10 a11 O => by kernel_rfl
  | 11, _ => fun a0 a1 a2 a3 a4 a5 a6 a8 a9 a10 a11 O => by kernel_rfl
  | 12, _ => fun a0 a1 a2 a3 a4 a5 a6 a8 a9 a10 a11 O => by kernel_rfl
  | 13, _ => fun a0 a1 a2 a3 a4 a5 a6 a8 a9 a10 a11 O => by kernel_rfl
  | 14, _ => fun a0 a1 a2 a3 a4 a5 a6 a8 a9 a10 a11 O => by kernel_rfl
  | 15, _ => fun a0 a1 a2 a3 a4 a5 a6 a8 a9 a10 a11 O => by kernel_rfl
  | 16, _ => fun a0 a1 a2 a3 a4 a5 a6 a8 a9 a10 a11 O => by kernel_rfl
  | 17, _ => fun a0 a1 a2 a3 a4 a5 a6 a8 a9 a10 a11 O => by kernel_rfl
  | _ + 18, h => absurd h (by omega)
def ys : List D := [.exc true "NoCompletion" [] [], .exc true "Busy" [] [], .exc true "NothingToUndo" [] []]
def yat (i : Nat) : D := ys.getD i .non
def b3 : List D := [.bl false, .bl true, .bl false, .bl false, .bl true, .bl false]
def w3 (i : Nat) : List D := (List.range 3).map fun j => .bl (decide (i = j))
theorem base3 : ∀ i, i < 3 → ∀ O, m_law_bases [yat i] O = .ok (.lst b3) O
  | 0, _ => fun O => by kernel_rfl
  | 1, _ => fun O => by kernel_rfl
  | 2, _ => fun O => by kernel_rfl
  | _ + 3, h => absurd h (by omega)
def kf : List D := List.replicate 18 (.bl false)
theorem kind3 : ∀ i, i < 3 → ∀ O, m_law_kind_of [yat i] O = .ok (.lst kf) O
  | 0, _ => fun O => by kernel_rfl
  | 1, _ => fun O => by kernel_rfl
  | 2, _ => fun O => by kernel_rfl
  | _ + 3, h => absurd h (by omega)
theorem nb3 (O : Store) : dNe (.lst b3) (.lst b3) O = some (.bl false) := by kernel_rfl
theorem inkf (O : Store) : dIn (.bl true) (.lst kf) O = some (.bl false) := by kernel_rfl
noncomputable abbrev WH23 : DE := (eLst (aCons (eN exF (aCons (eV 6) (aCons (eC (.glo "NoCompletion")) aNil))) (aCons (eN exF (aCons (eV 6) (aCons (eC (.glo "Busy")) aNil))) (aCons (eN exF (aCons (eV 6) (aCons (eC (.glo "NothingToUndo")) aNil))) aNil))))
theorem which3 : ∀ i, i < 3 → ∀ (a0 a1 a2 a3 a4 a5 a7 a8 a9 a10 a11 : Option D) O, WH23 [a0, a1, a2, a3, a4, a5, some (yat i), a7, a8, a9, a10, a11] O = .ok (.lst (w3 i)) O
  | 0, _ => fun a0 a1 a2 a3 a4 a5 a7 a8 a9 a10 a11 O => by kernel_rfl
  | 1, _ => fun a0 a1 a2 a3 a4 a5 a7 a8 a9 a10 a11 O => by kernel_rfl
  | 2, _ => fun a0 a1 a2 a3 a4 a5 a7 a8 a9 a10 a11 O => by kernel_rfl
  | _ + 3, h => absurd h (by omega)
theorem nw3 : ∀ i, i < 3 → ∀ O, dNe (.lst (w3 i)) (.lst (w3 i)) O = some (.bl false)
  | 0, _ => fun O => by kernel_rfl
  | 1, _ => fun O => by kernel_rfl
  | 2, _ => fun O => by kernel_rfl
  | _ + 3, h => absurd h (by omega)
def things : List D := [.non, .int 7, .str "a b", .tup [.int 1, .int 2], .lst [.int 3], .dic false [] [], .bl true, .int (-1), .tup [.int 0, .int 1], .int 1000000000000000000000000000000, .str "abc"]
theorem things_rep : ∀ d ∈ things, ∃ s : Str, ∀ O, dReprX [d] O = some (.str s) := by
  intro d hd
  simp only [things, List.mem_cons, List.not_mem_nil, or_false] at hd
  rcases hd with rfl | rfl | rfl | rfl | rfl | rfl | rfl | rfl | rfl | rfl | rfl
  · exact ⟨"None", fun O => by kernel_rfl⟩
  · exact ⟨"7", fun O => by kernel_rfl⟩
  · exact ⟨"'a b'", fun O => by kernel_rfl⟩
  · exact ⟨"(1, 2)", fun O => by kernel_rfl⟩
  · exact ⟨"[3]", fun O => by kernel_rfl⟩
  · exact ⟨"{}", fun O => by kernel_rfl⟩
  · exact ⟨"True", fun O => by kernel_rfl⟩
  · exact ⟨"-1", fun O => by kernel_rfl⟩
  · exact ⟨"(0, 1)", fun O => by kernel_rfl⟩
  · exact ⟨"1000000000000000000000000000000", fun O => by kernel_rfl⟩
  · exact ⟨"'abc'", fun O => by kernel_rfl⟩
end CP
namespace CP
open PySem PySem.Spec PyProof.Rows L2
noncomputable abbrev KE1 : DS := gSet (eTup (aCons (e2 dIx (eV 4) (eV 5)) (aCons (e2 dMod (eN dInt1 (aCons (eV 5) aNil)) (eC (.int 18))) aNil))) (gtTup 2 (gtCons (gtNm 6) (gtCons (gtNm 7) gtNil)))
noncomputable abbrev KE3 : DS := sIfS (tO (tV (e2 dNe (eCall 1 m_law_kind_of (aCons (eV 6) aNil)) (eLc (iRg1 (eC (.int 18))) (.nm 9) [9] tTrue (e2 dEq (eV 9) (eV 7))))) (tV (e2 dNe (eCall 1 m_law_bases (aCons (eV 6) aNil)) (e2 dAdd (eV 8) (eV 8))))) (sRet (eC (.bl false))) sSkip
noncomputable abbrev KE4 : DS := sIfS (tV (e2 dNe (eN dReprX (aCons (eCall 2 m_law_attribute (aCons (eV 6) (aCons (eV 7) aNil))) aNil)) (eN dReprX (aCons (eV 3) aNil)))) (sRet (eC (.bl false))) sSkip
noncomputable abbrev KEB : DS := sSeq KE1 (sSeq (sSet 8 DU23) (sSeq KE3 KE4))
noncomputable abbrev KF1 : DS := sIfS (tO (tV (e2 dNe (eCall 1 m_law_bases (aCons (eV 6) aNil)) (e2 dMul (eLst (aCons (eC (.bl false)) (aCons (eC (.bl true)) (aCons (eC (.bl false)) aNil)))) (eC (.int 2))))) (tV (e2 dIn (eC (.bl true)) (eCall 1 m_law_kind_of (aCons (eV 6) aNil))))) (sRet (eC (.bl false))) sSkip
noncomputable abbrev KF3 : DS := sIfS (tV (e2 dNe (eV 11) (eLc (iRg1 (eC (.int 3))) (.nm 9) [9] tTrue (e2 dEq (eV 5) (eV 9))))) (sRet (eC (.bl false))) sSkip
noncomputable abbrev KFB : DS := sSeq KF1 (sSeq (sSet 11 WH23) KF3)
theorem seq_nx {s t : DS} {σ σ' : Env} {O O' : Store} {r : Fl} (h : s σ O = .nx σ' O') (h2 : t σ' O' = r) : sSeq s t σ O = r := by
  show (s σ O).seq t = r
  rw [h]; exact h2
theorem eq_ix23 (i j : Nat) (O : Store) : dEq (.int (i : Nat)) (.int (j : Nat)) O = some (.bl (decide (i = j))) := by
  show some (D.bl (decide ((i : Int) = (j : Int)))) = _
  congr 2
  rw [decide_eq_decide]; omega
section
variable {O : Store} {d : D} {a0 a1 a2 a5 a6 a7 a8 a10 a11 : Option D}
theorem keb_run {k : Nat} (hk : k < 36) (hd : ∃ s : Str, ∀ O, dReprX [d] O = some (.str s)) (O : Store) : ∃ b6 b7 b8, KEB [a0, a1, a2, some d, some (.lst (xs d ++ xs d)), some (ix k), a6, a7, a8, none, a10, a11] O = .nx [a0, a1, a2, some d, some (.lst (xs d ++ xs d)), some (ix k), b6, b7, b8, none, a10, a11] O := by
  obtain ⟨s, hs⟩ := hd
  have hi : k % 18 < 18 := Nat.mod_lt _ (by decide)
  have e1 := ix36 k hk d
  have e2x := fun O => (mod36 k hk O).1
  have e3 := fun O => (mod36 k hk O).2
  have hT2 : ∀ (x y : D) O, mkT [x, y] O = .ok (.tup [x, y]) O := fun x y O => mkT_2 ..
  have sq : ∀ (l : List D) O, seqT (.tup l) O = some l := fun _ _ => rfl
  have k1 := kind18 (k % 18) hi d
  have k2 := base18 (k % 18) hi d
  have k3 := attr18 (k % 18) hi d
  have n1 := nkd18 (k % 18) hi
  have n2 := nbd18 (k % 18) hi
  have du := due18 (k % 18) hi a0 a1 a2 (some d) (some (.lst (xs d ++ xs d))) (some (ix k)) (some (xat d (k % 18))) a8 none a10 a11
  have nes : dNe (.str s) (.str s) O = some (.bl false) := by
    show some (D.bl (!decide (s = s))) = _
    simp
  have lc : ∀ O, eLc (iRg1 (eC (.int 18))) (.nm 9) [9] tTrue (e2 dEq (eV 9) (eV 7)) [a0, a1, a2, some d, some (.lst (xs d ++ xs d)), some (ix k), some (xat d (k % 18)), some (ix (k % 18)), some (.lst (bd (k % 18))), none, a10, a11] O = .ok (.lst (kd (k % 18))) O := fun O => by
    refine eLc_map (List.range 18) ix (fun j => .bl (decide (j = k % 18))) (iRg1_run (j := 18) (by simp) (rng_ok (n := 18) (by decide))) (by simp) (fun j hj X => ?_)
    have q := fun O => eq_ix23 j (k % 18) O
    refine ⟨?_, rfl⟩
    unfold ix
    generalize D.lst (xs d ++ xs d) = L1 at *
    generalize D.lst (bd (k % 18)) = L2 at *
    generalize xat d (k % 18) = X9 at *
    generalize ((k % 18 : Nat) : Int) = K1 at *
    generalize ((k : Nat) : Int) = K0 at *
    generalize ((j : Nat) : Int) = J at *
    simp [q]
  have add : ∀ O, dAdd (.lst (bd (k % 18))) (.lst (bd (k % 18))) O = some (.lst (bd (k % 18) ++ bd (k % 18))) := fun O => rfl
  refine ⟨some (xat d (k % 18)), some (ix (k % 18)), some (.lst (bd (k % 18))), ?_⟩
  refine seq_nx (σ' := [a0, a1, a2, some d, some (.lst (xs d ++ xs d)), some (ix k), some (xat d (k % 18)), some (ix (k % 18)), a8, none, a10, a11]) (O' := O) ?_ (seq_nx (σ' := [a0, a1, a2, some d, some (.lst (xs d ++ xs d)), some (ix k), some (xat d (k % 18)), some (ix (k % 18)), some (.lst (bd (k % 18))), none, a10, a11]) (O' := O) ?_ (seq_nx (σ' := [a0, a1, a2, some d, some (.lst (xs d ++ xs d)), some (ix k), some (xat d (k % 18)), some (ix (k % 18)), some (.lst (bd (k % 18))), none, a10, a11]) (O' := O) ?_ ?_))
  · generalize D.lst (xs d ++ xs d) = L1 at *
    generalize xat d (k % 18) = X9 at *
    generalize ix (k % 18) = K1 at *
    generalize ix k = K0 at *
    simp [e1, e2x, e3, hT2, sq]
  · generalize DU23 = DD at *
    generalize D.lst (xs d ++ xs d) = L1 at *
    generalize D.lst (bd (k % 18)) = L2 at *
    generalize xat d (k % 18) = X9 at *
    generalize ix (k % 18) = K1 at *
    generalize ix k = K0 at *
    simp [du]
  · unfold KE3
    generalize eLc (iRg1 (eC (.int 18))) (.nm 9) [9] tTrue (e2 dEq (eV 9) (eV 7)) = EL at *
    generalize D.lst (xs d ++ xs d) = L1 at *
    generalize D.lst (bd (k % 18) ++ bd (k % 18)) = L3 at *
    generalize D.lst (bd (k % 18)) = L2 at *
    generalize D.lst (kd (k % 18)) = L4 at *
    generalize xat d (k % 18) = X9 at *
    generalize ix (k % 18) = K1 at *
    generalize ix k = K0 at *
    simp [k1, k2, lc, n1, n2, add]
  · generalize D.lst (xs d ++ xs d) = L1 at *
    generalize D.lst (bd (k % 18)) = L2 at *
    generalize xat d (k % 18) = X9 at *
    generalize ix (k % 18) = K1 at *
    generalize ix k = K0 at *
    simp [k3, hs, nes]
theorem kfb_run {a3 a4 : Option D} {k : Nat} (hk : k < 3) (O : Store) : ∃ b11, KFB [a0, a1, a2, a3, a4, some (ix k), some (yat k), a7, a8, none, a10, a11] O = .nx [a0, a1, a2, a3, a4, some (ix k), some (yat k), a7, a8, none, a10, b11] O := by
  have k1 := base3 k hk
  have k2 := kind3 k hk
  have n1 := fun O => nb3 O
  have n2 := fun O => inkf O
  have n3 := nw3 k hk
  have wh := which3 k hk a0 a1 a2 a3 a4 (some (ix k)) a7 a8 none a10 a11
  have hL3 : ∀ (x y z : D) O, mkL [x, y, z] O = .ok (.lst [x, y, z]) O := fun _ _ _ O => mkL_ok (by simp)
  have mul : ∀ O, dMul (.lst [.bl false, .bl true, .bl false]) (.int 2) O = some (.lst b3) := fun O => by kernel_rfl
  have lc : ∀ O, eLc (iRg1 (eC (.int 3))) (.nm 9) [9] tTrue (e2 dEq (eV 5) (eV 9)) [a0, a1, a2, a3, a4, some (ix k), some (yat k), a7, a8, none, a10, some (.lst (w3 k))] O = .ok (.lst (w3 k)) O := fun O => by
    refine eLc_map (List.range 3) ix (fun j => .bl (decide (k = j))) (iRg1_run (j := 3) (by simp) (rng_ok (n := 3) (by decide))) (by simp) (fun j hj X => ?_)
    have q := fun O => eq_ix23 k j O
    refine ⟨?_, rfl⟩
    unfold ix
    generalize D.lst (w3 k) = L2 at *
    generalize yat k = X9 at *
    generalize ((k : Nat) : Int) = K0 at *
    generalize ((j : Nat) : Int) = J at *
    simp [q]
  refine ⟨some (.lst (w3 k)), ?_⟩
  refine seq_nx (σ' := [a0, a1, a2, a3, a4, some (ix k), some (yat k), a7, a8, none, a10, a11]) (O' := O) ?_ (seq_nx (σ' := [a0, a1, a2, a3, a4, some (ix k), some (yat k), a7, a8, none, a10, some (.lst (w3 k))]) (O' := O) ?_ ?_)
  · generalize yat k = X9 at *
    generalize ix k = K0 at *
    generalize D.lst b3 = L3 at *
    generalize D.lst kf = L4 at *
    simp [k1, k2, n1, n2, hL3, mul]
  · generalize WH23 = DD at *
    generalize yat k = X9 at *
    generalize ix k = K0 at *
    simp [wh]
  · unfold KF3
    generalize eLc (iRg1 (eC (.int 3))) (.nm 9) [9] tTrue (e2 dEq (eV 5) (eV 9)) = EL at *
    generalize D.lst (w3 k) = L2 at *
    generalize yat k = X9 at *
    generalize ix k = K0 at *
    simp [lc, n3]
end
noncomputable abbrev KL2 : DE := (eLst (aCons (eC .non) (aCons (eC (.int 7)) (aCons (eC (.str "a b")) (aCons (eTup (aCons (eC (.int 1)) (aCons (eC (.int 2)) aNil))) (aCons (eLst (aCons (eC (.int 3)) aNil)) (aCons (eC (.dic false [] [])) (aCons (eC (.bl true)) (aCons (eNeg (eC (.int 1))) (aCons (eTup (aCons (eC (.int 0)) (aCons (eC (.int 1)) aNil))) (aCons (e2 dPow (eC (.int 10)) (eC (.int 30))) (aCons (eC (.str "abc")) aNil))))))))))))
noncomputable abbrev KTB : DS := sSeq (sSet 2 KL2)
  (sSeq (sSet 3 (eCall 2 m_law_one (aCons (eV 0) (aCons (eV 2) aNil))))
  (sSeq (sSet 4 (eCall 1 m_law_made_ones (aCons (eV 3) aNil)))
  (sSeq (sFor (iRg1 (eC (.int 36))) (.nm 5) KEB)
  (sSeq (sSet 10 (eLst (aCons (eMkX0 "NoCompletion") (aCons (eMkX0 "Busy") (aCons (eMkX0 "NothingToUndo") aNil)))))
  (sFor (iEnD (eV 10)) (.tp [5, 6]) KFB)))))
theorem kl2_run (σ : Env) (O : Store) : KL2 σ O = .ok (.lst things) O := by kernel_rfl
section
variable {O : Store} {k m : Nat} {w : Int × Int × Int}
theorem turn23 {a1 a2 a3 a4 a5 a6 a7 a8 a10 a11 : Option D} (h : O[k]? = some (jr w)) (hw : Jok m w) (hm : m ≤ 900000) : ∃ w' b2 b3 b4 b5 b6 b7 b8 b10 b11, Jok (m + 1) w' ∧
    KTB [some (.ptr k), a1, a2, a3, a4, a5, a6, a7, a8, none, a10, a11] O = .nx [some (.ptr k), a1, b2, b3, b4, b5, b6, b7, b8, none, b10, b11] (O.set k (jr w')) := by
  obtain ⟨w1, d, e1, hw1, hd⟩ := one_run (l := things) h hw (by omega) (by decide) (by decide)
  have hr := things_rep d hd
  have l2 := fun O => kl2_run [some (.ptr k), a1, a2, a3, a4, a5, a6, a7, a8, none, a10, a11] O
  have on := fun O => ones_run d O
  obtain ⟨σ1, O1, ef, rfl, b5, b6, b7, b8, rfl⟩ := sFor_nx (g := .nm 5) (body := KEB) (mi := iRg1 (eC (.int 36))) (σ := [some (.ptr k), a1, some (.lst things), some d, some (.lst (xs d ++ xs d)), a5, a6, a7, a8, none, a10, a11]) (O := O.set k (jr w1)) (O1 := O.set k (jr w1)) (l := (List.range 36).map ix)
    (fun i σ O' => O' = O.set k (jr w1) ∧ ∃ b5 b6 b7 b8, σ = [some (.ptr k), a1, some (.lst things), some d, some (.lst (xs d ++ xs d)), b5, b6, b7, b8, none, a10, a11]) (iRg1_run (j := 36) (by simp) (rng_ok (n := 36) (by decide))) ⟨rfl, _, _, _, _, rfl⟩ (by
      rintro i x hx σ O' ⟨rfl, b5, b6, b7, b8, rfl⟩
      rw [List.getElem?_map] at hx
      obtain ⟨i', hi', rfl⟩ := Option.map_eq_some_iff.mp hx
      obtain ⟨rfl, hi⟩ := range_get hi'
      obtain ⟨c6, c7, c8, e⟩ := keb_run (a0 := some (.ptr k)) (a1 := a1) (a2 := some (.lst things)) (a6 := b6) (a7 := b7) (a8 := b8) (a10 := a10) (a11 := a11) (k := i') hi hr (O.set k (jr w1))
      exact ⟨_, rfl, _, _, e, rfl, _, _, _, _, rfl⟩)
  have hy : enumD ys = (List.range 3).map fun i => D.tup [ix i, yat i] := rfl
  obtain ⟨σ2, O2, ef2, rfl, c5, c6, c11, rfl⟩ := sFor_nx (g := .tp [5, 6]) (body := KFB) (mi := iEnD (eV 10)) (σ := [some (.ptr k), a1, some (.lst things), some d, some (.lst (xs d ++ xs d)), b5, b6, b7, b8, none, some (.lst ys), a11]) (O := O.set k (jr w1)) (O1 := O.set k (jr w1)) (l := enumD ys)
    (fun i σ O' => O' = O.set k (jr w1) ∧ ∃ c5 c6 c11, σ = [some (.ptr k), a1, some (.lst things), some d, some (.lst (xs d ++ xs d)), c5, c6, b7, b8, none, some (.lst ys), c11]) (by
      show (R.ok _ _) = _
      rfl) ⟨rfl, _, _, _, rfl⟩ (by
      rintro i x hx σ O' ⟨rfl, c5, c6, c11, rfl⟩
      rw [hy, List.getElem?_map] at hx
      obtain ⟨i', hi', rfl⟩ := Option.map_eq_some_iff.mp hx
      obtain ⟨rfl, hi⟩ := range_get hi'
      obtain ⟨d11, e⟩ := kfb_run (a0 := some (.ptr k)) (a1 := a1) (a2 := some (.lst things)) (a3 := some d) (a4 := some (.lst (xs d ++ xs d))) (a7 := b7) (a8 := b8) (a10 := some (.lst ys)) (a11 := c11) (k := i') hi (O.set k (jr w1))
      exact ⟨_, rfl, _, _, e, rfl, _, _, _, rfl⟩)
  refine ⟨w1, some (.lst things), some d, some (.lst (xs d ++ xs d)), c5, c6, b7, b8, some (.lst ys), c11, hw1, ?_⟩
  refine seq_nx (σ' := [some (.ptr k), a1, some (.lst things), a3, a4, a5, a6, a7, a8, none, a10, a11]) (O' := O) ?_ (seq_nx (σ' := [some (.ptr k), a1, some (.lst things), some d, a4, a5, a6, a7, a8, none, a10, a11]) (O' := O.set k (jr w1)) ?_ (seq_nx (σ' := [some (.ptr k), a1, some (.lst things), some d, some (.lst (xs d ++ xs d)), a5, a6, a7, a8, none, a10, a11]) (O' := O.set k (jr w1)) ?_ (seq_nx ef (seq_nx (σ' := [some (.ptr k), a1, some (.lst things), some d, some (.lst (xs d ++ xs d)), b5, b6, b7, b8, none, some (.lst ys), a11]) (O' := O.set k (jr w1)) ?_ ef2))))
  · generalize KL2 = KK at *
    generalize D.lst things = L at *
    simp [l2]
  · generalize D.lst things = L at *
    simp [e1]
  · generalize D.lst things = L at *
    generalize D.lst (xs d ++ xs d) = L2 at *
    simp [on]
  · generalize D.lst things = L at *
    generalize D.lst (xs d ++ xs d) = L2 at *
    kernel_rfl
theorem right_run {O : Store} {k : Nat} {w : Int × Int × Int} (h : O[k]? = some (jr w)) (hw : Jok 0 w) : ∃ w', m_law_right [.ptr k] O = .ok (.bl true) (O.set k (jr w')) := by
  have hself : O.set k (jr w) = O := by
    obtain ⟨h1, h2⟩ := List.getElem?_eq_some_iff.mp h
    rw [← h2, List.set_getElem_self]
  obtain ⟨σ1, O1, ef, w', b1, b2, b3, b4, b5, b6, b7, b8, b10, b11, hw', rfl, rfl⟩ := sFor_nx (g := .nm 1) (body := KTB) (mi := iRg1 (eC (.int 3))) (σ := [some (.ptr k), none, none, none, none, none, none, none, none, none, none, none]) (O := O) (O1 := O) (l := (List.range 3).map ix)
    (fun i σ O' => ∃ w' b1 b2 b3 b4 b5 b6 b7 b8 b10 b11, Jok i w' ∧ σ = [some (.ptr k), b1, b2, b3, b4, b5, b6, b7, b8, none, b10, b11] ∧ O' = O.set k (jr w')) (iRg1_run (j := 3) (by simp) (rng_ok (n := 3) (by decide))) ⟨w, _, _, _, _, _, _, _, _, _, _, hw, rfl, hself.symm⟩ (by
      rintro i x hx σ O' ⟨w', b1, b2, b3, b4, b5, b6, b7, b8, b10, b11, hw', rfl, rfl⟩
      have hi : i < 3 := by
        have := (List.getElem?_eq_some_iff.mp hx).1
        simpa using this
      obtain ⟨w2, c2, c3, c4, c5, c6, c7, c8, c10, c11, hw2, e⟩ := turn23 (a1 := some x) (a2 := b2) (a3 := b3) (a4 := b4) (a5 := b5) (a6 := b6) (a7 := b7) (a8 := b8) (a10 := b10) (a11 := b11) (set_get (e := jr w') h) hw' (by omega)
      rw [set_set] at e
      exact ⟨_, rfl, _, _, e, w2, _, _, _, _, _, _, _, _, _, _, hw2, rfl, rfl⟩)
  refine ⟨w', ?_⟩
  have un : m_law_right [.ptr k] O = exitF false O (sSeq (sFor (iRg1 (eC (.int 3))) (.nm 1) KTB) (sRet (eC (.bl true))) [some (.ptr k), none, none, none, none, none, none, none, none, none, none, none] O) := rfl
  rw [un, seq_nx ef rfl]
  rfl
end
end CP
namespace CP
open PySem PySem.Spec PyProof.Rows L2
theorem law_true (ns : List Int) (hl : ns.length ≤ 63) : ∃ O, m_law [.rol (ns.map D.int)] [] = .ok (.bl true) O :=
  blaw_true 4 (by decide) (fun _ _ _ h hw => right_run h hw) ns hl
end CP
namespace CP
open PySem PySem.Spec PyProof.Rows L2
/-! ### the derivations -/
section
variable {U : Univ}
theorem sc_InvalidPoints_init : FnScope ["self", "index"] ["self", "index"] (defScope st_InvalidPoints_init) := ⟨rfl, rfl, rfl, by decide +kernel, rfl, by decide +kernel, by decide +kernel⟩
theorem fd_InvalidPoints_init (c : Sy U) : ∃ fd, FunD U.K dd_InvalidPoints_init.name dd_InvalidPoints_init.qual (defArgs st_InvalidPoints_init) (defBody st_InvalidPoints_init) (defScope st_InvalidPoints_init) [] [] (He.fAd U.K ("InvalidPoints", some "__init__")) fd := c.d.defs (d := dd_InvalidPoints_init) (List.mem_of_getElem? (i := 2) rfl)
theorem bi_InvalidPoints_init {fd : FuncData} {f : Addr} (F : FunD U.K dd_InvalidPoints_init.name dd_InvalidPoints_init.qual (defArgs st_InvalidPoints_init) (defBody st_InvalidPoints_init) (defScope st_InvalidPoints_init) [] [] f fd) : Binds U.K fd ["self", "index"] [] := F.bindsN fun _ _ _ _ _ _ us hl => match us, hl with | [_, _], _ => rfl
theorem sc_InvalidColours_init : FnScope ["self", "value"] ["self", "value"] (defScope st_InvalidColours_init) := ⟨rfl, rfl, rfl, by decide +kernel, rfl, by decide +kernel, by decide +kernel⟩
theorem fd_InvalidColours_init (c : Sy U) : ∃ fd, FunD U.K dd_InvalidColours_init.name dd_InvalidColours_init.qual (defArgs st_InvalidColours_init) (defBody st_InvalidColours_init) (defScope st_InvalidColours_init) [] [] (He.fAd U.K ("InvalidColours", some "__init__")) fd := c.d.defs (d := dd_InvalidColours_init) (List.mem_of_getElem? (i := 3) rfl)
theorem bi_InvalidColours_init {fd : FuncData} {f : Addr} (F : FunD U.K dd_InvalidColours_init.name dd_InvalidColours_init.qual (defArgs st_InvalidColours_init) (defBody st_InvalidColours_init) (defScope st_InvalidColours_init) [] [] f fd) : Binds U.K fd ["self", "value"] [] := F.bindsN fun _ _ _ _ _ _ us hl => match us, hl with | [_, _], _ => rfl
theorem sc_InvalidText_init : FnScope ["self", "value"] ["self", "value"] (defScope st_InvalidText_init) := ⟨rfl, rfl, rfl, by decide +kernel, rfl, by decide +kernel, by decide +kernel⟩
theorem fd_InvalidText_init (c : Sy U) : ∃ fd, FunD U.K dd_InvalidText_init.name dd_InvalidText_init.qual (defArgs st_InvalidText_init) (defBody st_InvalidText_init) (defScope st_InvalidText_init) [] [] (He.fAd U.K ("InvalidText", some "__init__")) fd := c.d.defs (d := dd_InvalidText_init) (List.mem_of_getElem? (i := 4) rfl)
theorem bi_InvalidText_init {fd : FuncData} {f : Addr} (F : FunD U.K dd_InvalidText_init.name dd_InvalidText_init.qual (defArgs st_InvalidText_init) (defBody st_InvalidText_init) (defScope st_InvalidText_init) [] [] f fd) : Binds U.K fd ["self", "value"] [] := F.bindsN fun _ _ _ _ _ _ us hl => match us, hl with | [_, _], _ => rfl
theorem sc_InvalidLot_init : FnScope ["self", "index"] ["self", "index"] (defScope st_InvalidLot_init) := ⟨rfl, rfl, rfl, by decide +kernel, rfl, by decide +kernel, by decide +kernel⟩
theorem fd_InvalidLot_init (c : Sy U) : ∃ fd, FunD U.K dd_InvalidLot_init.name dd_InvalidLot_init.qual (defArgs st_InvalidLot_init) (defBody st_InvalidLot_init) (defScope st_InvalidLot_init) [] [] (He.fAd U.K ("InvalidLot", some "__init__")) fd := c.d.defs (d := dd_InvalidLot_init) (List.mem_of_getElem? (i := 5) rfl)
theorem bi_InvalidLot_init {fd : FuncData} {f : Addr} (F : FunD U.K dd_InvalidLot_init.name dd_InvalidLot_init.qual (defArgs st_InvalidLot_init) (defBody st_InvalidLot_init) (defScope st_InvalidLot_init) [] [] f fd) : Binds U.K fd ["self", "index"] [] := F.bindsN fun _ _ _ _ _ _ us hl => match us, hl with | [_, _], _ => rfl
theorem sc_InvalidPick_init : FnScope ["self", "value"] ["self", "value"] (defScope st_InvalidPick_init) := ⟨rfl, rfl, rfl, by decide +kernel, rfl, by decide +kernel, by decide +kernel⟩
theorem fd_InvalidPick_init (c : Sy U) : ∃ fd, FunD U.K dd_InvalidPick_init.name dd_InvalidPick_init.qual (defArgs st_InvalidPick_init) (defBody st_InvalidPick_init) (defScope st_InvalidPick_init) [] [] (He.fAd U.K ("InvalidPick", some "__init__")) fd := c.d.defs (d := dd_InvalidPick_init) (List.mem_of_getElem? (i := 6) rfl)
theorem bi_InvalidPick_init {fd : FuncData} {f : Addr} (F : FunD U.K dd_InvalidPick_init.name dd_InvalidPick_init.qual (defArgs st_InvalidPick_init) (defBody st_InvalidPick_init) (defScope st_InvalidPick_init) [] [] f fd) : Binds U.K fd ["self", "value"] [] := F.bindsN fun _ _ _ _ _ _ us hl => match us, hl with | [_, _], _ => rfl
theorem sc_InvalidIndex_init : FnScope ["self", "value"] ["self", "value"] (defScope st_InvalidIndex_init) := ⟨rfl, rfl, rfl, by decide +kernel, rfl, by decide +kernel, by decide +kernel⟩
theorem fd_InvalidIndex_init (c : Sy U) : ∃ fd, FunD U.K dd_InvalidIndex_init.name dd_InvalidIndex_init.qual (defArgs st_InvalidIndex_init) (defBody st_InvalidIndex_init) (defScope st_InvalidIndex_init) [] [] (He.fAd U.K ("InvalidIndex", some "__init__")) fd := c.d.defs (d := dd_InvalidIndex_init) (List.mem_of_getElem? (i := 7) rfl)
theorem bi_InvalidIndex_init {fd : FuncData} {f : Addr} (F : FunD U.K dd_InvalidIndex_init.name dd_InvalidIndex_init.qual (defArgs st_InvalidIndex_init) (defBody st_InvalidIndex_init) (defScope st_InvalidIndex_init) [] [] f fd) : Binds U.K fd ["self", "value"] [] := F.bindsN fun _ _ _ _ _ _ us hl => match us, hl with | [_, _], _ => rfl
theorem sc_InvalidDirection_init : FnScope ["self", "value"] ["self", "value"] (defScope st_InvalidDirection_init) := ⟨rfl, rfl, rfl, by decide +kernel, rfl, by decide +kernel, by decide +kernel⟩
theorem fd_InvalidDirection_init (c : Sy U) : ∃ fd, FunD U.K dd_InvalidDirection_init.name dd_InvalidDirection_init.qual (defArgs st_InvalidDirection_init) (defBody st_InvalidDirection_init) (defScope st_InvalidDirection_init) [] [] (He.fAd U.K ("InvalidDirection", some "__init__")) fd := c.d.defs (d := dd_InvalidDirection_init) (List.mem_of_getElem? (i := 8) rfl)
theorem bi_InvalidDirection_init {fd : FuncData} {f : Addr} (F : FunD U.K dd_InvalidDirection_init.name dd_InvalidDirection_init.qual (defArgs st_InvalidDirection_init) (defBody st_InvalidDirection_init) (defScope st_InvalidDirection_init) [] [] f fd) : Binds U.K fd ["self", "value"] [] := F.bindsN fun _ _ _ _ _ _ us hl => match us, hl with | [_, _], _ => rfl
theorem sc_InvalidTold_init : FnScope ["self", "value"] ["self", "value"] (defScope st_InvalidTold_init) := ⟨rfl, rfl, rfl, by decide +kernel, rfl, by decide +kernel, by decide +kernel⟩
theorem fd_InvalidTold_init (c : Sy U) : ∃ fd, FunD U.K dd_InvalidTold_init.name dd_InvalidTold_init.qual (defArgs st_InvalidTold_init) (defBody st_InvalidTold_init) (defScope st_InvalidTold_init) [] [] (He.fAd U.K ("InvalidTold", some "__init__")) fd := c.d.defs (d := dd_InvalidTold_init) (List.mem_of_getElem? (i := 9) rfl)
theorem bi_InvalidTold_init {fd : FuncData} {f : Addr} (F : FunD U.K dd_InvalidTold_init.name dd_InvalidTold_init.qual (defArgs st_InvalidTold_init) (defBody st_InvalidTold_init) (defScope st_InvalidTold_init) [] [] f fd) : Binds U.K fd ["self", "value"] [] := F.bindsN fun _ _ _ _ _ _ us hl => match us, hl with | [_, _], _ => rfl
theorem sc_InvalidSeen_init : FnScope ["self", "index"] ["self", "index"] (defScope st_InvalidSeen_init) := ⟨rfl, rfl, rfl, by decide +kernel, rfl, by decide +kernel, by decide +kernel⟩
theorem fd_InvalidSeen_init (c : Sy U) : ∃ fd, FunD U.K dd_InvalidSeen_init.name dd_InvalidSeen_init.qual (defArgs st_InvalidSeen_init) (defBody st_InvalidSeen_init) (defScope st_InvalidSeen_init) [] [] (He.fAd U.K ("InvalidSeen", some "__init__")) fd := c.d.defs (d := dd_InvalidSeen_init) (List.mem_of_getElem? (i := 10) rfl)
theorem bi_InvalidSeen_init {fd : FuncData} {f : Addr} (F : FunD U.K dd_InvalidSeen_init.name dd_InvalidSeen_init.qual (defArgs st_InvalidSeen_init) (defBody st_InvalidSeen_init) (defScope st_InvalidSeen_init) [] [] f fd) : Binds U.K fd ["self", "index"] [] := F.bindsN fun _ _ _ _ _ _ us hl => match us, hl with | [_, _], _ => rfl
theorem sc_InvalidDeeds_init : FnScope ["self", "index"] ["self", "index"] (defScope st_InvalidDeeds_init) := ⟨rfl, rfl, rfl, by decide +kernel, rfl, by decide +kernel, by decide +kernel⟩
theorem fd_InvalidDeeds_init (c : Sy U) : ∃ fd, FunD U.K dd_InvalidDeeds_init.name dd_InvalidDeeds_init.qual (defArgs st_InvalidDeeds_init) (defBody st_InvalidDeeds_init) (defScope st_InvalidDeeds_init) [] [] (He.fAd U.K ("InvalidDeeds", some "__init__")) fd := c.d.defs (d := dd_InvalidDeeds_init) (List.mem_of_getElem? (i := 11) rfl)
theorem bi_InvalidDeeds_init {fd : FuncData} {f : Addr} (F : FunD U.K dd_InvalidDeeds_init.name dd_InvalidDeeds_init.qual (defArgs st_InvalidDeeds_init) (defBody st_InvalidDeeds_init) (defScope st_InvalidDeeds_init) [] [] f fd) : Binds U.K fd ["self", "index"] [] := F.bindsN fun _ _ _ _ _ _ us hl => match us, hl with | [_, _], _ => rfl
theorem sc_InvalidPromise_init : FnScope ["self", "value"] ["self", "value"] (defScope st_InvalidPromise_init) := ⟨rfl, rfl, rfl, by decide +kernel, rfl, by decide +kernel, by decide +kernel⟩
theorem fd_InvalidPromise_init (c : Sy U) : ∃ fd, FunD U.K dd_InvalidPromise_init.name dd_InvalidPromise_init.qual (defArgs st_InvalidPromise_init) (defBody st_InvalidPromise_init) (defScope st_InvalidPromise_init) [] [] (He.fAd U.K ("InvalidPromise", some "__init__")) fd := c.d.defs (d := dd_InvalidPromise_init) (List.mem_of_getElem? (i := 12) rfl)
theorem bi_InvalidPromise_init {fd : FuncData} {f : Addr} (F : FunD U.K dd_InvalidPromise_init.name dd_InvalidPromise_init.qual (defArgs st_InvalidPromise_init) (defBody st_InvalidPromise_init) (defScope st_InvalidPromise_init) [] [] f fd) : Binds U.K fd ["self", "value"] [] := F.bindsN fun _ _ _ _ _ _ us hl => match us, hl with | [_, _], _ => rfl
theorem sc_InvalidLine_init : FnScope ["self", "value"] ["self", "value"] (defScope st_InvalidLine_init) := ⟨rfl, rfl, rfl, by decide +kernel, rfl, by decide +kernel, by decide +kernel⟩
theorem fd_InvalidLine_init (c : Sy U) : ∃ fd, FunD U.K dd_InvalidLine_init.name dd_InvalidLine_init.qual (defArgs st_InvalidLine_init) (defBody st_InvalidLine_init) (defScope st_InvalidLine_init) [] [] (He.fAd U.K ("InvalidLine", some "__init__")) fd := c.d.defs (d := dd_InvalidLine_init) (List.mem_of_getElem? (i := 13) rfl)
theorem bi_InvalidLine_init {fd : FuncData} {f : Addr} (F : FunD U.K dd_InvalidLine_init.name dd_InvalidLine_init.qual (defArgs st_InvalidLine_init) (defBody st_InvalidLine_init) (defScope st_InvalidLine_init) [] [] f fd) : Binds U.K fd ["self", "value"] [] := F.bindsN fun _ _ _ _ _ _ us hl => match us, hl with | [_, _], _ => rfl
theorem sc_NotAGround_init : FnScope ["self", "value"] ["self", "value"] (defScope st_NotAGround_init) := ⟨rfl, rfl, rfl, by decide +kernel, rfl, by decide +kernel, by decide +kernel⟩
theorem fd_NotAGround_init (c : Sy U) : ∃ fd, FunD U.K dd_NotAGround_init.name dd_NotAGround_init.qual (defArgs st_NotAGround_init) (defBody st_NotAGround_init) (defScope st_NotAGround_init) [] [] (He.fAd U.K ("NotAGround", some "__init__")) fd := c.d.defs (d := dd_NotAGround_init) (List.mem_of_getElem? (i := 14) rfl)
theorem bi_NotAGround_init {fd : FuncData} {f : Addr} (F : FunD U.K dd_NotAGround_init.name dd_NotAGround_init.qual (defArgs st_NotAGround_init) (defBody st_NotAGround_init) (defScope st_NotAGround_init) [] [] f fd) : Binds U.K fd ["self", "value"] [] := F.bindsN fun _ _ _ _ _ _ us hl => match us, hl with | [_, _], _ => rfl
theorem sc_UnknownColour_init : FnScope ["self", "value"] ["self", "value"] (defScope st_UnknownColour_init) := ⟨rfl, rfl, rfl, by decide +kernel, rfl, by decide +kernel, by decide +kernel⟩
theorem fd_UnknownColour_init (c : Sy U) : ∃ fd, FunD U.K dd_UnknownColour_init.name dd_UnknownColour_init.qual (defArgs st_UnknownColour_init) (defBody st_UnknownColour_init) (defScope st_UnknownColour_init) [] [] (He.fAd U.K ("UnknownColour", some "__init__")) fd := c.d.defs (d := dd_UnknownColour_init) (List.mem_of_getElem? (i := 15) rfl)
theorem bi_UnknownColour_init {fd : FuncData} {f : Addr} (F : FunD U.K dd_UnknownColour_init.name dd_UnknownColour_init.qual (defArgs st_UnknownColour_init) (defBody st_UnknownColour_init) (defScope st_UnknownColour_init) [] [] f fd) : Binds U.K fd ["self", "value"] [] := F.bindsN fun _ _ _ _ _ _ us hl => match us, hl with | [_, _], _ => rfl
theorem sc_NotAround_init : FnScope ["self", "value"] ["self", "value"] (defScope st_NotAround_init) := ⟨rfl, rfl, rfl, by decide +kernel, rfl, by decide +kernel, by decide +kernel⟩
theorem fd_NotAround_init (c : Sy U) : ∃ fd, FunD U.K dd_NotAround_init.name dd_NotAround_init.qual (defArgs st_NotAround_init) (defBody st_NotAround_init) (defScope st_NotAround_init) [] [] (He.fAd U.K ("NotAround", some "__init__")) fd := c.d.defs (d := dd_NotAround_init) (List.mem_of_getElem? (i := 16) rfl)
theorem bi_NotAround_init {fd : FuncData} {f : Addr} (F : FunD U.K dd_NotAround_init.name dd_NotAround_init.qual (defArgs st_NotAround_init) (defBody st_NotAround_init) (defScope st_NotAround_init) [] [] f fd) : Binds U.K fd ["self", "value"] [] := F.bindsN fun _ _ _ _ _ _ us hl => match us, hl with | [_, _], _ => rfl
theorem sc_Refused_init : FnScope ["self", "value"] ["self", "value"] (defScope st_Refused_init) := ⟨rfl, rfl, rfl, by decide +kernel, rfl, by decide +kernel, by decide +kernel⟩
theorem fd_Refused_init (c : Sy U) : ∃ fd, FunD U.K dd_Refused_init.name dd_Refused_init.qual (defArgs st_Refused_init) (defBody st_Refused_init) (defScope st_Refused_init) [] [] (He.fAd U.K ("Refused", some "__init__")) fd := c.d.defs (d := dd_Refused_init) (List.mem_of_getElem? (i := 17) rfl)
theorem bi_Refused_init {fd : FuncData} {f : Addr} (F : FunD U.K dd_Refused_init.name dd_Refused_init.qual (defArgs st_Refused_init) (defBody st_Refused_init) (defScope st_Refused_init) [] [] f fd) : Binds U.K fd ["self", "value"] [] := F.bindsN fun _ _ _ _ _ _ us hl => match us, hl with | [_, _], _ => rfl
theorem sc_Broken_init : FnScope ["self", "index"] ["self", "index"] (defScope st_Broken_init) := ⟨rfl, rfl, rfl, by decide +kernel, rfl, by decide +kernel, by decide +kernel⟩
theorem fd_Broken_init (c : Sy U) : ∃ fd, FunD U.K dd_Broken_init.name dd_Broken_init.qual (defArgs st_Broken_init) (defBody st_Broken_init) (defScope st_Broken_init) [] [] (He.fAd U.K ("Broken", some "__init__")) fd := c.d.defs (d := dd_Broken_init) (List.mem_of_getElem? (i := 18) rfl)
theorem bi_Broken_init {fd : FuncData} {f : Addr} (F : FunD U.K dd_Broken_init.name dd_Broken_init.qual (defArgs st_Broken_init) (defBody st_Broken_init) (defScope st_Broken_init) [] [] f fd) : Binds U.K fd ["self", "index"] [] := F.bindsN fun _ _ _ _ _ _ us hl => match us, hl with | [_, _], _ => rfl
theorem sc_TooMany_init : FnScope ["self", "limit"] ["self", "limit"] (defScope st_TooMany_init) := ⟨rfl, rfl, rfl, by decide +kernel, rfl, by decide +kernel, by decide +kernel⟩
theorem fd_TooMany_init (c : Sy U) : ∃ fd, FunD U.K dd_TooMany_init.name dd_TooMany_init.qual (defArgs st_TooMany_init) (defBody st_TooMany_init) (defScope st_TooMany_init) [] [] (He.fAd U.K ("TooMany", some "__init__")) fd := c.d.defs (d := dd_TooMany_init) (List.mem_of_getElem? (i := 19) rfl)
theorem bi_TooMany_init {fd : FuncData} {f : Addr} (F : FunD U.K dd_TooMany_init.name dd_TooMany_init.qual (defArgs st_TooMany_init) (defBody st_TooMany_init) (defScope st_TooMany_init) [] [] f fd) : Binds U.K fd ["self", "limit"] [] := F.bindsN fun _ _ _ _ _ _ us hl => match us, hl with | [_, _], _ => rfl
theorem exIni_ok (c : Sy U) : ∀ p ∈ exR, ExcIni U.K (He.ma U.K (He.ga U.K p.2.1) "__init__") p.2.2.1 := by
  intro p h
  rcases List.mem_cons.mp h with rfl | h
  · obtain ⟨fd, F⟩ := fd_InvalidPoints_init c
    exact ⟨st_InvalidPoints_init, _, "index", fd, _, _, _, _, F, sc_InvalidPoints_init, bi_InvalidPoints_init F, rfl, by decide +kernel, by decide +kernel, by decide, by decide⟩
  rcases List.mem_cons.mp h with rfl | h
  · obtain ⟨fd, F⟩ := fd_InvalidColours_init c
    exact ⟨st_InvalidColours_init, _, "value", fd, _, _, _, _, F, sc_InvalidColours_init, bi_InvalidColours_init F, rfl, by decide +kernel, by decide +kernel, by decide, by decide⟩
  rcases List.mem_cons.mp h with rfl | h
  · obtain ⟨fd, F⟩ := fd_InvalidText_init c
    exact ⟨st_InvalidText_init, _, "value", fd, _, _, _, _, F, sc_InvalidText_init, bi_InvalidText_init F, rfl, by decide +kernel, by decide +kernel, by decide, by decide⟩
  rcases List.mem_cons.mp h with rfl | h
  · obtain ⟨fd, F⟩ := fd_InvalidLot_init c
    exact ⟨st_InvalidLot_init, _, "index", fd, _, _, _, _, F, sc_InvalidLot_init, bi_InvalidLot_init F, rfl, by decide +kernel, by decide +kernel, by decide, by decide⟩
  rcases List.mem_cons.mp h with rfl | h
  · obtain ⟨fd, F⟩ := fd_InvalidPick_init c
    exact ⟨st_InvalidPick_init, _, "value", fd, _, _, _, _, F, sc_InvalidPick_init, bi_InvalidPick_init F, rfl, by decide +kernel, by decide +kernel, by decide, by decide⟩
  rcases List.mem_cons.mp h with rfl | h
  · obtain ⟨fd, F⟩ := fd_InvalidIndex_init c
    exact ⟨st_InvalidIndex_init, _, "value", fd, _, _, _, _, F, sc_InvalidIndex_init, bi_InvalidIndex_init F, rfl, by decide +kernel, by decide +kernel, by decide, by decide⟩
  rcases List.mem_cons.mp h with rfl | h
  · obtain ⟨fd, F⟩ := fd_InvalidDirection_init c
    exact ⟨st_InvalidDirection_init, _, "value", fd, _, _, _, _, F, sc_InvalidDirection_init, bi_InvalidDirection_init F, rfl, by decide +kernel, by decide +kernel, by decide, by decide⟩
  rcases List.mem_cons.mp h with rfl | h
  · obtain ⟨fd, F⟩ := fd_InvalidTold_init c
    exact ⟨st_InvalidTold_init, _, "value", fd, _, _, _, _, F, sc_InvalidTold_init, bi_InvalidTold_init F, rfl, by decide +kernel, by decide +kernel, by decide, by decide⟩
  rcases List.mem_cons.mp h with rfl | h
  · obtain ⟨fd, F⟩ := fd_InvalidSeen_init c
    exact ⟨st_InvalidSeen_init, _, "index", fd, _, _, _, _, F, sc_InvalidSeen_init, bi_InvalidSeen_init F, rfl, by decide +kernel, by decide +kernel, by decide, by decide⟩
  rcases List.mem_cons.mp h with rfl | h
  · obtain ⟨fd, F⟩ := fd_InvalidDeeds_init c
    exact ⟨st_InvalidDeeds_init, _, "index", fd, _, _, _, _, F, sc_InvalidDeeds_init, bi_InvalidDeeds_init F, rfl, by decide +kernel, by decide +kernel, by decide, by decide⟩
  rcases List.mem_cons.mp h with rfl | h
  · obtain ⟨fd, F⟩ := fd_InvalidPromise_init c
    exact ⟨st_InvalidPromise_init, _, "value", fd, _, _, _, _, F, sc_InvalidPromise_init, bi_InvalidPromise_init F, rfl, by decide +kernel, by decide +kernel, by decide, by decide⟩
  rcases List.mem_cons.mp h with rfl | h
  · obtain ⟨fd, F⟩ := fd_InvalidLine_init c
    exact ⟨st_InvalidLine_init, _, "value", fd, _, _, _, _, F, sc_InvalidLine_init, bi_InvalidLine_init F, rfl, by decide +kernel, by decide +kernel, by decide, by decide⟩
  rcases List.mem_cons.mp h with rfl | h
  · obtain ⟨fd, F⟩ := fd_NotAGround_init c
    exact ⟨st_NotAGround_init, _, "value", fd, _, _, _, _, F, sc_NotAGround_init, bi_NotAGround_init F, rfl, by decide +kernel, by decide +kernel, by decide, by decide⟩
  rcases List.mem_cons.mp h with rfl | h
  · obtain ⟨fd, F⟩ := fd_UnknownColour_init c
    exact ⟨st_UnknownColour_init, _, "value", fd, _, _, _, _, F, sc_UnknownColour_init, bi_UnknownColour_init F, rfl, by decide +kernel, by decide +kernel, by decide, by decide⟩
  rcases List.mem_cons.mp h with rfl | h
  · obtain ⟨fd, F⟩ := fd_NotAround_init c
    exact ⟨st_NotAround_init, _, "value", fd, _, _, _, _, F, sc_NotAround_init, bi_NotAround_init F, rfl, by decide +kernel, by decide +kernel, by decide, by decide⟩
  rcases List.mem_cons.mp h with rfl | h
  · obtain ⟨fd, F⟩ := fd_Refused_init c
    exact ⟨st_Refused_init, _, "value", fd, _, _, _, _, F, sc_Refused_init, bi_Refused_init F, rfl, by decide +kernel, by decide +kernel, by decide, by decide⟩
  rcases List.mem_cons.mp h with rfl | h
  · obtain ⟨fd, F⟩ := fd_Broken_init c
    exact ⟨st_Broken_init, _, "index", fd, _, _, _, _, F, sc_Broken_init, bi_Broken_init F, rfl, by decide +kernel, by decide +kernel, by decide, by decide⟩
  rcases List.mem_cons.mp h with rfl | h
  · obtain ⟨fd, F⟩ := fd_TooMany_init c
    exact ⟨st_TooMany_init, _, "limit", fd, _, _, _, _, F, sc_TooMany_init, bi_TooMany_init F, rfl, by decide +kernel, by decide +kernel, by decide, by decide⟩
  cases h
theorem exA_ok (c : Sy U) : ∀ p ∈ exA, ExcAt U p.1 p.2 := excAt_of (bs := exBs) (gs := exGs) (tys := exTys) (exER_ok c) (exC_ok c) (exIni_ok c)
theorem exK_InvalidPoints (c : Sy U) : ExcAtK U "InvalidPoints" "index" := by
  obtain ⟨fd, F⟩ := fd_InvalidPoints_init c
  exact excAtK_of (bs := exBs) (gs := exGs) (tys := exTys) (p := (.ve, "InvalidPoints", "index", ["InvalidPoints", "ShapeError"], ["ValueError"])) (exER_ok c) (List.mem_of_getElem? (i := 0) rfl) (exC_ok c _ (List.mem_of_getElem? (i := 0) rfl)) ⟨st_InvalidPoints_init, _, fd, _, _, _, _, F, sc_InvalidPoints_init, bindK_of F (fun _ _ _ _ _ _ us ws h1 h2 => match us, ws, h1, h2 with | [_], [_], _, _ => rfl), rfl, by decide +kernel, by decide +kernel, by decide, by decide⟩
theorem exK_InvalidColours (c : Sy U) : ExcAtK U "InvalidColours" "value" := by
  obtain ⟨fd, F⟩ := fd_InvalidColours_init c
  exact excAtK_of (bs := exBs) (gs := exGs) (tys := exTys) (p := (.ve, "InvalidColours", "value", ["InvalidColours", "ShapeError"], ["ValueError"])) (exER_ok c) (List.mem_of_getElem? (i := 1) rfl) (exC_ok c _ (List.mem_of_getElem? (i := 1) rfl)) ⟨st_InvalidColours_init, _, fd, _, _, _, _, F, sc_InvalidColours_init, bindK_of F (fun _ _ _ _ _ _ us ws h1 h2 => match us, ws, h1, h2 with | [_], [_], _, _ => rfl), rfl, by decide +kernel, by decide +kernel, by decide, by decide⟩
theorem exK_InvalidText (c : Sy U) : ExcAtK U "InvalidText" "value" := by
  obtain ⟨fd, F⟩ := fd_InvalidText_init c
  exact excAtK_of (bs := exBs) (gs := exGs) (tys := exTys) (p := (.ve, "InvalidText", "value", ["InvalidText", "ShapeError"], ["ValueError"])) (exER_ok c) (List.mem_of_getElem? (i := 2) rfl) (exC_ok c _ (List.mem_of_getElem? (i := 2) rfl)) ⟨st_InvalidText_init, _, fd, _, _, _, _, F, sc_InvalidText_init, bindK_of F (fun _ _ _ _ _ _ us ws h1 h2 => match us, ws, h1, h2 with | [_], [_], _, _ => rfl), rfl, by decide +kernel, by decide +kernel, by decide, by decide⟩
theorem exK_InvalidLot (c : Sy U) : ExcAtK U "InvalidLot" "index" := by
  obtain ⟨fd, F⟩ := fd_InvalidLot_init c
  exact excAtK_of (bs := exBs) (gs := exGs) (tys := exTys) (p := (.ve, "InvalidLot", "index", ["InvalidLot", "ShapeError"], ["ValueError"])) (exER_ok c) (List.mem_of_getElem? (i := 3) rfl) (exC_ok c _ (List.mem_of_getElem? (i := 3) rfl)) ⟨st_InvalidLot_init, _, fd, _, _, _, _, F, sc_InvalidLot_init, bindK_of F (fun _ _ _ _ _ _ us ws h1 h2 => match us, ws, h1, h2 with | [_], [_], _, _ => rfl), rfl, by decide +kernel, by decide +kernel, by decide, by decide⟩
theorem exK_InvalidPick (c : Sy U) : ExcAtK U "InvalidPick" "value" := by
  obtain ⟨fd, F⟩ := fd_InvalidPick_init c
  exact excAtK_of (bs := exBs) (gs := exGs) (tys := exTys) (p := (.ve, "InvalidPick", "value", ["InvalidPick", "ShapeError"], ["ValueError"])) (exER_ok c) (List.mem_of_getElem? (i := 4) rfl) (exC_ok c _ (List.mem_of_getElem? (i := 4) rfl)) ⟨st_InvalidPick_init, _, fd, _, _, _, _, F, sc_InvalidPick_init, bindK_of F (fun _ _ _ _ _ _ us ws h1 h2 => match us, ws, h1, h2 with | [_], [_], _, _ => rfl), rfl, by decide +kernel, by decide +kernel, by decide, by decide⟩
theorem exK_InvalidIndex (c : Sy U) : ExcAtK U "InvalidIndex" "value" := by
  obtain ⟨fd, F⟩ := fd_InvalidIndex_init c
  exact excAtK_of (bs := exBs) (gs := exGs) (tys := exTys) (p := (.ve, "InvalidIndex", "value", ["InvalidIndex", "ShapeError"], ["ValueError"])) (exER_ok c) (List.mem_of_getElem? (i := 5) rfl) (exC_ok c _ (List.mem_of_getElem? (i := 5) rfl)) ⟨st_InvalidIndex_init, _, fd, _, _, _, _, F, sc_InvalidIndex_init, bindK_of F (fun _ _ _ _ _ _ us ws h1 h2 => match us, ws, h1, h2 with | [_], [_], _, _ => rfl), rfl, by decide +kernel, by decide +kernel, by decide, by decide⟩
theorem exK_InvalidDirection (c : Sy U) : ExcAtK U "InvalidDirection" "value" := by
  obtain ⟨fd, F⟩ := fd_InvalidDirection_init c
  exact excAtK_of (bs := exBs) (gs := exGs) (tys := exTys) (p := (.ve, "InvalidDirection", "value", ["InvalidDirection", "ShapeError"], ["ValueError"])) (exER_ok c) (List.mem_of_getElem? (i := 6) rfl) (exC_ok c _ (List.mem_of_getElem? (i := 6) rfl)) ⟨st_InvalidDirection_init, _, fd, _, _, _, _, F, sc_InvalidDirection_init, bindK_of F (fun _ _ _ _ _ _ us ws h1 h2 => match us, ws, h1, h2 with | [_], [_], _, _ => rfl), rfl, by decide +kernel, by decide +kernel, by decide, by decide⟩
theorem exK_InvalidTold (c : Sy U) : ExcAtK U "InvalidTold" "value" := by
  obtain ⟨fd, F⟩ := fd_InvalidTold_init c
  exact excAtK_of (bs := exBs) (gs := exGs) (tys := exTys) (p := (.ve, "InvalidTold", "value", ["InvalidTold", "ShapeError"], ["ValueError"])) (exER_ok c) (List.mem_of_getElem? (i := 7) rfl) (exC_ok c _ (List.mem_of_getElem? (i := 7) rfl)) ⟨st_InvalidTold_init, _, fd, _, _, _, _, F, sc_InvalidTold_init, bindK_of F (fun _ _ _ _ _ _ us ws h1 h2 => match us, ws, h1, h2 with | [_], [_], _, _ => rfl), rfl, by decide +kernel, by decide +kernel, by decide, by decide⟩
theorem exK_InvalidSeen (c : Sy U) : ExcAtK U "InvalidSeen" "index" := by
  obtain ⟨fd, F⟩ := fd_InvalidSeen_init c
  exact excAtK_of (bs := exBs) (gs := exGs) (tys := exTys) (p := (.ve, "InvalidSeen", "index", ["InvalidSeen", "ShapeError"], ["ValueError"])) (exER_ok c) (List.mem_of_getElem? (i := 8) rfl) (exC_ok c _ (List.mem_of_getElem? (i := 8) rfl)) ⟨st_InvalidSeen_init, _, fd, _, _, _, _, F, sc_InvalidSeen_init, bindK_of F (fun _ _ _ _ _ _ us ws h1 h2 => match us, ws, h1, h2 with | [_], [_], _, _ => rfl), rfl, by decide +kernel, by decide +kernel, by decide, by decide⟩
theorem exK_InvalidDeeds (c : Sy U) : ExcAtK U "InvalidDeeds" "index" := by
  obtain ⟨fd, F⟩ := fd_InvalidDeeds_init c
  exact excAtK_of (bs := exBs) (gs := exGs) (tys := exTys) (p := (.ve, "InvalidDeeds", "index", ["InvalidDeeds", "ShapeError"], ["ValueError"])) (exER_ok c) (List.mem_of_getElem? (i := 9) rfl) (exC_ok c _ (List.mem_of_getElem? (i := 9) rfl)) ⟨st_InvalidDeeds_init, _, fd, _, _, _, _, F, sc_InvalidDeeds_init, bindK_of F (fun _ _ _ _ _ _ us ws h1 h2 => match us, ws, h1, h2 with | [_], [_], _, _ => rfl), rfl, by decide +kernel, by decide +kernel, by decide, by decide⟩
theorem exK_InvalidPromise (c : Sy U) : ExcAtK U "InvalidPromise" "value" := by
  obtain ⟨fd, F⟩ := fd_InvalidPromise_init c
  exact excAtK_of (bs := exBs) (gs := exGs) (tys := exTys) (p := (.ve, "InvalidPromise", "value", ["InvalidPromise", "ShapeError"], ["ValueError"])) (exER_ok c) (List.mem_of_getElem? (i := 10) rfl) (exC_ok c _ (List.mem_of_getElem? (i := 10) rfl)) ⟨st_InvalidPromise_init, _, fd, _, _, _, _, F, sc_InvalidPromise_init, bindK_of F (fun _ _ _ _ _ _ us ws h1 h2 => match us, ws, h1, h2 with | [_], [_], _, _ => rfl), rfl, by decide +kernel, by decide +kernel, by decide, by decide⟩
theorem exK_InvalidLine (c : Sy U) : ExcAtK U "InvalidLine" "value" := by
  obtain ⟨fd, F⟩ := fd_InvalidLine_init c
  exact excAtK_of (bs := exBs) (gs := exGs) (tys := exTys) (p := (.ve, "InvalidLine", "value", ["InvalidLine", "ShapeError"], ["ValueError"])) (exER_ok c) (List.mem_of_getElem? (i := 11) rfl) (exC_ok c _ (List.mem_of_getElem? (i := 11) rfl)) ⟨st_InvalidLine_init, _, fd, _, _, _, _, F, sc_InvalidLine_init, bindK_of F (fun _ _ _ _ _ _ us ws h1 h2 => match us, ws, h1, h2 with | [_], [_], _, _ => rfl), rfl, by decide +kernel, by decide +kernel, by decide, by decide⟩
theorem exK_NotAGround (c : Sy U) : ExcAtK U "NotAGround" "value" := by
  obtain ⟨fd, F⟩ := fd_NotAGround_init c
  exact excAtK_of (bs := exBs) (gs := exGs) (tys := exTys) (p := (.ve, "NotAGround", "value", ["NotAGround", "ShapeError"], ["ValueError"])) (exER_ok c) (List.mem_of_getElem? (i := 12) rfl) (exC_ok c _ (List.mem_of_getElem? (i := 12) rfl)) ⟨st_NotAGround_init, _, fd, _, _, _, _, F, sc_NotAGround_init, bindK_of F (fun _ _ _ _ _ _ us ws h1 h2 => match us, ws, h1, h2 with | [_], [_], _, _ => rfl), rfl, by decide +kernel, by decide +kernel, by decide, by decide⟩
theorem exK_UnknownColour (c : Sy U) : ExcAtK U "UnknownColour" "value" := by
  obtain ⟨fd, F⟩ := fd_UnknownColour_init c
  exact excAtK_of (bs := exBs) (gs := exGs) (tys := exTys) (p := (.le, "UnknownColour", "value", ["UnknownColour", "QuestionError"], ["LookupError"])) (exER_ok c) (List.mem_of_getElem? (i := 13) rfl) (exC_ok c _ (List.mem_of_getElem? (i := 13) rfl)) ⟨st_UnknownColour_init, _, fd, _, _, _, _, F, sc_UnknownColour_init, bindK_of F (fun _ _ _ _ _ _ us ws h1 h2 => match us, ws, h1, h2 with | [_], [_], _, _ => rfl), rfl, by decide +kernel, by decide +kernel, by decide, by decide⟩
theorem exK_NotAround (c : Sy U) : ExcAtK U "NotAround" "value" := by
  obtain ⟨fd, F⟩ := fd_NotAround_init c
  exact excAtK_of (bs := exBs) (gs := exGs) (tys := exTys) (p := (.le, "NotAround", "value", ["NotAround", "QuestionError"], ["LookupError"])) (exER_ok c) (List.mem_of_getElem? (i := 14) rfl) (exC_ok c _ (List.mem_of_getElem? (i := 14) rfl)) ⟨st_NotAround_init, _, fd, _, _, _, _, F, sc_NotAround_init, bindK_of F (fun _ _ _ _ _ _ us ws h1 h2 => match us, ws, h1, h2 with | [_], [_], _, _ => rfl), rfl, by decide +kernel, by decide +kernel, by decide, by decide⟩
theorem exK_Refused (c : Sy U) : ExcAtK U "Refused" "value" := by
  obtain ⟨fd, F⟩ := fd_Refused_init c
  exact excAtK_of (bs := exBs) (gs := exGs) (tys := exTys) (p := (.le, "Refused", "value", ["Refused", "QuestionError"], ["LookupError"])) (exER_ok c) (List.mem_of_getElem? (i := 15) rfl) (exC_ok c _ (List.mem_of_getElem? (i := 15) rfl)) ⟨st_Refused_init, _, fd, _, _, _, _, F, sc_Refused_init, bindK_of F (fun _ _ _ _ _ _ us ws h1 h2 => match us, ws, h1, h2 with | [_], [_], _, _ => rfl), rfl, by decide +kernel, by decide +kernel, by decide, by decide⟩
theorem exK_Broken (c : Sy U) : ExcAtK U "Broken" "index" := by
  obtain ⟨fd, F⟩ := fd_Broken_init c
  exact excAtK_of (bs := exBs) (gs := exGs) (tys := exTys) (p := (.le, "Broken", "index", ["Broken", "QuestionError"], ["LookupError"])) (exER_ok c) (List.mem_of_getElem? (i := 16) rfl) (exC_ok c _ (List.mem_of_getElem? (i := 16) rfl)) ⟨st_Broken_init, _, fd, _, _, _, _, F, sc_Broken_init, bindK_of F (fun _ _ _ _ _ _ us ws h1 h2 => match us, ws, h1, h2 with | [_], [_], _, _ => rfl), rfl, by decide +kernel, by decide +kernel, by decide, by decide⟩
theorem exK_TooMany (c : Sy U) : ExcAtK U "TooMany" "limit" := by
  obtain ⟨fd, F⟩ := fd_TooMany_init c
  exact excAtK_of (bs := exBs) (gs := exGs) (tys := exTys) (p := (.ae, "TooMany", "limit", ["TooMany", "SizeError"], ["ArithmeticError"])) (exER_ok c) (List.mem_of_getElem? (i := 17) rfl) (exC_ok c _ (List.mem_of_getElem? (i := 17) rfl)) ⟨st_TooMany_init, _, fd, _, _, _, _, F, sc_TooMany_init, bindK_of F (fun _ _ _ _ _ _ us ws h1 h2 => match us, ws, h1, h2 with | [_], [_], _, _ => rfl), rfl, by decide +kernel, by decide +kernel, by decide, by decide⟩
theorem body_law_draw (c : Sy U) : SB U ⟨["_law_bag_here", "_law_wide", "_law_figure", "_law_kept", "_law_times"], defScope st_law_draw, defScope st_law_draw, none, false⟩ 0 (defBody st_law_draw) b_law_draw :=
  (ssCons (sAsg2 (sOp opAdd (sIx (wV 0 (by decide +kernel)) sInt) sInt) (g2Sub (wV 0 (by decide +kernel)) sInt))
  (ssCons (sIfElse (tCmp opGt (sIx (wV 0 (by decide +kernel)) sInt) sInt rfl) (ssCons (wSet 2 (sOp opMod (wT (by decide +kernel) (f4 c) (by decide +kernel) opInt (saCons (sIx (wV 0 (by decide +kernel)) sInt) saNil)) (wV 1 (by decide +kernel))) (by decide +kernel))
  (ssCons (sAsg2 (sOp opDiv (sIx (wV 0 (by decide +kernel)) sInt) (wV 1 (by decide +kernel))) (g2Sub (wV 0 (by decide +kernel)) sInt))
  (ssOne (sReturn (wV 2 (by decide +kernel)))))) ssNil)
  (ssCons (wSet 3 (sOp opAdd (wT (by decide +kernel) (f4 c) (by decide +kernel) opInt (saCons (sIx (wV 0 (by decide +kernel)) sInt) saNil)) (sOp opMulI sInt (sIx (wV 0 (by decide +kernel)) sInt))) (by decide +kernel))
  (ssCons (wSet 4 (sOp opAdd (sOp opMod (wT (by decide +kernel) (f4 c) (by decide +kernel) opInt (saCons (wV 3 (by decide +kernel)) saNil)) sInt) sInt) (by decide +kernel))
  (ssCons (sAsg2 (sOp opMod (wT (by decide +kernel) (f4 c) (by decide +kernel) opInt (saCons (sOp opAdd (sOp opAdd (sOp opMulI (wV 3 (by decide +kernel)) (wV 4 (by decide +kernel))) (sOp opMulI sInt (sIx (wV 0 (by decide +kernel)) sInt))) sInt) saNil)) sInt) (g2Sub (wV 0 (by decide +kernel)) sInt))
  (ssOne (sReturn (sOp opMod (sOp opDiv (wT (by decide +kernel) (f4 c) (by decide +kernel) opInt (saCons (sIx (wV 0 (by decide +kernel)) sInt) saNil)) sInt) (wV 1 (by decide +kernel))))))))))
theorem sc_law_draw : FnScope ["_law_bag_here", "_law_wide", "_law_figure", "_law_kept", "_law_times"] ["_law_bag_here", "_law_wide"] (defScope st_law_draw) := ⟨rfl, rfl, rfl, by decide +kernel, rfl, by decide +kernel, by decide +kernel⟩
theorem fd_law_draw (c : Sy U) : ∃ fd, FunD U.K dd_law_draw.name dd_law_draw.qual (defArgs st_law_draw) (defBody st_law_draw) (defScope st_law_draw) [] [] (He.fAd U.K ("_law_draw", none)) fd := c.d.defs (d := dd_law_draw) (List.mem_of_getElem? (i := 0) rfl)
theorem bi_law_draw {fd : FuncData} {f : Addr} (F : FunD U.K dd_law_draw.name dd_law_draw.qual (defArgs st_law_draw) (defBody st_law_draw) (defScope st_law_draw) [] [] f fd) : Binds U.K fd ["_law_bag_here", "_law_wide"] [] := F.bindsN fun _ _ _ _ _ _ us hl => match us, hl with | [_, _], _ => rfl
theorem sf_law_draw (c : Sy U) {fd : FuncData} {f : Addr} (F : FunD U.K dd_law_draw.name dd_law_draw.qual (defArgs st_law_draw) (defBody st_law_draw) (defScope st_law_draw) [] [] f fd) : SF U 1 f fd ["_law_bag_here", "_law_wide"] m_law_draw := defOk false (fun_of F) sc_law_draw (body_law_draw c)
theorem de_law_draw (c : Sy U) : DefAt U "_law_draw" 1 ["_law_bag_here", "_law_wide"] m_law_draw := let ⟨fd, F⟩ := fd_law_draw c; ⟨_, fd, (f37 c), F.kp, bi_law_draw F, sf_law_draw c F⟩
theorem body_law_one (c : Sy U) : SB U ⟨["_law_bag_here", "_law_some"], defScope st_law_one, defScope st_law_one, none, false⟩ 1 (defBody st_law_one) b_law_one :=
  (ssOne (sReturn (sIx (wV 1 (by decide +kernel)) (wCall (de_law_draw c) (by decide) (by decide +kernel) (saCons (wV 0 (by decide +kernel)) (saCons (wB (by decide +kernel) (f1 c) (by decide +kernel) opLen (saCons (wV 1 (by decide +kernel)) saNil)) saNil))))))
theorem sc_law_one : FnScope ["_law_bag_here", "_law_some"] ["_law_bag_here", "_law_some"] (defScope st_law_one) := ⟨rfl, rfl, rfl, by decide +kernel, rfl, by decide +kernel, by decide +kernel⟩
theorem fd_law_one (c : Sy U) : ∃ fd, FunD U.K dd_law_one.name dd_law_one.qual (defArgs st_law_one) (defBody st_law_one) (defScope st_law_one) [] [] (He.fAd U.K ("_law_one", none)) fd := c.d.defs (d := dd_law_one) (List.mem_of_getElem? (i := 1) rfl)
theorem bi_law_one {fd : FuncData} {f : Addr} (F : FunD U.K dd_law_one.name dd_law_one.qual (defArgs st_law_one) (defBody st_law_one) (defScope st_law_one) [] [] f fd) : Binds U.K fd ["_law_bag_here", "_law_some"] [] := F.bindsN fun _ _ _ _ _ _ us hl => match us, hl with | [_, _], _ => rfl
theorem sf_law_one (c : Sy U) {fd : FuncData} {f : Addr} (F : FunD U.K dd_law_one.name dd_law_one.qual (defArgs st_law_one) (defBody st_law_one) (defScope st_law_one) [] [] f fd) : SF U 2 f fd ["_law_bag_here", "_law_some"] m_law_one := defOk false (fun_of F) sc_law_one (body_law_one c)
theorem de_law_one (c : Sy U) : DefAt U "_law_one" 2 ["_law_bag_here", "_law_some"] m_law_one := let ⟨fd, F⟩ := fd_law_one c; ⟨_, fd, (f38 c), F.kp, bi_law_one F, sf_law_one c F⟩
theorem body_law_made_ones (c : Sy U) : SB U ⟨["_law_thing", "_law_found"], defScope st_law_made_ones, defScope st_law_made_ones, none, false⟩ 0 (defBody st_law_made_ones) b_law_made_ones :=
  (ssCons (wSet 1 (sLst (saCons (wMkX (exA_ok c ("InvalidPoints", "index") (by decide)) (by decide +kernel) (saCons (wV 0 (by decide +kernel)) saNil)) (saCons (wMkX (exA_ok c ("InvalidColours", "value") (by decide)) (by decide +kernel) (saCons (wV 0 (by decide +kernel)) saNil)) (saCons (wMkX (exA_ok c ("InvalidText", "value") (by decide)) (by decide +kernel) (saCons (wV 0 (by decide +kernel)) saNil)) (saCons (wMkX (exA_ok c ("InvalidLot", "index") (by decide)) (by decide +kernel) (saCons (wV 0 (by decide +kernel)) saNil)) saNil))))) (by decide +kernel))
  (ssCons (wSet 1 (sOp opAdd (wV 1 (by decide +kernel)) (sLst (saCons (wMkX (exA_ok c ("InvalidPick", "value") (by decide)) (by decide +kernel) (saCons (wV 0 (by decide +kernel)) saNil)) (saCons (wMkX (exA_ok c ("InvalidIndex", "value") (by decide)) (by decide +kernel) (saCons (wV 0 (by decide +kernel)) saNil)) (saCons (wMkX (exA_ok c ("InvalidDirection", "value") (by decide)) (by decide +kernel) (saCons (wV 0 (by decide +kernel)) saNil)) (saCons (wMkX (exA_ok c ("InvalidTold", "value") (by decide)) (by decide +kernel) (saCons (wV 0 (by decide +kernel)) saNil)) saNil)))))) (by decide +kernel))
  (ssCons (wSet 1 (sOp opAdd (wV 1 (by decide +kernel)) (sLst (saCons (wMkX (exA_ok c ("InvalidSeen", "index") (by decide)) (by decide +kernel) (saCons (wV 0 (by decide +kernel)) saNil)) (saCons (wMkX (exA_ok c ("InvalidDeeds", "index") (by decide)) (by decide +kernel) (saCons (wV 0 (by decide +kernel)) saNil)) (saCons (wMkX (exA_ok c ("InvalidPromise", "value") (by decide)) (by decide +kernel) (saCons (wV 0 (by decide +kernel)) saNil)) (saCons (wMkX (exA_ok c ("InvalidLine", "value") (by decide)) (by decide +kernel) (saCons (wV 0 (by decide +kernel)) saNil)) saNil)))))) (by decide +kernel))
  (ssCons (wSet 1 (sOp opAdd (wV 1 (by decide +kernel)) (sLst (saCons (wMkX (exA_ok c ("NotAGround", "value") (by decide)) (by decide +kernel) (saCons (wV 0 (by decide +kernel)) saNil)) (saCons (wMkX (exA_ok c ("UnknownColour", "value") (by decide)) (by decide +kernel) (saCons (wV 0 (by decide +kernel)) saNil)) (saCons (wMkX (exA_ok c ("NotAround", "value") (by decide)) (by decide +kernel) (saCons (wV 0 (by decide +kernel)) saNil)) (saCons (wMkX (exA_ok c ("Refused", "value") (by decide)) (by decide +kernel) (saCons (wV 0 (by decide +kernel)) saNil)) saNil)))))) (by decide +kernel))
  (ssCons (wSet 1 (sOp opAdd (wV 1 (by decide +kernel)) (sLst (saCons (wMkX (exA_ok c ("Broken", "index") (by decide)) (by decide +kernel) (saCons (wV 0 (by decide +kernel)) saNil)) (saCons (wMkX (exA_ok c ("TooMany", "limit") (by decide)) (by decide +kernel) (saCons (wV 0 (by decide +kernel)) saNil)) saNil)))) (by decide +kernel))
  (ssCons (wSet 1 (sOp opAdd (wV 1 (by decide +kernel)) (sLst (saCons (wMkXK (exK_InvalidPoints c) (by decide +kernel) (skCons (wV 0 (by decide +kernel)) skNil)) (saCons (wMkXK (exK_InvalidColours c) (by decide +kernel) (skCons (wV 0 (by decide +kernel)) skNil)) (saCons (wMkXK (exK_InvalidText c) (by decide +kernel) (skCons (wV 0 (by decide +kernel)) skNil)) saNil))))) (by decide +kernel))
  (ssCons (wSet 1 (sOp opAdd (wV 1 (by decide +kernel)) (sLst (saCons (wMkXK (exK_InvalidLot c) (by decide +kernel) (skCons (wV 0 (by decide +kernel)) skNil)) (saCons (wMkXK (exK_InvalidPick c) (by decide +kernel) (skCons (wV 0 (by decide +kernel)) skNil)) (saCons (wMkXK (exK_InvalidIndex c) (by decide +kernel) (skCons (wV 0 (by decide +kernel)) skNil)) saNil))))) (by decide +kernel))
  (ssCons (wSet 1 (sOp opAdd (wV 1 (by decide +kernel)) (sLst (saCons (wMkXK (exK_InvalidDirection c) (by decide +kernel) (skCons (wV 0 (by decide +kernel)) skNil)) (saCons (wMkXK (exK_InvalidTold c) (by decide +kernel) (skCons (wV 0 (by decide +kernel)) skNil)) (saCons (wMkXK (exK_InvalidSeen c) (by decide +kernel) (skCons (wV 0 (by decide +kernel)) skNil)) saNil))))) (by decide +kernel))
  (ssCons (wSet 1 (sOp opAdd (wV 1 (by decide +kernel)) (sLst (saCons (wMkXK (exK_InvalidDeeds c) (by decide +kernel) (skCons (wV 0 (by decide +kernel)) skNil)) (saCons (wMkXK (exK_InvalidPromise c) (by decide +kernel) (skCons (wV 0 (by decide +kernel)) skNil)) (saCons (wMkXK (exK_InvalidLine c) (by decide +kernel) (skCons (wV 0 (by decide +kernel)) skNil)) saNil))))) (by decide +kernel))
  (ssCons (wSet 1 (sOp opAdd (wV 1 (by decide +kernel)) (sLst (saCons (wMkXK (exK_NotAGround c) (by decide +kernel) (skCons (wV 0 (by decide +kernel)) skNil)) (saCons (wMkXK (exK_UnknownColour c) (by decide +kernel) (skCons (wV 0 (by decide +kernel)) skNil)) (saCons (wMkXK (exK_NotAround c) (by decide +kernel) (skCons (wV 0 (by decide +kernel)) skNil)) saNil))))) (by decide +kernel))
  (ssCons (wSet 1 (sOp opAdd (wV 1 (by decide +kernel)) (sLst (saCons (wMkXK (exK_Refused c) (by decide +kernel) (skCons (wV 0 (by decide +kernel)) skNil)) (saCons (wMkXK (exK_Broken c) (by decide +kernel) (skCons (wV 0 (by decide +kernel)) skNil)) (saCons (wMkXK (exK_TooMany c) (by decide +kernel) (skCons (wV 0 (by decide +kernel)) skNil)) saNil))))) (by decide +kernel))
  (ssOne (sReturn (wV 1 (by decide +kernel)))))))))))))))
theorem sc_law_made_ones : FnScope ["_law_thing", "_law_found"] ["_law_thing"] (defScope st_law_made_ones) := ⟨rfl, rfl, rfl, by decide +kernel, rfl, by decide +kernel, by decide +kernel⟩
theorem fd_law_made_ones (c : Sy U) : ∃ fd, FunD U.K dd_law_made_ones.name dd_law_made_ones.qual (defArgs st_law_made_ones) (defBody st_law_made_ones) (defScope st_law_made_ones) [] [] (He.fAd U.K ("_law_made_ones", none)) fd := c.d.defs (d := dd_law_made_ones) (List.mem_of_getElem? (i := 20) rfl)
theorem bi_law_made_ones {fd : FuncData} {f : Addr} (F : FunD U.K dd_law_made_ones.name dd_law_made_ones.qual (defArgs st_law_made_ones) (defBody st_law_made_ones) (defScope st_law_made_ones) [] [] f fd) : Binds U.K fd ["_law_thing"] [] := F.bindsN fun _ _ _ _ _ _ us hl => match us, hl with | [_], _ => rfl
theorem sf_law_made_ones (c : Sy U) {fd : FuncData} {f : Addr} (F : FunD U.K dd_law_made_ones.name dd_law_made_ones.qual (defArgs st_law_made_ones) (defBody st_law_made_ones) (defScope st_law_made_ones) [] [] f fd) : SF U 1 f fd ["_law_thing"] m_law_made_ones := defOk false (fun_of F) sc_law_made_ones (body_law_made_ones c)
theorem de_law_made_ones (c : Sy U) : DefAt U "_law_made_ones" 1 ["_law_thing"] m_law_made_ones := let ⟨fd, F⟩ := fd_law_made_ones c; ⟨_, fd, (f39 c), F.kp, bi_law_made_ones F, sf_law_made_ones c F⟩
theorem body_law_kind_of (c : Sy U) : SB U ⟨["_law_e", "_law_found"], defScope st_law_kind_of, defScope st_law_kind_of, none, false⟩ 0 (defBody st_law_kind_of) b_law_kind_of :=
  (ssCons (wSet 1 (sLst (saCons (wBH (by decide +kernel) (f6 c) (by decide +kernel) (opIsiE (exI_e c)) (saCons (wV 0 (by decide +kernel)) (saCons (wGR (by decide +kernel) (f5 c)) saNil))) (saCons (wBH (by decide +kernel) (f6 c) (by decide +kernel) (opIsiE (exI_e c)) (saCons (wV 0 (by decide +kernel)) (saCons (wGR (by decide +kernel) (f7 c)) saNil))) (saCons (wBH (by decide +kernel) (f6 c) (by decide +kernel) (opIsiE (exI_e c)) (saCons (wV 0 (by decide +kernel)) (saCons (wGR (by decide +kernel) (f8 c)) saNil))) saNil)))) (by decide +kernel))
  (ssCons (wSet 1 (sOp opAdd (wV 1 (by decide +kernel)) (sLst (saCons (wBH (by decide +kernel) (f6 c) (by decide +kernel) (opIsiE (exI_e c)) (saCons (wV 0 (by decide +kernel)) (saCons (wGR (by decide +kernel) (f9 c)) saNil))) (saCons (wBH (by decide +kernel) (f6 c) (by decide +kernel) (opIsiE (exI_e c)) (saCons (wV 0 (by decide +kernel)) (saCons (wGR (by decide +kernel) (f10 c)) saNil))) (saCons (wBH (by decide +kernel) (f6 c) (by decide +kernel) (opIsiE (exI_e c)) (saCons (wV 0 (by decide +kernel)) (saCons (wGR (by decide +kernel) (f11 c)) saNil))) saNil))))) (by decide +kernel))
  (ssCons (wSet 1 (sOp opAdd (wV 1 (by decide +kernel)) (sLst (saCons (wBH (by decide +kernel) (f6 c) (by decide +kernel) (opIsiE (exI_e c)) (saCons (wV 0 (by decide +kernel)) (saCons (wGR (by decide +kernel) (f12 c)) saNil))) (saCons (wBH (by decide +kernel) (f6 c) (by decide +kernel) (opIsiE (exI_e c)) (saCons (wV 0 (by decide +kernel)) (saCons (wGR (by decide +kernel) (f13 c)) saNil))) saNil)))) (by decide +kernel))
  (ssCons (wSet 1 (sOp opAdd (wV 1 (by decide +kernel)) (sLst (saCons (wBH (by decide +kernel) (f6 c) (by decide +kernel) (opIsiE (exI_e c)) (saCons (wV 0 (by decide +kernel)) (saCons (wGR (by decide +kernel) (f14 c)) saNil))) (saCons (wBH (by decide +kernel) (f6 c) (by decide +kernel) (opIsiE (exI_e c)) (saCons (wV 0 (by decide +kernel)) (saCons (wGR (by decide +kernel) (f15 c)) saNil))) saNil)))) (by decide +kernel))
  (ssCons (wSet 1 (sOp opAdd (wV 1 (by decide +kernel)) (sLst (saCons (wBH (by decide +kernel) (f6 c) (by decide +kernel) (opIsiE (exI_e c)) (saCons (wV 0 (by decide +kernel)) (saCons (wGR (by decide +kernel) (f16 c)) saNil))) (saCons (wBH (by decide +kernel) (f6 c) (by decide +kernel) (opIsiE (exI_e c)) (saCons (wV 0 (by decide +kernel)) (saCons (wGR (by decide +kernel) (f17 c)) saNil))) (saCons (wBH (by decide +kernel) (f6 c) (by decide +kernel) (opIsiE (exI_e c)) (saCons (wV 0 (by decide +kernel)) (saCons (wGR (by decide +kernel) (f18 c)) saNil))) saNil))))) (by decide +kernel))
  (ssCons (wSet 1 (sOp opAdd (wV 1 (by decide +kernel)) (sLst (saCons (wBH (by decide +kernel) (f6 c) (by decide +kernel) (opIsiE (exI_e c)) (saCons (wV 0 (by decide +kernel)) (saCons (wGR (by decide +kernel) (f19 c)) saNil))) (saCons (wBH (by decide +kernel) (f6 c) (by decide +kernel) (opIsiE (exI_e c)) (saCons (wV 0 (by decide +kernel)) (saCons (wGR (by decide +kernel) (f20 c)) saNil))) (saCons (wBH (by decide +kernel) (f6 c) (by decide +kernel) (opIsiE (exI_e c)) (saCons (wV 0 (by decide +kernel)) (saCons (wGR (by decide +kernel) (f21 c)) saNil))) saNil))))) (by decide +kernel))
  (ssCons (wSet 1 (sOp opAdd (wV 1 (by decide +kernel)) (sLst (saCons (wBH (by decide +kernel) (f6 c) (by decide +kernel) (opIsiE (exI_e c)) (saCons (wV 0 (by decide +kernel)) (saCons (wGR (by decide +kernel) (f22 c)) saNil))) (saCons (wBH (by decide +kernel) (f6 c) (by decide +kernel) (opIsiE (exI_e c)) (saCons (wV 0 (by decide +kernel)) (saCons (wGR (by decide +kernel) (f23 c)) saNil))) saNil)))) (by decide +kernel))
  (ssOne (sReturn (wV 1 (by decide +kernel)))))))))))
theorem sc_law_kind_of : FnScope ["_law_e", "_law_found"] ["_law_e"] (defScope st_law_kind_of) := ⟨rfl, rfl, rfl, by decide +kernel, rfl, by decide +kernel, by decide +kernel⟩
theorem fd_law_kind_of (c : Sy U) : ∃ fd, FunD U.K dd_law_kind_of.name dd_law_kind_of.qual (defArgs st_law_kind_of) (defBody st_law_kind_of) (defScope st_law_kind_of) [] [] (He.fAd U.K ("_law_kind_of", none)) fd := c.d.defs (d := dd_law_kind_of) (List.mem_of_getElem? (i := 21) rfl)
theorem bi_law_kind_of {fd : FuncData} {f : Addr} (F : FunD U.K dd_law_kind_of.name dd_law_kind_of.qual (defArgs st_law_kind_of) (defBody st_law_kind_of) (defScope st_law_kind_of) [] [] f fd) : Binds U.K fd ["_law_e"] [] := F.bindsN fun _ _ _ _ _ _ us hl => match us, hl with | [_], _ => rfl
theorem sf_law_kind_of (c : Sy U) {fd : FuncData} {f : Addr} (F : FunD U.K dd_law_kind_of.name dd_law_kind_of.qual (defArgs st_law_kind_of) (defBody st_law_kind_of) (defScope st_law_kind_of) [] [] f fd) : SF U 1 f fd ["_law_e"] m_law_kind_of := defOk false (fun_of F) sc_law_kind_of (body_law_kind_of c)
theorem de_law_kind_of (c : Sy U) : DefAt U "_law_kind_of" 1 ["_law_e"] m_law_kind_of := let ⟨fd, F⟩ := fd_law_kind_of c; ⟨_, fd, (f40 c), F.kp, bi_law_kind_of F, sf_law_kind_of c F⟩
theorem body_law_bases (c : Sy U) : SB U ⟨["_law_e", "_law_found"], defScope st_law_bases, defScope st_law_bases, none, false⟩ 0 (defBody st_law_bases) b_law_bases :=
  (ssCons (wSet 1 (sLst (saCons (wBH (by decide +kernel) (f6 c) (by decide +kernel) (opIsiE (exI_e c)) (saCons (wV 0 (by decide +kernel)) (saCons (wGR (by decide +kernel) (f24 c)) saNil))) (saCons (wBH (by decide +kernel) (f6 c) (by decide +kernel) (opIsiE (exI_e c)) (saCons (wV 0 (by decide +kernel)) (saCons (wGR (by decide +kernel) (f25 c)) saNil))) (saCons (wBH (by decide +kernel) (f6 c) (by decide +kernel) (opIsiE (exI_e c)) (saCons (wV 0 (by decide +kernel)) (saCons (wGR (by decide +kernel) (f26 c)) saNil))) saNil)))) (by decide +kernel))
  (ssOne (sReturn (sOp opAdd (wV 1 (by decide +kernel)) (sLst (saCons (wBH (by decide +kernel) (f6 c) (by decide +kernel) (opIsiE (exI_e c)) (saCons (wV 0 (by decide +kernel)) (saCons (wTy (by decide +kernel) (f27 c) (by decide +kernel)) saNil))) (saCons (wBH (by decide +kernel) (f6 c) (by decide +kernel) (opIsiE (exI_e c)) (saCons (wV 0 (by decide +kernel)) (saCons (wTy (by decide +kernel) (f28 c) (by decide +kernel)) saNil))) (saCons (wBH (by decide +kernel) (f6 c) (by decide +kernel) (opIsiE (exI_e c)) (saCons (wV 0 (by decide +kernel)) (saCons (wTy (by decide +kernel) (f29 c) (by decide +kernel)) saNil))) saNil))))))))
theorem sc_law_bases : FnScope ["_law_e", "_law_found"] ["_law_e"] (defScope st_law_bases) := ⟨rfl, rfl, rfl, by decide +kernel, rfl, by decide +kernel, by decide +kernel⟩
theorem fd_law_bases (c : Sy U) : ∃ fd, FunD U.K dd_law_bases.name dd_law_bases.qual (defArgs st_law_bases) (defBody st_law_bases) (defScope st_law_bases) [] [] (He.fAd U.K ("_law_bases", none)) fd := c.d.defs (d := dd_law_bases) (List.mem_of_getElem? (i := 22) rfl)
theorem bi_law_bases {fd : FuncData} {f : Addr} (F : FunD U.K dd_law_bases.name dd_law_bases.qual (defArgs st_law_bases) (defBody st_law_bases) (defScope st_law_bases) [] [] f fd) : Binds U.K fd ["_law_e"] [] := F.bindsN fun _ _ _ _ _ _ us hl => match us, hl with | [_], _ => rfl
theorem sf_law_bases (c : Sy U) {fd : FuncData} {f : Addr} (F : FunD U.K dd_law_bases.name dd_law_bases.qual (defArgs st_law_bases) (defBody st_law_bases) (defScope st_law_bases) [] [] f fd) : SF U 1 f fd ["_law_e"] m_law_bases := defOk false (fun_of F) sc_law_bases (body_law_bases c)
theorem de_law_bases (c : Sy U) : DefAt U "_law_bases" 1 ["_law_e"] m_law_bases := let ⟨fd, F⟩ := fd_law_bases c; ⟨_, fd, (f41 c), F.kp, bi_law_bases F, sf_law_bases c F⟩
theorem body_law_attribute (c : Sy U) : SB U ⟨["_law_e", "_law_at"], defScope st_law_attribute, defScope st_law_attribute, none, false⟩ 0 (defBody st_law_attribute) b_law_attribute :=
  (ssCons (sIfElse (tCmp opIn (wV 1 (by decide +kernel)) (sLst (saCons sInt (saCons sInt (saCons sInt (saCons sInt (saCons sInt saNil)))))) rfl) (ssOne (sReturn (wAttrE (exA_ok c) (wV 0 (by decide +kernel))))) ssNil)
  (ssOne (sReturn (sIf (tCmp opEq (wV 1 (by decide +kernel)) sInt rfl) (wAttrE (exA_ok c) (wV 0 (by decide +kernel))) (wAttrE (exA_ok c) (wV 0 (by decide +kernel)))))))
theorem sc_law_attribute : FnScope ["_law_e", "_law_at"] ["_law_e", "_law_at"] (defScope st_law_attribute) := ⟨rfl, rfl, rfl, by decide +kernel, rfl, by decide +kernel, by decide +kernel⟩
theorem fd_law_attribute (c : Sy U) : ∃ fd, FunD U.K dd_law_attribute.name dd_law_attribute.qual (defArgs st_law_attribute) (defBody st_law_attribute) (defScope st_law_attribute) [] [] (He.fAd U.K ("_law_attribute", none)) fd := c.d.defs (d := dd_law_attribute) (List.mem_of_getElem? (i := 23) rfl)
theorem bi_law_attribute {fd : FuncData} {f : Addr} (F : FunD U.K dd_law_attribute.name dd_law_attribute.qual (defArgs st_law_attribute) (defBody st_law_attribute) (defScope st_law_attribute) [] [] f fd) : Binds U.K fd ["_law_e", "_law_at"] [] := F.bindsN fun _ _ _ _ _ _ us hl => match us, hl with | [_, _], _ => rfl
theorem sf_law_attribute (c : Sy U) {fd : FuncData} {f : Addr} (F : FunD U.K dd_law_attribute.name dd_law_attribute.qual (defArgs st_law_attribute) (defBody st_law_attribute) (defScope st_law_attribute) [] [] f fd) : SF U 1 f fd ["_law_e", "_law_at"] m_law_attribute := defOk false (fun_of F) sc_law_attribute (body_law_attribute c)
theorem de_law_attribute (c : Sy U) : DefAt U "_law_attribute" 1 ["_law_e", "_law_at"] m_law_attribute := let ⟨fd, F⟩ := fd_law_attribute c; ⟨_, fd, (f42 c), F.kp, bi_law_attribute F, sf_law_attribute c F⟩
theorem body_law_right (c : Sy U) : SB U ⟨["_law_bag_here", "_law_turn", "_law_some", "_law_thing", "_law_made", "_law_k", "_law_e", "_law_at", "_law_due", "_law_j", "_law_found", "_law_which"], defScope st_law_right, defScope st_law_right, none, false⟩ 2 (defBody st_law_right) b_law_right :=
  (ssCons (sForIn (wRg1 (by decide +kernel) (f0 c) sInt) (wgN 1 (by decide +kernel)) (ssCons (wSet 2 (sLst (saCons sNon (saCons sInt (saCons sStr (saCons (sTup (saCons sInt (saCons sInt saNil))) (saCons (sLst (saCons sInt saNil)) (saCons sDic0 (saCons sBl (saCons (sNeg sInt) (saCons (sTup (saCons sInt (saCons sInt saNil))) (saCons (sOp opPow sInt sInt) (saCons sStr saNil)))))))))))) (by decide +kernel))
  (ssCons (wSet 3 (wCall (de_law_one c) (by decide) (by decide +kernel) (saCons (wV 0 (by decide +kernel)) (saCons (wV 2 (by decide +kernel)) saNil))) (by decide +kernel))
  (ssCons (wSet 4 (wCall (de_law_made_ones c) (by decide) (by decide +kernel) (saCons (wV 3 (by decide +kernel)) saNil)) (by decide +kernel))
  (ssCons (sForIn (wRg1 (by decide +kernel) (f0 c) sInt) (wgN 5 (by decide +kernel)) (ssCons (sAsg2 (sTup (saCons (sIx (wV 4 (by decide +kernel)) (wV 5 (by decide +kernel))) (saCons (sOp opMod (wT (by decide +kernel) (f4 c) (by decide +kernel) opInt (saCons (wV 5 (by decide +kernel)) saNil)) sInt) saNil))) (g2Tup (g2Cons (wg2 6 (by decide +kernel)) (g2Cons (wg2 7 (by decide +kernel)) g2Nil))) (hw := by intro env h; cases env; cases h; rfl))
  (ssCons (wSet 8 (sLst (saCons (sCmp opLt (wV 7 (by decide +kernel)) sInt rfl) (saCons (sChain opLe opLt sInt (wV 7 (by decide +kernel)) sInt rfl) (saCons (sCmp opEq (wV 7 (by decide +kernel)) sInt rfl) saNil)))) (by decide +kernel))
  (ssCons (sIfElse (tBoolOp (swOr (tCmp opNe (wCall (de_law_kind_of c) (by decide) (by decide +kernel) (saCons (wV 6 (by decide +kernel)) saNil)) (wLc [("_law_j", 9)] (wRg1 (by decide +kernel) (f0 c) sInt) (wgN 9 (by decide +kernel)) ifsNil (sCmp opEq (wV 9 (by decide +kernel)) (wV 7 (by decide +kernel)) rfl) (by decide +kernel)) rfl) (swOneO (tCmp opNe (wCall (de_law_bases c) (by decide) (by decide +kernel) (saCons (wV 6 (by decide +kernel)) saNil)) (sOp opAdd (wV 8 (by decide +kernel)) (wV 8 (by decide +kernel))) rfl)))) (ssOne (sReturn sBl)) ssNil)
  (ssOne (sIfElse (tCmp opNe (wB (by decide +kernel) (f30 c) (by decide +kernel) opReprX (saCons (wCall (de_law_attribute c) (by decide) (by decide +kernel) (saCons (wV 6 (by decide +kernel)) (saCons (wV 7 (by decide +kernel)) saNil))) saNil)) (wB (by decide +kernel) (f30 c) (by decide +kernel) opReprX (saCons (wV 3 (by decide +kernel)) saNil)) rfl) (ssOne (sReturn sBl)) ssNil))))))
  (ssCons (wSet 10 (sLst (saCons (wMkX0 (exN_NoCompletion c) (by decide +kernel)) (saCons (wMkX0 (exN_Busy c) (by decide +kernel)) (saCons (wMkX0 (exN_NothingToUndo c) (by decide +kernel)) saNil)))) (by decide +kernel))
  (ssOne (sForIn (wEnum (by decide +kernel) (f31 c) (wV 10 (by decide +kernel))) (sgTup (wgsC 5 (by decide +kernel) (wgsC 6 (by decide +kernel) sgsNil)) rfl) (ssCons (sIfElse (tBoolOp (swOr (tCmp opNe (wCall (de_law_bases c) (by decide) (by decide +kernel) (saCons (wV 6 (by decide +kernel)) saNil)) (sOp opMul (sLst (saCons sBl (saCons sBl (saCons sBl saNil)))) sInt) rfl) (swOneO (tCmp opIn sBl (wCall (de_law_kind_of c) (by decide) (by decide +kernel) (saCons (wV 6 (by decide +kernel)) saNil)) rfl)))) (ssOne (sReturn sBl)) ssNil)
  (ssCons (wSet 11 (sLst (saCons (wBH (by decide +kernel) (f6 c) (by decide +kernel) (opIsiE (exI_e c)) (saCons (wV 6 (by decide +kernel)) (saCons (wGR (by decide +kernel) (f32 c)) saNil))) (saCons (wBH (by decide +kernel) (f6 c) (by decide +kernel) (opIsiE (exI_e c)) (saCons (wV 6 (by decide +kernel)) (saCons (wGR (by decide +kernel) (f33 c)) saNil))) (saCons (wBH (by decide +kernel) (f6 c) (by decide +kernel) (opIsiE (exI_e c)) (saCons (wV 6 (by decide +kernel)) (saCons (wGR (by decide +kernel) (f34 c)) saNil))) saNil)))) (by decide +kernel))
  (ssOne (sIfElse (tCmp opNe (wV 11 (by decide +kernel)) (wLc [("_law_j", 9)] (wRg1 (by decide +kernel) (f0 c) sInt) (wgN 9 (by decide +kernel)) ifsNil (sCmp opEq (wV 5 (by decide +kernel)) (wV 9 (by decide +kernel)) rfl) (by decide +kernel)) rfl) (ssOne (sReturn sBl)) ssNil))))))))))))
  (ssOne (sReturn sBl)))
theorem sc_law_right : FnScope ["_law_bag_here", "_law_turn", "_law_some", "_law_thing", "_law_made", "_law_k", "_law_e", "_law_at", "_law_due", "_law_j", "_law_found", "_law_which"] ["_law_bag_here"] (defScope st_law_right) := ⟨rfl, rfl, rfl, by decide +kernel, rfl, by decide +kernel, by decide +kernel⟩
theorem fd_law_right (c : Sy U) : ∃ fd, FunD U.K dd_law_right.name dd_law_right.qual (defArgs st_law_right) (defBody st_law_right) (defScope st_law_right) [] [] (He.fAd U.K ("_law_right", none)) fd := c.d.defs (d := dd_law_right) (List.mem_of_getElem? (i := 24) rfl)
theorem bi_law_right {fd : FuncData} {f : Addr} (F : FunD U.K dd_law_right.name dd_law_right.qual (defArgs st_law_right) (defBody st_law_right) (defScope st_law_right) [] [] f fd) : Binds U.K fd ["_law_bag_here"] [] := F.bindsN fun _ _ _ _ _ _ us hl => match us, hl with | [_], _ => rfl
theorem sf_law_right (c : Sy U) {fd : FuncData} {f : Addr} (F : FunD U.K dd_law_right.name dd_law_right.qual (defArgs st_law_right) (defBody st_law_right) (defScope st_law_right) [] [] f fd) : SF U 3 f fd ["_law_bag_here"] m_law_right := defOk false (fun_of F) sc_law_right (body_law_right c)
theorem de_law_right (c : Sy U) : DefAt U "_law_right" 3 ["_law_bag_here"] m_law_right := let ⟨fd, F⟩ := fd_law_right c; ⟨_, fd, (f43 c), F.kp, bi_law_right F, sf_law_right c F⟩
theorem body_law_bag (c : Sy U) : SB U ⟨["_law_script", "_law_k", "_law_held_cell", "_law_seed", "_law_this", "_law_held_signs"], defScope st_law_bag, defScope st_law_bag, none, false⟩ 0 (defBody st_law_bag) b_law_bag :=
  (ssCons (wPar2 2 3 (by decide +kernel) (by decide +kernel) (by decide) (sIf (tCmp opLt (wV 1 (by decide +kernel)) (wB (by decide +kernel) (f1 c) (by decide +kernel) opLen (saCons (wV 0 (by decide +kernel)) saNil)) rfl) (wT (by decide +kernel) (f4 c) (by decide +kernel) opInt (saCons (sIx (wV 0 (by decide +kernel)) (wV 1 (by decide +kernel))) saNil)) sInt) (sOp opMulI sInt (sOp opAdd (wV 1 (by decide +kernel)) sInt)) (by intro env h; cases env; cases h; rfl))
  (ssCons (sForIn (siAny (sSl (wV 0 (by decide +kernel)) soNone (soSome sInt))) (wgN 4 (by decide +kernel)) (ssOne (wSet 3 (sOp opMod (wT (by decide +kernel) (f4 c) (by decide +kernel) opInt (saCons (sOp opAdd (sOp opAdd (sOp opMulI (wV 3 (by decide +kernel)) sInt) (sOp opMod (wT (by decide +kernel) (f4 c) (by decide +kernel) opInt (saCons (wV 4 (by decide +kernel)) saNil)) sInt)) (sOp opMulI sInt (wV 1 (by decide +kernel)))) saNil)) sInt) (by decide +kernel))))
  (ssCons (wSet 5 (sIf (tBoolOp (swOr (tCmp opLt (wV 2 (by decide +kernel)) sInt rfl) (swOneO (tCmp opGe (wV 2 (by decide +kernel)) (sOp opPow sInt sInt) rfl)))) (wB (by decide +kernel) (f35 c) (by decide +kernel) opAbs (saCons (wV 2 (by decide +kernel)) saNil)) sInt) (by decide +kernel))
  (ssOne (sReturn (sMut (saCons (wV 5 (by decide +kernel)) (saCons (sOp opMod (wT (by decide +kernel) (f4 c) (by decide +kernel) opInt (saCons (sOp opAdd (wV 3 (by decide +kernel)) (sOp opMulI sInt (sOp opMod (wT (by decide +kernel) (f4 c) (by decide +kernel) opInt (saCons (wV 2 (by decide +kernel)) saNil)) sInt))) saNil)) sInt) (saCons sInt saNil)))))))))
theorem sc_law_bag : FnScope ["_law_script", "_law_k", "_law_held_cell", "_law_seed", "_law_this", "_law_held_signs"] ["_law_script", "_law_k"] (defScope st_law_bag) := ⟨rfl, rfl, rfl, by decide +kernel, rfl, by decide +kernel, by decide +kernel⟩
theorem fd_law_bag (c : Sy U) : ∃ fd, FunD U.K dd_law_bag.name dd_law_bag.qual (defArgs st_law_bag) (defBody st_law_bag) (defScope st_law_bag) [] [] (He.fAd U.K ("_law_bag", none)) fd := c.d.defs (d := dd_law_bag) (List.mem_of_getElem? (i := 25) rfl)
theorem bi_law_bag {fd : FuncData} {f : Addr} (F : FunD U.K dd_law_bag.name dd_law_bag.qual (defArgs st_law_bag) (defBody st_law_bag) (defScope st_law_bag) [] [] f fd) : Binds U.K fd ["_law_script", "_law_k"] [] := F.bindsN fun _ _ _ _ _ _ us hl => match us, hl with | [_, _], _ => rfl
theorem sf_law_bag (c : Sy U) {fd : FuncData} {f : Addr} (F : FunD U.K dd_law_bag.name dd_law_bag.qual (defArgs st_law_bag) (defBody st_law_bag) (defScope st_law_bag) [] [] f fd) : SF U 1 f fd ["_law_script", "_law_k"] m_law_bag := defOk false (fun_of F) sc_law_bag (body_law_bag c)
theorem de_law_bag (c : Sy U) : DefAt U "_law_bag" 1 ["_law_script", "_law_k"] m_law_bag := let ⟨fd, F⟩ := fd_law_bag c; ⟨_, fd, (f44 c), F.kp, bi_law_bag F, sf_law_bag c F⟩
theorem body_law (c : Sy U) : SB U ⟨["_law_script", "_law_k"], defScope st_law, defScope st_law, none, false⟩ 3 (defBody st_law) b_law :=
  (ssOne (sReturn (wB (by decide +kernel) (f36 c) (by decide +kernel) opAll (saCons (wLc [("_law_k", 1)] (wRg1 (by decide +kernel) (f0 c) (wB (by decide +kernel) (f3 c) (by decide +kernel) opMax (saCons sInt (saCons (wB (by decide +kernel) (f2 c) (by decide +kernel) opMin (saCons (wB (by decide +kernel) (f1 c) (by decide +kernel) opLen (saCons (wV 0 (by decide +kernel)) saNil)) (saCons sInt saNil))) saNil)))) (wgN 1 (by decide +kernel)) ifsNil (wCall (de_law_right c) (by decide) (by decide +kernel) (saCons (wCall (de_law_bag c) (by decide) (by decide +kernel) (saCons (wV 0 (by decide +kernel)) (saCons (wV 1 (by decide +kernel)) saNil))) saNil)) (by decide +kernel)) saNil))))
theorem sc_law : FnScope ["_law_script", "_law_k"] ["_law_script"] (defScope st_law) := ⟨rfl, rfl, rfl, by decide +kernel, rfl, by decide +kernel, by decide +kernel⟩
theorem fd_law (c : Sy U) : ∃ fd, FunD U.K dd_law.name dd_law.qual (defArgs st_law) (defBody st_law) (defScope st_law) [] [] (He.fAd U.K ("law", none)) fd := c.d.defs (d := dd_law) (List.mem_of_getElem? (i := 26) rfl)
theorem bi_law {fd : FuncData} {f : Addr} (F : FunD U.K dd_law.name dd_law.qual (defArgs st_law) (defBody st_law) (defScope st_law) [] [] f fd) : Binds U.K fd ["_law_script"] [] := F.bindsN fun _ _ _ _ _ _ us hl => match us, hl with | [_], _ => rfl
theorem sf_law (c : Sy U) {fd : FuncData} {f : Addr} (F : FunD U.K dd_law.name dd_law.qual (defArgs st_law) (defBody st_law) (defScope st_law) [] [] f fd) : SF U 4 f fd ["_law_script"] m_law := defOk false (fun_of F) sc_law (body_law c)
theorem de_law (c : Sy U) : DefAt U "law" 4 ["_law_script"] m_law := let ⟨fd, F⟩ := fd_law c; ⟨_, fd, (f45 c), F.kp, bi_law F, sf_law c F⟩
end

end CP
namespace CP
open PySem PySem.Spec PyProof.Rows L2
theorem law_F {w : World} {mg : Str → Option Value} {fa0 : Addr} {h : Heap} {K : PySem.W.Frag} (kx : K.In h) (G : h.Ns mainGlobals mg) (hmg : mg ("law" : Str) = some (.ref fa0)) (sx : He.SaysX fa fn [] (tfs.map (·.1)) exT w h K) :
    ∃ (K : PySem.W.Frag) (fd : FuncData) (cs : List (Addr × Addr)) (T : List (Addr × Str)), K.In h ∧ TabsOn cs K h ∧ (∀ q ∈ T, ∃ p ∈ cs, q.1 = p.2) ∧ (∀ (s : Shared) (u : Value), BindsTo s fd ⟨[u], []⟩ [("_law_script", u)]) ∧ ∀ base : Heap, K.In base → base.Ns mainGlobals mg → (∀ p ∈ cs, LamX.TabB base mg p.1 p.2) → SF ⟨PySem.Challenge.rw_colourpicks_k23_errors_made.prog, w, K, mg, base, T⟩ 4 fa0 fd ["_law_script"] m_law := by
  have sd : He.SaysD fa fn K := sx.t.d
  have hx := sx.more
  obtain ⟨fd, F⟩ := sd.defs (d := dd_law) (List.mem_of_getElem? (i := 26) rfl)
  have e := hmg.symm.trans (He.glo_ok kx G (sd.facts (f := .glo "law") (List.mem_of_getElem? (i := 45) rfl)))
  cases e
  have b := FunD.bindsA (ps := ["_law_script"]) F fun _ _ _ _ _ _ us hl => match us, hl with | [_], _ => rfl
  refine ⟨K, fd, tfs.map fun p => He.cT K p.1, tfs.map fun p => ((He.cT K p.1).2, p.2), kx, tabsOn_of sx, fun q hq => ?_, fun s u => b s [u] rfl, fun base k1 k2 k3 => sf_law (U := ⟨_, w, K, mg, base, _⟩) ⟨k1, k2, sd, hx, rfl, fun p hp => k3 _ (List.mem_map.mpr ⟨p, hp, rfl⟩), of_decide_eq_true (Bool.and_eq_true_iff.mp hx).2⟩ F⟩
  obtain ⟨p, hp, rfl⟩ := List.mem_map.mp hq
  exact ⟨_, List.mem_map.mpr ⟨p, hp, rfl⟩, rfl⟩

end CP
open PySem PySem.W PySem.Calls PyProof.Rows CP
set_option maxHeartbeats 0 in
theorem PySem.Challenge.cw_colourpicks_k23_errors_made_holds : PySem.Challenge.rw_colourpicks_k23_errors_made.Holds := by
  w_on; o_law
  refine HandSHeadRun.head_any (r := OpenLaw.row PySem.Challenge.rw_colourpicks_k23_errors_made) (q := view (OpenLaw.row PySem.Challenge.rw_colourpicks_k23_errors_made).prog [34]) (H := CP.hk) (ob := CP.ob) (M := 20000) (loose := CP.loose) (d := HandSHeadRun.topDef (OpenLaw.row PySem.Challenge.rw_colourpicks_k23_errors_made).prog 34) (kwd := []) CP.ob_eq
    (by kernel_rfl) (fun s => by kernel_rfl) CP.run (by kernel_rfl) (by kernel_rfl) (by kernel_rfl) (by rfl) (by first | assumption | decide +kernel) (by decide +kernel) ⟨rfl, rfl, rfl, rfl, rfl, by decide +kernel⟩ ?hw ?hc
  case hw => w_witness2
  case hc =>
    refine CP.law_end (l := PySem.Challenge.rw_colourpicks_k23_errors_made) (n := 63) (k := 4) (x := "_law_script") (m := CP.m_law) rfl (by decide) (by kernel_rfl) ⟨rfl, by decide, by decide⟩ ?F CP.law_true
    intro w mg fa h Y G hmg0
    obtain ⟨K, KX, sx, cz⟩ := Y
    have hmg : mg ("law" : PySem.Str) = some (.ref fa) := by
      have e : (HandSHeadRun.topDef (OpenLaw.row PySem.Challenge.rw_colourpicks_k23_errors_made).prog 34).name = ("law" : PySem.Str) := by kernel_rfl
      rw [← e]
      exact hmg0
    exact CP.law_F KX G hmg sx
