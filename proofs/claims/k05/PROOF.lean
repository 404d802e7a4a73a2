import PyProof.Rows.All
import Wide.All
import OpenK.AllK
import Wide.FinOn
import HandS.Head2
import HandS.HeadHook4
import HandS.HeadNt
import HandS.HeadWalk
import HandS.ExcSuper
import HandS.ExcInit
import HandS.ExcField
import HandS.ExcOwn
import KE.KSuper
import KE.KOpsOwn
import HandS.Nested
import HandS.HeadEnd
import HandS.ForMost
import HandS.ForExc
import HandS.CallSlots
import HandS.TryMany
import HandS.Lambda
import HandS.HotCalls
import HandS.Wide
import HandS.TupAny
import HandS.Deep
import HandS.IsInst
import HandS.DictComp
import HandS.More
import HandS.Text
import HandS.Conv
import HandS.HeadHook2
import HandS.Iter
import HandS.SetFor
import HandS.Strs
import HandS.TupSets
import HandS.SortInts
import HandS.MakeKwOnly
import HandS.WordsExc
import HandS.Style
import HandS.Dict
import KE.KStateDown
import Lean
import HandS.Ends
import HandS.Head0
import HandS.Head1
import HandS.Zip
import HandS.ClsMeth
import HandS.Property
import OpenK.KWalk
import PyProof.InstEq
import PyProof.InstNe
import KE.KCallOwn
import OpenK.KOps
import HandS.FStr
import KE.KEqNest
import KE.KLam
import KE.KDflt
import KE.KDictOf
import PyProof.ReprRoads
import HandS.EndTab
import PySem.Challenge.RW_redrawties_k05_webs_equal
set_option Elab.async false
set_option linter.all false
set_option maxRecDepth 100000
set_option maxHeartbeats 0
local macro_rules | `(tactic| walk_at "z9") => `(tactic| first | omega | (simp only [Nat.add_eq]; omega))
local macro_rules | `(tactic| walk_at "z8") => `(tactic| first | decide | omega | (simp only [Nat.add_eq]; omega))
namespace Z
open PySem PySem.Spec PyProof.Rows L2
def bNames : List String := ["NoneType", "bool", "int", "str", "tuple", "list", "dict"]
end Z
namespace Z
open PySem PySem.Spec PyProof.Rows L2
def ownB (K : PySem.W.Frag) (ks : List Str) (oc : Str → Str → Bool) : Bool :=
  He.eqO (PySem.W.specialIn K (.builtin "object.__class__") "__get__") (some (some (.builtin "getset_descriptor.__get__"))) && (decide (PySem.W.takesIn K (.builtin "object.__class__") = some true) && ks.all fun c =>
    He.eqO (PySem.W.findIn K (.ref (He.ga K c)) "__class__") (some (some (.builtin "object.__class__"))) && (decide (PySem.W.mroIn K (He.ga K c) (.type "object") = some true) && ((bNames.all fun n =>
      decide (PySem.W.kitOne K (.ref (He.ga K c)) (.type n) = some false) && decide (PySem.W.kitOne K (.type n) (.ref (He.ga K c)) = some false)) && ks.all fun d => decide (PySem.W.kitOne K (.ref (He.ga K c)) (.ref (He.ga K d)) = some (oc c d)))))
end Z
namespace Z
open PySem PySem.Spec PyProof.Rows L2
def BT (b : Bool) : Prop := Bool.rec (motive := fun _ => Prop) False True b
theorem bt_of {b : Bool} (h : BT b) : b = true := by
  cases b with
  | true => rfl
  | false => exact h.elim
/-- what holds of the run's end; opaque to the elaborator (it would run the program), open to the kernel -/
@[irreducible] def OR {α : Type} (P : α → Prop) (X : Option α) : Prop := Option.rec (motive := fun _ => Prop) False P X
theorem map_and {α β : Type} {X : Option α} {P : α → Prop} {Q : Prop} {f : α → β} {v : β} (h : OR P X = Q) (q : Q) (k : ∀ s, P s → f s = v) : X.map f = some v := by
  unfold OR at h
  cases X with
  | none => exact (h.mpr q).elim
  | some s => exact congrArg some (k s (h.mpr q))
end Z
namespace Z
open PySem PySem.Spec PyProof.Rows L2
end Z
namespace Z
open PySem PySem.Spec PyProof.Rows L2 PySem.Calls PySem.W
abbrev FnSu : Type := Option (Str × Str × Arguments × FuncBody × Scope × Addr × List Str × Addr)
def fnS (K : PySem.W.Frag) (p : Str × Option Str) : FnSu := match K.lookup (He.fAd K p) with
  | some ⟨_, _, .func fd, _⟩ => some (fd.name, fd.qualname, fd.params, fd.body, fd.scope, fd.globals, fd.closure.map (·.1), fd.builtins)
  | _ => none
structure SupQ where
  at_ : Str × Option Str
  name : Str
  qual : Str
  params : Arguments
  body : List Stmt
  scope : Scope
  cls : Str
def SupQ.val (d : SupQ) : FnSu := some (d.name, d.qual, d.params, .stmts d.body, d.scope, mainGlobals, ["__class__"], builtinsNs)
def cellB (K : PySem.W.Frag) (a D : Addr) : Bool := match K.lookup a with
  | some ⟨_, _, .cell (some (.ref E)), _⟩ => decide (E = D)
  | _ => false
def fileB (K : PySem.W.Frag) (a : Addr) (file : Str) : Bool := match K.lookup a with
  | some ⟨_, _, .fields vs, _⟩ => (match (vs[2]? : Option Value) with
    | some (Value.str f _) => decide (f = file)
    | _ => false)
  | _ => false
def supTail (K : PySem.W.Frag) (file qual cls : Str) (cl : List (Str × Addr)) (cd dV kV : Value) : Bool := match cl, cd, dV, kV with
  | [(_, cc)], .ref cda, .none, .none => PySem.W.codeIn K (.ref cda) qual && (cellB K cc (He.ga K cls) && fileB K cda file)
  | _, _, _, _ => false
def SupQ.ok (K : PySem.W.Frag) (file : Str) (d : SupQ) : Bool := match K.lookup (He.fAd K d.at_) with
  | some ⟨_, _, .func fd, _⟩ => supTail K file d.qual d.cls fd.closure fd.code fd.defaults fd.kwdefaults
  | _ => false
end Z
namespace Z
open PySem PySem.Spec PyProof.Rows L2
def methB (K : PySem.W.Frag) (C : Addr) (m : Str) (g : Addr) : Bool := He.eqO (PySem.W.findIn K (.ref C) m) (some (some (.ref g))) && (PySem.W.isFn K (.ref g) && PySem.W.keepIn K (.ref g))
/-- the code object of the def at a -/
def codeZ (g : Addr → Option Obj) (a : Addr) : List Addr := match g a with
  | some ⟨_, _, .func fd, _⟩ => (match fd.code with
    | .ref c => [a, c]
    | _ => [a])
  | _ => [a]
/-- what an object names, as far as the head's facts ask: no bases, no class of an instance -/
def refsZ (o : Obj) : List Addr := (match o.dict with
  | some d => [d]
  | none => []) ++ match o.data with
  | .seq its _ => its.toList.flatMap He.refV
  | .dict es _ => es.toList.flatMap fun e => He.refV e.val
  | .func fd => He.refV fd.code ++ He.refV fd.defaults ++ He.refV fd.kwdefaults ++ fd.closure.map (·.2)
  | .cls cd => [cd.ns]
  | .fields vs => vs.toList.flatMap He.refV
  | .cell (some v) => He.refV v
  | _ => []
def growZ (g : Addr → Option Obj) (as : List Addr) : List Addr := as.flatMap fun a => match g a with
  | some o => refsZ o
  | none => []
/-- level by level: nothing is looked for twice, so nothing need be taken out -/
def goZ (g : Addr → Option Obj) : Nat → List Addr → List Addr
  | 0, as => as
  | n + 1, as => as ++ goZ g n (growZ g as)
def asZ (g : Addr → Option Obj) (n : Nat) (pa : List He5.DefA) : List Addr := goZ g n [mainGlobals] ++ cStatics :: sysModules :: pa.flatMap fun d => codeZ g (d.at_ (He.frT g (goZ g n [mainGlobals])))
abbrev AlZ : Type := He.AlT × (List FnSu × (List He.FnW × Bool))
def obsZ (n : Nat) (fa : List He.Fa) (fn : List He.DefD) (ts : List He.Tab) (sp : List SupQ) (pa : List He5.DefA) (tf : List He.Defn) (ex : PySem.W.Frag → Bool) (g : Addr → Option Obj) : AlZ := (He.obsT fa fn ts (He.frT g (asZ g n pa)), (sp.map fun d => fnS (He.frT g (asZ g n pa)) d.at_), (pa.map fun d => He5.fnA (He.frT g (asZ g n pa)) (d.at_ (He.frT g (asZ g n pa)))), (pa.all fun d => d.ok (He.frT g (asZ g n pa))) && (ex (He.frT g (asZ g n pa)) && He.tabsB g tf (He.frT g (asZ g n pa))))
def valZ (fn : List He.DefD) (ts : List He.Tab) (sp : List SupQ) (pa : List He5.DefA) (w : World) : AlZ := (He.valT fn ts w, sp.map SupQ.val, pa.map He5.DefA.val, true)
structure SaysZ (fa : List He.Fa) (fn : List He.DefD) (ts : List He.Tab) (sp : List SupQ) (pa : List He5.DefA) (tf : List He.Defn) (ex : PySem.W.Frag → Bool) (w : World) (h : Heap) (K : PySem.W.Frag) : Prop where
  t : He.SaysT fa fn ts w K
  s : (sp.map fun d => fnS K d.at_) = sp.map SupQ.val
  p : (pa.map fun d => He5.fnA K (d.at_ K)) = pa.map He5.DefA.val
  po : (pa.all fun d => d.ok K) = true
  more : ex K = true
  hd : ∀ p ∈ tf, PySem.W.codeHdIn K (He.cT K p).1 (He.cT K p).2 = true
  out : ∀ p ∈ tf, K.lookup (He.cT K p).2 = none
  empty : ∀ p ∈ tf, h.get? (He.cT K p).2 = some { cls := .none, data := .fields #[] }
theorem saysZ_of {n : Nat} {fa : List He.Fa} {fn : List He.DefD} {ts : List He.Tab} {sp : List SupQ} {pa : List He5.DefA} {tf : List He.Defn} {ex : PySem.W.Frag → Bool} {w : World} {h : Heap} (e : obsZ n fa fn ts sp pa tf ex h.get? = valZ fn ts sp pa w) : SaysZ fa fn ts sp pa tf ex w h (He.frT h.get? (asZ h.get? n pa)) := by
  have e0 := congrArg (fun z : AlZ => z.2.2.2) e
  obtain ⟨e1, e2⟩ := Bool.and_eq_true_iff.mp (show ((pa.all fun d => d.ok (He.frT h.get? (asZ h.get? n pa))) && (ex (He.frT h.get? (asZ h.get? n pa)) && He.tabsB h.get? tf (He.frT h.get? (asZ h.get? n pa)))) = true from e0)
  obtain ⟨e2, e3⟩ := Bool.and_eq_true_iff.mp e2
  have key : ∀ p ∈ tf, PySem.W.codeHdIn (He.frT h.get? (asZ h.get? n pa)) (He.cT (He.frT h.get? (asZ h.get? n pa)) p).1 (He.cT (He.frT h.get? (asZ h.get? n pa)) p).2 = true ∧ ∃ o, h.get? (He.cT (He.frT h.get? (asZ h.get? n pa)) p).2 = some o ∧ He.emptyTab o = true := fun p hp => by
    obtain ⟨h3, h4⟩ := Bool.and_eq_true_iff.mp (List.all_eq_true.mp e3 p hp)
    refine ⟨h3, ?_⟩
    split at h4
    · next o q => exact ⟨o, q, h4⟩
    · cases h4
  exact ⟨congrArg (fun z : AlZ => z.1) e, congrArg (fun z : AlZ => z.2.1) e, congrArg (fun z : AlZ => z.2.2.1) e, e1, e2, fun p hp => (key p hp).1, fun p hp => by
    obtain ⟨_, o, q, z⟩ := key p hp
    exact He.frT_none q z, fun p hp => by
    obtain ⟨_, o, q, z⟩ := key p hp
    rw [q, He.emptyTab_eq z]⟩
def hookZ (n : Nat) (fa : List He.Fa) (fn : List He.DefD) (ts : List He.Tab) (sp : List SupQ) (pa : List He5.DefA) (tf : List He.Defn) (ex : PySem.W.Frag → Bool) : PySem.W.Hook where
  α := AlZ
  obs := fun s => obsZ n fa fn ts sp pa tf ex s.heap.get?
  val := fun w => valZ fn ts sp pa w
  says := fun w h => ∃ K : PySem.W.Frag, K.In h ∧ SaysZ fa fn ts sp pa tf ex w h K
  of := fun _ _ e => ⟨_, He.frT_in, saysZ_of e⟩
  keeps := fun _ _ _ ⟨K, hK, c⟩ k => ⟨K, PySem.W.Frag.In.keeps hK k, ⟨c.t, c.s, c.p, c.po, c.more, c.hd, c.out, fun p hp => k _ _ (c.empty p hp)⟩⟩
theorem obsZ_eq {n : Nat} {fa : List He.Fa} {fn : List He.DefD} {ts : List He.Tab} {sp : List SupQ} {pa : List He5.DefA} {tf : List He.Defn} {ex : PySem.W.Frag → Bool} {g : Addr → Option Obj} {s : Shared} (h : ∀ a, g a = s.heap.get? a) : obsZ n fa fn ts sp pa tf ex g = (hookZ n fa fn ts sp pa tf ex).obs s := by
  have e : g = s.heap.get? := funext h
  rw [e] <;> rfl
open PySem.Calls PySem.W in
/-- the run's equation by its parts (each asks less of the kernel's memory) -/
theorem runZ_of {r : PySem.W.OpenRow} {q : Program} {n M : Nat} {fa : List He.Fa} {fn : List He.DefD} {ts : List He.Tab} {sp : List SupQ} {pa : List He5.DefA} {tf : List He.Defn} {ex : PySem.W.Frag → Bool} {loose : List Str} {w : World} {ob : PySem.W.SharedT → AlZ}
    (h1 : ∀ os : OsState, (HandSHeadRun.endF (HandSHeadRun.stepQ (HandSHeadRun.denQ HandSHeadRun.tabQ) r.prog w) M r.prog w os).map (fun s => HandSHeadRun.looksF r.prog (boot_heap w.params) s.abs) = some true)
    (h2 : ∀ os : OsState, (HandSHeadRun.endF (HandSHeadRun.stepQ (HandSHeadRun.denQ HandSHeadRun.tabQ) r.prog w) M r.prog w os).map (fun s => HandSHeadRun.seenQ q loose (importedModules r.prog.main.body) (fun s => xlAt q [] s && recOk r.toRowW.records s) s.abs) = some (openGood q loose))
    (h3 : ∀ os : OsState, (HandSHeadRun.endF (HandSHeadRun.stepQ (HandSHeadRun.denQ HandSHeadRun.tabQ) r.prog w) M r.prog w os).map (fun s => (ob s).1.1.1) = some true)
    (h4 : ∀ os : OsState, (HandSHeadRun.endF (HandSHeadRun.stepQ (HandSHeadRun.denQ HandSHeadRun.tabQ) r.prog w) M r.prog w os).map (fun s => (ob s).1.1.2) = some (fn.map He.DefD.val))
    (h5 : ∀ os : OsState, (HandSHeadRun.endF (HandSHeadRun.stepQ (HandSHeadRun.denQ HandSHeadRun.tabQ) r.prog w) M r.prog w os).map (fun s => (ob s).1.2) = some (ts.map fun t => some (He.keysIn w.params t.2)))
    (h6 : ∀ os : OsState, (HandSHeadRun.endF (HandSHeadRun.stepQ (HandSHeadRun.denQ HandSHeadRun.tabQ) r.prog w) M r.prog w os).map (fun s => (ob s).2.1) = some (sp.map SupQ.val))
    (h7 : ∀ os : OsState, (HandSHeadRun.endF (HandSHeadRun.stepQ (HandSHeadRun.denQ HandSHeadRun.tabQ) r.prog w) M r.prog w os).map (fun s => (ob s).2.2.1) = some (pa.map He5.DefA.val))
    (h8 : ∀ os : OsState, (HandSHeadRun.endF (HandSHeadRun.stepQ (HandSHeadRun.denQ HandSHeadRun.tabQ) r.prog w) M r.prog w os).map (fun s => (ob s).2.2.2) = some true) :
    HandSHeadRun.RunEq r q (hookZ n fa fn ts sp pa tf ex) ob M loose w := by
  intro os
  obtain ⟨s, e, l1⟩ := Option.map_eq_some_iff.mp (h1 os)
  have l2 := h2 os
  have l3 := h3 os
  have l4 := h4 os
  have l5 := h5 os
  have l6 := h6 os
  have l7 := h7 os
  have l8 := h8 os
  rw [e, Option.map_some] at l2 l3 l4 l5 l6 l7 l8
  rw [e, Option.map_some, l1, Option.some.inj l2]
  have : ob s = (((true, fn.map He.DefD.val), ts.map fun t => some (He.keysIn w.params t.2)), (sp.map SupQ.val, (pa.map He5.DefA.val, true))) := Prod.ext (Prod.ext (Prod.ext (Option.some.inj l3) (Option.some.inj l4)) (Option.some.inj l5)) (Prod.ext (Option.some.inj l6) (Prod.ext (Option.some.inj l7) (Option.some.inj l8)))
  rw [this]
  rfl
end Z
namespace Z
open PySem PySem.Spec PyProof.Rows L2
/-- the head's look -/
def eqB (K : PySem.W.Frag) (cs ks : List Str) (g : Addr) : Bool := cs.all fun c => methB K (He.ga K c) "__eq__" g && (He.eqO (PySem.W.findIn K (.ref (He.ga K c)) "__ne__") (some (some (.builtin "object.__ne__"))) && (decide (PySem.W.mroIn K (He.ga K c) (.type "object") = some true) && ks.all fun d => PySem.W.notFirst K (He.ga K c) (.ref (He.ga K d))))
end Z
namespace Z
open PySem PySem.Spec PyProof.Rows L2
def oexClsB (C : Addr) (oc : Value) (cd : ClassData) (sl : List (Option Value)) : Bool := match oc, cd.mro, sl with
  | .type t, .ref C' :: bm, [_, _, _, _, some (.builtin n), _] => decide (t = "type") && (decide (C' = C) && (PySem.HandSPX.refsVE bm && (cd.hasDict && (!cd.hasDel && decide (n = "ValueError.__new__")))))
  | _, _, _ => false
def oexB (K : PySem.W.Frag) (C : Addr) : Bool := (match K.lookup C with
    | some ⟨oc, _, .cls cd, sl⟩ => oexClsB C oc cd sl.toList
    | _ => false) &&
  (He.eqO (PySem.W.findIn K (.ref C) "__setattr__") (some (some (.builtin "object.__setattr__"))) && (decide (PySem.W.subIn K (.ref C) (.type "BaseException") = some true) && (decide (PySem.W.typeIn K (.ref C) = some (.type "type")) && PySem.W.keepIn K (.ref C))))
def clsIsB (K : PySem.W.Frag) (D : Addr) : Bool := (PySem.W.clsIn K D).isSome
def excKB (K : PySem.W.Frag) (C D : Addr) (r : Value) : Bool := oexB K C && (decide (PySem.W.mroIn K C (.ref D) = some true) && (He.eqO (PySem.W.ks_superIn K C D "__init__") (some (some r)) && (He.eqO (PySem.W.nsIn K cStatics "thirdparty.any") (some none) && clsIsB K D)))
def excGB (K : PySem.W.Frag) (C D g : Addr) : Bool := excKB K C D (.ref g) && (decide (PySem.W.typeIn K (.ref g) = some (.type "function")) && PySem.W.fnIn K g)
def excVB (K : PySem.W.Frag) (C D : Addr) : Bool := excKB K C D (.builtin "ValueError.__init__") && decide (PySem.W.subIn K (.ref C) (.type "ValueError") = some true)
/-- the fields of the classes are no class attributes -/
def noB (K : PySem.W.Frag) (C : Addr) (fs : List Str) : Bool := fs.all fun f => He.eqO (PySem.W.findIn K (.ref C) f) (some none)
end Z
namespace Z
open PySem PySem.Spec PyProof.Rows L2
end Z
namespace Z
open PySem PySem.Spec PyProof.Rows L2
end Z
namespace Z
open PySem PySem.Spec PyProof.Rows L2
end Z
namespace K05
open PySem PySem.Spec PyProof.Rows L2 Z
def ownK : List Str := ["Web"]
def ownC (c d : Str) : Bool := decide (c = d)
end K05
namespace K05
open PySem PySem.Spec PyProof.Rows L2 Z
def top (i : Nat) : Stmt := PySem.Challenge.pw_redrawties_k05_webs_equal.main.body.getD i (.Pass ⟨0, 0, 0, 0⟩)
def cBody : Stmt → List Stmt
  | .ClassDef (body := b) .. => b
  | _ => []
abbrev st_law_bag : Stmt := top 22
abbrev st_law_draw : Stmt := top 23
abbrev st_law_one : Stmt := top 24
abbrev st_law_names : Stmt := top 25
abbrev st_law_square : Stmt := top 27
abbrev st_law_plain : Stmt := top 26
abbrev st_Web_eq : Stmt := (cBody (top 20)).getD 10 (.Pass ⟨0, 0, 0, 0⟩)
abbrev st_is_name : Stmt := top 12
abbrev st_is_count : Stmt := top 13
abbrev st_check_node : Stmt := top 16
abbrev st_clean_marks : Stmt := top 18
abbrev st_check_pair : Stmt := top 17
abbrev st_clean_ties : Stmt := top 19
abbrev st_Web_init : Stmt := (cBody (top 20)).getD 1 (.Pass ⟨0, 0, 0, 0⟩)
abbrev st_law_web : Stmt := top 28
abbrev st_Web_painted : Stmt := (cBody (top 20)).getD 6 (.Pass ⟨0, 0, 0, 0⟩)
abbrev st_Web_redrawn : Stmt := (cBody (top 20)).getD 7 (.Pass ⟨0, 0, 0, 0⟩)
abbrev st_Web_repr : Stmt := (cBody (top 20)).getD 11 (.Pass ⟨0, 0, 0, 0⟩)
abbrev st_law : Stmt := top 29
abbrev st_RedrawError_init : Stmt := (cBody (top 2)).getD 0 (.Pass ⟨0, 0, 0, 0⟩)
abbrev st_InvalidName_init : Stmt := (cBody (top 3)).getD 0 (.Pass ⟨0, 0, 0, 0⟩)
abbrev st_InvalidNode_init : Stmt := (cBody (top 5)).getD 0 (.Pass ⟨0, 0, 0, 0⟩)
abbrev st_InvalidTie_init : Stmt := (cBody (top 6)).getD 0 (.Pass ⟨0, 0, 0, 0⟩)
end K05
namespace K05
open PySem PySem.Spec PyProof.Rows L2 Z
def d_law_bag : He.DefD := ⟨("_law_bag", none), "_law_bag", "_law_bag", defArgs st_law_bag, defBody st_law_bag, defScope st_law_bag, [], []⟩
def d_law_draw : He.DefD := ⟨("_law_draw", none), "_law_draw", "_law_draw", defArgs st_law_draw, defBody st_law_draw, defScope st_law_draw, [], []⟩
def d_law_one : He.DefD := ⟨("_law_one", none), "_law_one", "_law_one", defArgs st_law_one, defBody st_law_one, defScope st_law_one, [], []⟩
def d_law_names : He.DefD := ⟨("_law_names", none), "_law_names", "_law_names", defArgs st_law_names, defBody st_law_names, defScope st_law_names, [], []⟩
def d_law_square : He.DefD := ⟨("_law_square", none), "_law_square", "_law_square", defArgs st_law_square, defBody st_law_square, defScope st_law_square, [], []⟩
def d_law_plain : He.DefD := ⟨("_law_plain", none), "_law_plain", "_law_plain", defArgs st_law_plain, defBody st_law_plain, defScope st_law_plain, [], []⟩
def d_Web_eq : He.DefD := ⟨("Web", some "__eq__"), "__eq__", "Web.__eq__", defArgs st_Web_eq, defBody st_Web_eq, defScope st_Web_eq, [], []⟩
def d_is_name : He.DefD := ⟨("is_name", none), "is_name", "is_name", defArgs st_is_name, defBody st_is_name, defScope st_is_name, [], []⟩
def d_is_count : He.DefD := ⟨("is_count", none), "is_count", "is_count", defArgs st_is_count, defBody st_is_count, defScope st_is_count, [], []⟩
def d_check_node : He.DefD := ⟨("check_node", none), "check_node", "check_node", defArgs st_check_node, defBody st_check_node, defScope st_check_node, [], []⟩
def d_clean_marks : He.DefD := ⟨("clean_marks", none), "clean_marks", "clean_marks", defArgs st_clean_marks, defBody st_clean_marks, defScope st_clean_marks, [], []⟩
def d_check_pair : He.DefD := ⟨("check_pair", none), "check_pair", "check_pair", defArgs st_check_pair, defBody st_check_pair, defScope st_check_pair, [], []⟩
def d_clean_ties : He.DefD := ⟨("clean_ties", none), "clean_ties", "clean_ties", defArgs st_clean_ties, defBody st_clean_ties, defScope st_clean_ties, [], []⟩
def d_Web_init : He.DefD := ⟨("Web", some "__init__"), "__init__", "Web.__init__", defArgs st_Web_init, defBody st_Web_init, defScope st_Web_init, [], [("marks", .non), ("ties", .non)]⟩
def d_law_web : He.DefD := ⟨("_law_web", none), "_law_web", "_law_web", defArgs st_law_web, defBody st_law_web, defScope st_law_web, [], []⟩
def d_Web_painted : He.DefD := ⟨("Web", some "painted"), "painted", "Web.painted", defArgs st_Web_painted, defBody st_Web_painted, defScope st_Web_painted, [], []⟩
def d_Web_redrawn : He.DefD := ⟨("Web", some "redrawn"), "redrawn", "Web.redrawn", defArgs st_Web_redrawn, defBody st_Web_redrawn, defScope st_Web_redrawn, [], []⟩
def d_Web_repr : He.DefD := ⟨("Web", some "__repr__"), "__repr__", "Web.__repr__", defArgs st_Web_repr, defBody st_Web_repr, defScope st_Web_repr, [], []⟩
def d_law : He.DefD := ⟨("law", none), "law", "law", defArgs st_law, defBody st_law, defScope st_law, [], []⟩
def d_RedrawError_init : SupQ := ⟨("RedrawError", some "__init__"), "__init__", "RedrawError.__init__", defArgs st_RedrawError_init, defBody st_RedrawError_init, defScope st_RedrawError_init, "RedrawError"⟩
def d_InvalidName_init : SupQ := ⟨("InvalidName", some "__init__"), "__init__", "InvalidName.__init__", defArgs st_InvalidName_init, defBody st_InvalidName_init, defScope st_InvalidName_init, "InvalidName"⟩
def d_InvalidNode_init : SupQ := ⟨("InvalidNode", some "__init__"), "__init__", "InvalidNode.__init__", defArgs st_InvalidNode_init, defBody st_InvalidNode_init, defScope st_InvalidNode_init, "InvalidNode"⟩
def d_InvalidTie_init : SupQ := ⟨("InvalidTie", some "__init__"), "__init__", "InvalidTie.__init__", defArgs st_InvalidTie_init, defBody st_InvalidTie_init, defScope st_InvalidTie_init, "InvalidTie"⟩
def fn : List He.DefD := [d_law_bag, d_law_draw, d_law_one, d_law_names, d_law_square, d_law_plain, d_Web_eq, d_is_name, d_is_count, d_check_node, d_clean_marks, d_check_pair, d_clean_ties, d_Web_init, d_law_web, d_Web_painted, d_Web_redrawn, d_Web_repr, d_law]
def spq : List SupQ := [d_RedrawError_init, d_InvalidName_init, d_InvalidNode_init, d_InvalidTie_init]
def tfs : List He.Defn := []
def pdf : List He5.DefA := []
def tbs : List He.Tab := []
def fa : List He.Fa := [.glo "_law_bag", .glo "_law_draw", .glo "_law_one", .glo "_law_names", .glo "_law_square", .glo "_law_plain", .glo "is_name", .glo "is_count", .glo "check_node", .glo "clean_marks", .glo "check_pair", .glo "clean_ties", .glo "_law_web", .glo "law", .glo "Web", .mkr "Web", .cls "Web", .meth "Web" "painted", .meth "Web" "redrawn", .glo "RedrawError", .glo "InvalidName", .glo "InvalidNode", .glo "InvalidTie", .noat "Web" "own_marks", .noat "Web" "own_size", .noat "Web" "own_ties", .free "abs", .free "all", .free "bool", .free "int", .free "isinstance", .free "len", .free "list", .free "range", .free "repr", .free "set", .free "sorted", .free "str", .free "tuple", .int "MOST_LETTERS" 8, .int "MOST_NODES_webs" 300, .str "LETTERS" "abcdefghijklmnopqrstuvwxyz", .glo "WORDS", .free "super"]
def ex (K : PySem.W.Frag) : Bool := (He.tupB K "WORDS" [.str "yes", .str "not", .str "and", .str "or", .str "near", .str "any", .str "back", .str "then", .str "either", .str "again", .str "leap", .str "paint", .str "redraw", .str "when", .str "do", .str "else", .str "end"] && (ownB K ownK ownC && ((K.lookup sysModules).isSome && (d_RedrawError_init.ok K PySem.Challenge.pw_redrawties_k05_webs_equal.main.file && (d_InvalidName_init.ok K PySem.Challenge.pw_redrawties_k05_webs_equal.main.file && (excGB K (He.ga K "InvalidName") (He.ga K "InvalidName") (He.fAd K ("RedrawError", some "__init__")) && (excVB K (He.ga K "InvalidName") (He.ga K "RedrawError") && (noB K (He.ga K "InvalidName") ["name", "code"] && ((He.eqO (PySem.W.findIn K (.ref (He.ga K "InvalidName")) "__init__") (some (some (.ref (He.fAd K ("InvalidName", some "__init__"))))) && decide (PySem.W.typeIn K (.ref (He.fAd K ("InvalidName", some "__init__"))) = some (.type "function"))) && (d_InvalidNode_init.ok K PySem.Challenge.pw_redrawties_k05_webs_equal.main.file && (excGB K (He.ga K "InvalidNode") (He.ga K "InvalidNode") (He.fAd K ("RedrawError", some "__init__")) && (excVB K (He.ga K "InvalidNode") (He.ga K "RedrawError") && (noB K (He.ga K "InvalidNode") ["node", "code"] && ((He.eqO (PySem.W.findIn K (.ref (He.ga K "InvalidNode")) "__init__") (some (some (.ref (He.fAd K ("InvalidNode", some "__init__"))))) && decide (PySem.W.typeIn K (.ref (He.fAd K ("InvalidNode", some "__init__"))) = some (.type "function"))) && (d_InvalidTie_init.ok K PySem.Challenge.pw_redrawties_k05_webs_equal.main.file && (excGB K (He.ga K "InvalidTie") (He.ga K "InvalidTie") (He.fAd K ("RedrawError", some "__init__")) && (excVB K (He.ga K "InvalidTie") (He.ga K "RedrawError") && (noB K (He.ga K "InvalidTie") ["tie", "code"] && ((He.eqO (PySem.W.findIn K (.ref (He.ga K "InvalidTie")) "__init__") (some (some (.ref (He.fAd K ("InvalidTie", some "__init__"))))) && decide (PySem.W.typeIn K (.ref (He.fAd K ("InvalidTie", some "__init__"))) = some (.type "function"))) && (eqB K ["Web"] ownK (He.fAd K ("Web", some "__eq__")) && (methB K (He.ga K "Web") "__repr__" (He.fAd K ("Web", some "__repr__")) && true)))))))))))))))))))))
abbrev R : PySem.W.OpenRow := PySem.W.OpenLaw.row PySem.Challenge.rw_redrawties_k05_webs_equal
abbrev hk : PySem.W.Hook := Z.hookZ 4 fa fn tbs spq pdf tfs ex
def ob (s : PySem.W.SharedT) : Z.AlZ := Z.obsZ 4 fa fn tbs spq pdf tfs ex (HandSHeadRun.getT s)
theorem ob_eq (s : PySem.W.SharedT) : ob s = hk.obs s.abs := Z.obsZ_eq (HandSHeadRun.getT_eq s)
def loose : List PySem.Str := (["_wall", "RedrawError", "InvalidName", "InvalidSize", "InvalidNode", "InvalidTie", "InvalidTerm", "WORDS", "LETTERS", "MOST_LETTERS", "is_name", "is_count", "MOST_NODES_webs", "check_node", "check_pair", "clean_marks", "clean_ties", "Web", "_law_bag", "_law_draw", "_law_one", "_law_names", "_law_plain", "_law_square", "_law_web"] : List PySem.Str)
open PySem.Calls PySem.W in
theorem run_0_true (w : World) (os : OsState) : Z.OR (fun s => Z.BT (HandSHeadRun.looksF R.prog (boot_heap (w.withFollow "special-get-raises" true).params) s.abs) ∧ (HandSHeadRun.seenQ (PySem.W.view R.prog [29]) loose (importedModules R.prog.main.body) (fun s => PySem.W.xlAt (PySem.W.view R.prog [29]) [] s && PySem.W.recOk R.toRowW.records s) s.abs) = (PySem.W.openGood (PySem.W.view R.prog [29]) loose)) ((HandSHeadRun.endF (HandSHeadRun.stepQ (HandSHeadRun.denQ HandSHeadRun.tabQ) R.prog (w.withFollow "special-get-raises" true)) 20000 R.prog (w.withFollow "special-get-raises" true) os)) = (True ∧ (PySem.W.openGood (PySem.W.view R.prog [29]) loose) = (PySem.W.openGood (PySem.W.view R.prog [29]) loose)) := by kernel_rfl
open PySem.Calls PySem.W in
theorem run_l_true (w : World) (os : OsState) : (HandSHeadRun.endF (HandSHeadRun.stepQ (HandSHeadRun.denQ HandSHeadRun.tabQ) R.prog (w.withFollow "special-get-raises" true)) 20000 R.prog (w.withFollow "special-get-raises" true) os).map (fun s => HandSHeadRun.looksF R.prog (boot_heap (w.withFollow "special-get-raises" true).params) s.abs) = some true :=
  Z.map_and (run_0_true w os) ⟨trivial, rfl⟩ fun s h => Z.bt_of h.1
open PySem.Calls PySem.W in
theorem run_s_true (w : World) (os : OsState) : (HandSHeadRun.endF (HandSHeadRun.stepQ (HandSHeadRun.denQ HandSHeadRun.tabQ) R.prog (w.withFollow "special-get-raises" true)) 20000 R.prog (w.withFollow "special-get-raises" true) os).map (fun s => HandSHeadRun.seenQ (PySem.W.view R.prog [29]) loose (importedModules R.prog.main.body) (fun s => PySem.W.xlAt (PySem.W.view R.prog [29]) [] s && PySem.W.recOk R.toRowW.records s) s.abs) = some (PySem.W.openGood (PySem.W.view R.prog [29]) loose) :=
  Z.map_and (run_0_true w os) ⟨trivial, rfl⟩ fun s h => h.2
open PySem.Calls PySem.W in
theorem run_1_true (w : World) (os : OsState) : Z.OR (fun s => Z.BT ((ob s).1.1.1) ∧ ((ob s).1.1.2) = (fn.map He.DefD.val) ∧ ((ob s).1.2) = (tbs.map fun t => some (He.keysIn (w.withFollow "special-get-raises" true).params t.2)) ∧ ((ob s).2.1) = (spq.map SupQ.val) ∧ ((ob s).2.2.1) = (pdf.map He5.DefA.val) ∧ Z.BT ((ob s).2.2.2)) ((HandSHeadRun.endF (HandSHeadRun.stepQ (HandSHeadRun.denQ HandSHeadRun.tabQ) R.prog (w.withFollow "special-get-raises" true)) 20000 R.prog (w.withFollow "special-get-raises" true) os)) = (True ∧ (fn.map He.DefD.val) = (fn.map He.DefD.val) ∧ (tbs.map fun t => some (He.keysIn (w.withFollow "special-get-raises" true).params t.2)) = (tbs.map fun t => some (He.keysIn (w.withFollow "special-get-raises" true).params t.2)) ∧ (spq.map SupQ.val) = (spq.map SupQ.val) ∧ (pdf.map He5.DefA.val) = (pdf.map He5.DefA.val) ∧ True) := by kernel_rfl
open PySem.Calls PySem.W in
theorem run_a_true (w : World) (os : OsState) : (HandSHeadRun.endF (HandSHeadRun.stepQ (HandSHeadRun.denQ HandSHeadRun.tabQ) R.prog (w.withFollow "special-get-raises" true)) 20000 R.prog (w.withFollow "special-get-raises" true) os).map (fun s => (ob s).1.1.1) = some true :=
  Z.map_and (run_1_true w os) ⟨trivial, rfl, rfl, rfl, rfl, trivial⟩ fun s h => Z.bt_of h.1
open PySem.Calls PySem.W in
theorem run_d_true (w : World) (os : OsState) : (HandSHeadRun.endF (HandSHeadRun.stepQ (HandSHeadRun.denQ HandSHeadRun.tabQ) R.prog (w.withFollow "special-get-raises" true)) 20000 R.prog (w.withFollow "special-get-raises" true) os).map (fun s => (ob s).1.1.2) = some (fn.map He.DefD.val) :=
  Z.map_and (run_1_true w os) ⟨trivial, rfl, rfl, rfl, rfl, trivial⟩ fun s h => h.2.1
open PySem.Calls PySem.W in
theorem run_t_true (w : World) (os : OsState) : (HandSHeadRun.endF (HandSHeadRun.stepQ (HandSHeadRun.denQ HandSHeadRun.tabQ) R.prog (w.withFollow "special-get-raises" true)) 20000 R.prog (w.withFollow "special-get-raises" true) os).map (fun s => (ob s).1.2) = some (tbs.map fun t => some (He.keysIn (w.withFollow "special-get-raises" true).params t.2)) :=
  Z.map_and (run_1_true w os) ⟨trivial, rfl, rfl, rfl, rfl, trivial⟩ fun s h => h.2.2.1
open PySem.Calls PySem.W in
theorem run_u_true (w : World) (os : OsState) : (HandSHeadRun.endF (HandSHeadRun.stepQ (HandSHeadRun.denQ HandSHeadRun.tabQ) R.prog (w.withFollow "special-get-raises" true)) 20000 R.prog (w.withFollow "special-get-raises" true) os).map (fun s => (ob s).2.1) = some (spq.map SupQ.val) :=
  Z.map_and (run_1_true w os) ⟨trivial, rfl, rfl, rfl, rfl, trivial⟩ fun s h => h.2.2.2.1
open PySem.Calls PySem.W in
theorem run_p_true (w : World) (os : OsState) : (HandSHeadRun.endF (HandSHeadRun.stepQ (HandSHeadRun.denQ HandSHeadRun.tabQ) R.prog (w.withFollow "special-get-raises" true)) 20000 R.prog (w.withFollow "special-get-raises" true) os).map (fun s => (ob s).2.2.1) = some (pdf.map He5.DefA.val) :=
  Z.map_and (run_1_true w os) ⟨trivial, rfl, rfl, rfl, rfl, trivial⟩ fun s h => h.2.2.2.2.1
open PySem.Calls PySem.W in
theorem run_e_true (w : World) (os : OsState) : (HandSHeadRun.endF (HandSHeadRun.stepQ (HandSHeadRun.denQ HandSHeadRun.tabQ) R.prog (w.withFollow "special-get-raises" true)) 20000 R.prog (w.withFollow "special-get-raises" true) os).map (fun s => (ob s).2.2.2) = some true :=
  Z.map_and (run_1_true w os) ⟨trivial, rfl, rfl, rfl, rfl, trivial⟩ fun s h => Z.bt_of h.2.2.2.2.2
theorem run_true (w : World) : HandSHeadRun.RunEq R (PySem.W.view R.prog [29]) hk ob 20000 loose (w.withFollow "special-get-raises" true) :=
  Z.runZ_of (run_l_true w) (run_s_true w) (run_a_true w) (run_d_true w) (run_t_true w) (run_u_true w) (run_p_true w) (run_e_true w)
open PySem.Calls PySem.W in
theorem run_0_false (w : World) (os : OsState) : Z.OR (fun s => Z.BT (HandSHeadRun.looksF R.prog (boot_heap (w.withFollow "special-get-raises" false).params) s.abs) ∧ (HandSHeadRun.seenQ (PySem.W.view R.prog [29]) loose (importedModules R.prog.main.body) (fun s => PySem.W.xlAt (PySem.W.view R.prog [29]) [] s && PySem.W.recOk R.toRowW.records s) s.abs) = (PySem.W.openGood (PySem.W.view R.prog [29]) loose)) ((HandSHeadRun.endF (HandSHeadRun.stepQ (HandSHeadRun.denQ HandSHeadRun.tabQ) R.prog (w.withFollow "special-get-raises" false)) 20000 R.prog (w.withFollow "special-get-raises" false) os)) = (True ∧ (PySem.W.openGood (PySem.W.view R.prog [29]) loose) = (PySem.W.openGood (PySem.W.view R.prog [29]) loose)) := by kernel_rfl
open PySem.Calls PySem.W in
theorem run_l_false (w : World) (os : OsState) : (HandSHeadRun.endF (HandSHeadRun.stepQ (HandSHeadRun.denQ HandSHeadRun.tabQ) R.prog (w.withFollow "special-get-raises" false)) 20000 R.prog (w.withFollow "special-get-raises" false) os).map (fun s => HandSHeadRun.looksF R.prog (boot_heap (w.withFollow "special-get-raises" false).params) s.abs) = some true :=
  Z.map_and (run_0_false w os) ⟨trivial, rfl⟩ fun s h => Z.bt_of h.1
open PySem.Calls PySem.W in
theorem run_s_false (w : World) (os : OsState) : (HandSHeadRun.endF (HandSHeadRun.stepQ (HandSHeadRun.denQ HandSHeadRun.tabQ) R.prog (w.withFollow "special-get-raises" false)) 20000 R.prog (w.withFollow "special-get-raises" false) os).map (fun s => HandSHeadRun.seenQ (PySem.W.view R.prog [29]) loose (importedModules R.prog.main.body) (fun s => PySem.W.xlAt (PySem.W.view R.prog [29]) [] s && PySem.W.recOk R.toRowW.records s) s.abs) = some (PySem.W.openGood (PySem.W.view R.prog [29]) loose) :=
  Z.map_and (run_0_false w os) ⟨trivial, rfl⟩ fun s h => h.2
open PySem.Calls PySem.W in
theorem run_1_false (w : World) (os : OsState) : Z.OR (fun s => Z.BT ((ob s).1.1.1) ∧ ((ob s).1.1.2) = (fn.map He.DefD.val) ∧ ((ob s).1.2) = (tbs.map fun t => some (He.keysIn (w.withFollow "special-get-raises" false).params t.2)) ∧ ((ob s).2.1) = (spq.map SupQ.val) ∧ ((ob s).2.2.1) = (pdf.map He5.DefA.val) ∧ Z.BT ((ob s).2.2.2)) ((HandSHeadRun.endF (HandSHeadRun.stepQ (HandSHeadRun.denQ HandSHeadRun.tabQ) R.prog (w.withFollow "special-get-raises" false)) 20000 R.prog (w.withFollow "special-get-raises" false) os)) = (True ∧ (fn.map He.DefD.val) = (fn.map He.DefD.val) ∧ (tbs.map fun t => some (He.keysIn (w.withFollow "special-get-raises" false).params t.2)) = (tbs.map fun t => some (He.keysIn (w.withFollow "special-get-raises" false).params t.2)) ∧ (spq.map SupQ.val) = (spq.map SupQ.val) ∧ (pdf.map He5.DefA.val) = (pdf.map He5.DefA.val) ∧ True) := by kernel_rfl
open PySem.Calls PySem.W in
theorem run_a_false (w : World) (os : OsState) : (HandSHeadRun.endF (HandSHeadRun.stepQ (HandSHeadRun.denQ HandSHeadRun.tabQ) R.prog (w.withFollow "special-get-raises" false)) 20000 R.prog (w.withFollow "special-get-raises" false) os).map (fun s => (ob s).1.1.1) = some true :=
  Z.map_and (run_1_false w os) ⟨trivial, rfl, rfl, rfl, rfl, trivial⟩ fun s h => Z.bt_of h.1
open PySem.Calls PySem.W in
theorem run_d_false (w : World) (os : OsState) : (HandSHeadRun.endF (HandSHeadRun.stepQ (HandSHeadRun.denQ HandSHeadRun.tabQ) R.prog (w.withFollow "special-get-raises" false)) 20000 R.prog (w.withFollow "special-get-raises" false) os).map (fun s => (ob s).1.1.2) = some (fn.map He.DefD.val) :=
  Z.map_and (run_1_false w os) ⟨trivial, rfl, rfl, rfl, rfl, trivial⟩ fun s h => h.2.1
open PySem.Calls PySem.W in
theorem run_t_false (w : World) (os : OsState) : (HandSHeadRun.endF (HandSHeadRun.stepQ (HandSHeadRun.denQ HandSHeadRun.tabQ) R.prog (w.withFollow "special-get-raises" false)) 20000 R.prog (w.withFollow "special-get-raises" false) os).map (fun s => (ob s).1.2) = some (tbs.map fun t => some (He.keysIn (w.withFollow "special-get-raises" false).params t.2)) :=
  Z.map_and (run_1_false w os) ⟨trivial, rfl, rfl, rfl, rfl, trivial⟩ fun s h => h.2.2.1
open PySem.Calls PySem.W in
theorem run_u_false (w : World) (os : OsState) : (HandSHeadRun.endF (HandSHeadRun.stepQ (HandSHeadRun.denQ HandSHeadRun.tabQ) R.prog (w.withFollow "special-get-raises" false)) 20000 R.prog (w.withFollow "special-get-raises" false) os).map (fun s => (ob s).2.1) = some (spq.map SupQ.val) :=
  Z.map_and (run_1_false w os) ⟨trivial, rfl, rfl, rfl, rfl, trivial⟩ fun s h => h.2.2.2.1
open PySem.Calls PySem.W in
theorem run_p_false (w : World) (os : OsState) : (HandSHeadRun.endF (HandSHeadRun.stepQ (HandSHeadRun.denQ HandSHeadRun.tabQ) R.prog (w.withFollow "special-get-raises" false)) 20000 R.prog (w.withFollow "special-get-raises" false) os).map (fun s => (ob s).2.2.1) = some (pdf.map He5.DefA.val) :=
  Z.map_and (run_1_false w os) ⟨trivial, rfl, rfl, rfl, rfl, trivial⟩ fun s h => h.2.2.2.2.1
open PySem.Calls PySem.W in
theorem run_e_false (w : World) (os : OsState) : (HandSHeadRun.endF (HandSHeadRun.stepQ (HandSHeadRun.denQ HandSHeadRun.tabQ) R.prog (w.withFollow "special-get-raises" false)) 20000 R.prog (w.withFollow "special-get-raises" false) os).map (fun s => (ob s).2.2.2) = some true :=
  Z.map_and (run_1_false w os) ⟨trivial, rfl, rfl, rfl, rfl, trivial⟩ fun s h => Z.bt_of h.2.2.2.2.2
theorem run_false (w : World) : HandSHeadRun.RunEq R (PySem.W.view R.prog [29]) hk ob 20000 loose (w.withFollow "special-get-raises" false) :=
  Z.runZ_of (run_l_false w) (run_s_false w) (run_a_false w) (run_d_false w) (run_t_false w) (run_u_false w) (run_p_false w) (run_e_false w)
theorem run (w : World) : HandSHeadRun.RunEq R (PySem.W.view R.prog [29]) hk ob 20000 loose w := by
  have h : ∀ b, HandSHeadRun.RunEq R (PySem.W.view R.prog [29]) hk ob 20000 loose (w.withFollow "special-get-raises" b) := fun b => by
    cases b
    · exact run_false w
    · exact run_true w
  have := h (w.params.followText "special-get-raises")
  rwa [World.withFollow_self] at this
end K05
section
open PySem PySem.W PySem.Calls PyProof.Rows
/-- all of the end that the head alone decides, ahead of the rest: it wants 4 GB -/
theorem K05.headL (hc : WalkO (view (PySem.Challenge.rw_redrawties_k05_webs_equal).row.prog [29]) K05.loose (XL (view (PySem.Challenge.rw_redrawties_k05_webs_equal).row.prog [29]) []) K05.hk.says (PySem.Challenge.rw_redrawties_k05_webs_equal).row.toRowW (HandSHeadRun.topDef (PySem.Challenge.rw_redrawties_k05_webs_equal).row.prog 29) [] fun f vs => call f vs) : PySem.Challenge.rw_redrawties_k05_webs_equal.Holds := by
  w_on; o_law
  refine HandSHeadRun.head_any (r := OpenLaw.row PySem.Challenge.rw_redrawties_k05_webs_equal) (q := view (OpenLaw.row PySem.Challenge.rw_redrawties_k05_webs_equal).prog [29]) (H := K05.hk) (ob := K05.ob) (M := 20000) (loose := K05.loose) (d := HandSHeadRun.topDef (OpenLaw.row PySem.Challenge.rw_redrawties_k05_webs_equal).prog 29) (kwd := []) K05.ob_eq
    (by kernel_rfl) (fun s => by kernel_rfl) K05.run (by kernel_rfl) (by kernel_rfl) (by kernel_rfl) (by rfl) (by first | assumption | decide +kernel) (by decide +kernel) ⟨rfl, rfl, rfl, rfl, rfl, by decide +kernel⟩ ?hw ?hc
  case hw => w_witness2
  case hc => exact hc
end
namespace Z
open PySem PySem.Spec PyProof.Rows L2
inductive PV where
  | non | bl (b : Bool) | int (i : Int) | str (s : Str)
  | tup (xs : List PV) | lst (xs : List PV) | dct (kvs : List (PV × PV))
  | obj (c : Str) (fs : List (Str × PV)) | glob (x : Str) | scr (xs : List Int) | dcT (kvs : List (PV × PV)) | bt (n : String) | clo (n : Nat) (cl : List (Str × Addr)) | exc (a dd : Addr) (c : Str) (fs : List (Str × PV))
  deriving Inhabited
mutual
def PV.same : PV → PV → Bool
  | .non, .non => true
  | .bl a, .bl b => a == b
  | .int a, .int b => a == b
  | .str a, .str b => decide (a = b)
  | .tup a, .tup b => PV.sames a b
  | .lst a, .lst b => PV.sames a b
  | .dct a, .dct b => PV.sameD a b
  | .obj c a, .obj d b => decide (c = d) && PV.sameF a b
  | .glob a, .glob b => decide (a = b)
  | .scr a, .scr b => decide (a = b)
  | .dcT a, .dcT b => PV.sameD a b
  | .bt a, .bt b => decide (a = b)
  | .clo a x, .clo b y => decide (a = b) && decide (x = y)
  | .exc a x c f, .exc b y d g => decide (a = b) && (decide (x = y) && (decide (c = d) && PV.sameF f g))
  | _, _ => false
def PV.sames : List PV → List PV → Bool
  | [], [] => true
  | a :: r, b :: t => PV.same a b && PV.sames r t
  | _, _ => false
def PV.sameD : List (PV × PV) → List (PV × PV) → Bool
  | [], [] => true
  | (k, a) :: r, (l, b) :: t => PV.same k l && (PV.same a b && PV.sameD r t)
  | _, _ => false
def PV.sameF : List (Str × PV) → List (Str × PV) → Bool
  | [], [] => true
  | (k, a) :: r, (l, b) :: t => decide (k = l) && (PV.same a b && PV.sameF r t)
  | _, _ => false
end
mutual
theorem PV.same_eq : ∀ {a b : PV}, PV.same a b = true → a = b
  | .non, .non, _ => rfl
  | .bl a, .bl b, h => by simp [PV.same] at h; rw [h]
  | .int a, .int b, h => by simp [PV.same] at h; rw [h]
  | .str a, .str b, h => by simp [PV.same] at h; rw [h]
  | .tup a, .tup b, h => by rw [PV.sames_eq (show PV.sames a b = true by simpa [PV.same] using h)]
  | .lst a, .lst b, h => by rw [PV.sames_eq (show PV.sames a b = true by simpa [PV.same] using h)]
  | .dct a, .dct b, h => by rw [PV.sameD_eq (show PV.sameD a b = true by simpa [PV.same] using h)]
  | .dcT a, .dcT b, h => by rw [PV.sameD_eq (show PV.sameD a b = true by simpa [PV.same] using h)]
  | .obj c a, .obj d b, h => by
    have h : c = d ∧ PV.sameF a b = true := by simpa [PV.same] using h
    rw [h.1, PV.sameF_eq h.2]
  | .glob a, .glob b, h => by simp [PV.same] at h; rw [h]
  | .scr a, .scr b, h => by simp [PV.same] at h; rw [h]
  | .bt a, .bt b, h => by simp [PV.same] at h; rw [h]
  | .clo a x, .clo b y, h => by simp [PV.same] at h; rw [h.1, h.2]
  | .exc a x c f, .exc b y d g, h => by
    have h : a = b ∧ x = y ∧ c = d ∧ PV.sameF f g = true := by simpa [PV.same] using h
    rw [h.1, h.2.1, h.2.2.1, PV.sameF_eq h.2.2.2]
  | .non, .bl _, h | .non, .int _, h | .non, .str _, h | .non, .tup _, h | .non, .lst _, h | .non, .dct _, h | .non, .obj _ _, h | .non, .glob _, h | .non, .scr _, h | .non, .dcT _, h | .non, .bt _, h | .non, .clo _ _, h | .non, .exc _ _ _ _, h => by simp [PV.same] at h
  | .bl _, .non, h | .bl _, .int _, h | .bl _, .str _, h | .bl _, .tup _, h | .bl _, .lst _, h | .bl _, .dct _, h | .bl _, .obj _ _, h | .bl _, .glob _, h | .bl _, .scr _, h | .bl _, .dcT _, h | .bl _, .bt _, h | .bl _, .clo _ _, h | .bl _, .exc _ _ _ _, h => by simp [PV.same] at h
  | .int _, .non, h | .int _, .bl _, h | .int _, .str _, h | .int _, .tup _, h | .int _, .lst _, h | .int _, .dct _, h | .int _, .obj _ _, h | .int _, .glob _, h | .int _, .scr _, h | .int _, .dcT _, h | .int _, .bt _, h | .int _, .clo _ _, h | .int _, .exc _ _ _ _, h => by simp [PV.same] at h
  | .str _, .non, h | .str _, .bl _, h | .str _, .int _, h | .str _, .tup _, h | .str _, .lst _, h | .str _, .dct _, h | .str _, .obj _ _, h | .str _, .glob _, h | .str _, .scr _, h | .str _, .dcT _, h | .str _, .bt _, h | .str _, .clo _ _, h | .str _, .exc _ _ _ _, h => by simp [PV.same] at h
  | .tup _, .non, h | .tup _, .bl _, h | .tup _, .int _, h | .tup _, .str _, h | .tup _, .lst _, h | .tup _, .dct _, h | .tup _, .obj _ _, h | .tup _, .glob _, h | .tup _, .scr _, h | .tup _, .dcT _, h | .tup _, .bt _, h | .tup _, .clo _ _, h | .tup _, .exc _ _ _ _, h => by simp [PV.same] at h
  | .lst _, .non, h | .lst _, .bl _, h | .lst _, .int _, h | .lst _, .str _, h | .lst _, .tup _, h | .lst _, .dct _, h | .lst _, .obj _ _, h | .lst _, .glob _, h | .lst _, .scr _, h | .lst _, .dcT _, h | .lst _, .bt _, h | .lst _, .clo _ _, h | .lst _, .exc _ _ _ _, h => by simp [PV.same] at h
  | .dct _, .non, h | .dct _, .bl _, h | .dct _, .int _, h | .dct _, .str _, h | .dct _, .tup _, h | .dct _, .lst _, h | .dct _, .obj _ _, h | .dct _, .glob _, h | .dct _, .scr _, h | .dct _, .dcT _, h | .dct _, .bt _, h | .dct _, .clo _ _, h | .dct _, .exc _ _ _ _, h => by simp [PV.same] at h
  | .obj _ _, .non, h | .obj _ _, .bl _, h | .obj _ _, .int _, h | .obj _ _, .str _, h | .obj _ _, .tup _, h | .obj _ _, .lst _, h | .obj _ _, .dct _, h | .obj _ _, .glob _, h | .obj _ _, .scr _, h | .obj _ _, .dcT _, h | .obj _ _, .bt _, h | .obj _ _, .clo _ _, h | .obj _ _, .exc _ _ _ _, h => by simp [PV.same] at h
  | .glob _, .non, h | .glob _, .bl _, h | .glob _, .int _, h | .glob _, .str _, h | .glob _, .tup _, h | .glob _, .lst _, h | .glob _, .dct _, h | .glob _, .obj _ _, h | .glob _, .scr _, h | .glob _, .dcT _, h | .glob _, .bt _, h | .glob _, .clo _ _, h | .glob _, .exc _ _ _ _, h => by simp [PV.same] at h
  | .scr _, .non, h | .scr _, .bl _, h | .scr _, .int _, h | .scr _, .str _, h | .scr _, .tup _, h | .scr _, .lst _, h | .scr _, .dct _, h | .scr _, .obj _ _, h | .scr _, .glob _, h | .scr _, .dcT _, h | .scr _, .bt _, h | .scr _, .clo _ _, h | .scr _, .exc _ _ _ _, h => by simp [PV.same] at h
  | .dcT _, .non, h | .dcT _, .bl _, h | .dcT _, .int _, h | .dcT _, .str _, h | .dcT _, .tup _, h | .dcT _, .lst _, h | .dcT _, .dct _, h | .dcT _, .obj _ _, h | .dcT _, .glob _, h | .dcT _, .scr _, h | .dcT _, .bt _, h | .dcT _, .clo _ _, h | .dcT _, .exc _ _ _ _, h => by simp [PV.same] at h
  | .bt _, .non, h | .bt _, .bl _, h | .bt _, .int _, h | .bt _, .str _, h | .bt _, .tup _, h | .bt _, .lst _, h | .bt _, .dct _, h | .bt _, .obj _ _, h | .bt _, .glob _, h | .bt _, .scr _, h | .bt _, .dcT _, h | .bt _, .clo _ _, h | .bt _, .exc _ _ _ _, h => by simp [PV.same] at h
  | .clo _ _, .non, h | .clo _ _, .bl _, h | .clo _ _, .int _, h | .clo _ _, .str _, h | .clo _ _, .tup _, h | .clo _ _, .lst _, h | .clo _ _, .dct _, h | .clo _ _, .obj _ _, h | .clo _ _, .glob _, h | .clo _ _, .scr _, h | .clo _ _, .dcT _, h | .clo _ _, .bt _, h | .clo _ _, .exc _ _ _ _, h => by simp [PV.same] at h
  | .exc _ _ _ _, .non, h | .exc _ _ _ _, .bl _, h | .exc _ _ _ _, .int _, h | .exc _ _ _ _, .str _, h | .exc _ _ _ _, .tup _, h | .exc _ _ _ _, .lst _, h | .exc _ _ _ _, .dct _, h | .exc _ _ _ _, .obj _ _, h | .exc _ _ _ _, .glob _, h | .exc _ _ _ _, .scr _, h | .exc _ _ _ _, .dcT _, h | .exc _ _ _ _, .bt _, h | .exc _ _ _ _, .clo _ _, h => by simp [PV.same] at h
theorem PV.sames_eq : ∀ {a b : List PV}, PV.sames a b = true → a = b
  | [], [], _ => rfl
  | a :: r, b :: t, h => by
    have h : PV.same a b = true ∧ PV.sames r t = true := by simpa [PV.sames] using h
    rw [PV.same_eq h.1, PV.sames_eq h.2]
  | [], _ :: _, h | _ :: _, [], h => by simp [PV.sames] at h
theorem PV.sameD_eq : ∀ {a b : List (PV × PV)}, PV.sameD a b = true → a = b
  | [], [], _ => rfl
  | (k, a) :: r, (l, b) :: t, h => by
    have h : PV.same k l = true ∧ PV.same a b = true ∧ PV.sameD r t = true := by simpa [PV.sameD] using h
    rw [PV.same_eq h.1, PV.same_eq h.2.1, PV.sameD_eq h.2.2]
  | [], _ :: _, h | _ :: _, [], h => by simp [PV.sameD] at h
theorem PV.sameF_eq : ∀ {a b : List (Str × PV)}, PV.sameF a b = true → a = b
  | [], [], _ => rfl
  | (k, a) :: r, (l, b) :: t, h => by
    have h : k = l ∧ PV.same a b = true ∧ PV.sameF r t = true := by simpa [PV.sameF] using h
    rw [h.1, PV.same_eq h.2.1, PV.sameF_eq h.2.2]
  | [], _ :: _, h | _ :: _, [], h => by simp [PV.sameF] at h
end
mutual
@[simp] theorem PV.same_self : ∀ (a : PV), PV.same a a = true
  | .non => by simp [PV.same]
  | .bl a => by simp [PV.same]
  | .int a => by simp [PV.same]
  | .str a => by simp [PV.same]
  | .tup a => by simp [PV.same, PV.sames_self a]
  | .lst a => by simp [PV.same, PV.sames_self a]
  | .dct a => by simp [PV.same, PV.sameD_self a]
  | .obj c a => by simp [PV.same, PV.sameF_self a]
  | .glob a => by simp [PV.same]
  | .scr a => by simp [PV.same]
  | .dcT a => by simp [PV.same, PV.sameD_self a]
  | .bt a => by simp [PV.same]
  | .clo a x => by simp [PV.same]
  | .exc a x c f => by simp [PV.same, PV.sameF_self f]
@[simp] theorem PV.sames_self : ∀ (a : List PV), PV.sames a a = true
  | [] => by simp [PV.sames, PV.sameD, PV.sameF]
  | a :: r => by simp [PV.sames, PV.same_self a, PV.sames_self r]
@[simp] theorem PV.sameD_self : ∀ (a : List (PV × PV)), PV.sameD a a = true
  | [] => by simp [PV.sames, PV.sameD, PV.sameF]
  | (k, a) :: r => by simp [PV.sameD, PV.same_self k, PV.same_self a, PV.sameD_self r]
@[simp] theorem PV.sameF_self : ∀ (a : List (Str × PV)), PV.sameF a a = true
  | [] => by simp [PV.sames, PV.sameD, PV.sameF]
  | (k, a) :: r => by simp [PV.sameF, PV.same_self a, PV.sameF_self r]
end
instance : DecidableEq PV := fun a b => if h : PV.same a b = true then .isTrue (PV.same_eq h) else .isFalse fun e => h (e ▸ PV.same_self a)
inductive LV where
  | pv (p : PV) | ref (n : Nat)
  deriving Inhabited, DecidableEq
inductive LO where
  | dead | lst (xs : List LV) | dct (kvs : List (PV × LV)) | dcT (kvs : List (PV × LV)) | ins (c : Str) (fs : List (Str × LV))
  deriving Inhabited, DecidableEq
abbrev LH := List LO
abbrev EN := List (Option LV)
structure LX where
  cls : Str
  fs : List (Str × PV)
inductive Res (α : Type) where
  | ok (a : α) (h : LH) | exc (e : LX) (h : LH) | stuck
  deriving Inhabited
def Res.bind {α β : Type} (r : Res α) (k : α → LH → Res β) : Res β := match r with
  | .ok a h => k a h
  | .exc e h => .exc e h
  | .stuck => .stuck
@[simp] theorem Res.bind_ok {α β : Type} (a : α) (h : LH) (k : α → LH → Res β) : (Res.ok a h).bind k = k a h := rfl
@[simp] theorem Res.bind_exc {α β : Type} (e : LX) (h : LH) (k : α → LH → Res β) : (Res.exc e h : Res α).bind k = .exc e h := rfl
@[simp] theorem Res.bind_stuck {α β : Type} (k : α → LH → Res β) : (Res.stuck : Res α).bind k = .stuck := rfl
/-- a world: the abstract heap, where the numbered objects lie (none: given up, or frozen), what is in the making -/
structure Wd where
  H : Hp
  io : List (Option Addr)
  hd : List Addr
def Wd.Mu (W : Wd) (a : Addr) : Prop := some a ∈ W.io ∨ a ∈ W.hd
/-- it stands as it was, or is locked besides -/
def Lk (o o' : HO) : Prop := o' = o ∨ ((∃ ob, o' = .frz ob o) ∧ ((∃ k, o = .dK k) ∨ ∃ k, o = .dT k)) ∨ ∃ ps more, o = .tbl ps ∧ o' = .tbl (ps ++ more)
theorem Lk.nofrz {o : HO} (h : (∃ k, o = .dK k) ∨ ∃ k, o = .dT k) (ob : Obj) (u : HO) : o ≠ .frz ob u := fun z => by
  rcases h with ⟨k, h⟩ | ⟨k, h⟩ <;> (rw [h] at z; cases z)
theorem Lk.trans {a b c : HO} (h : Lk a b) (g : Lk b c) : Lk a c := by
  rcases h with rfl | ⟨⟨ob, rfl⟩, n⟩ | ⟨ps, m, rfl, rfl⟩
  · exact g
  · rcases g with rfl | ⟨⟨_, rfl⟩, n'⟩ | ⟨ps, m, z, rfl⟩
    · exact .inr (.inl ⟨⟨ob, rfl⟩, n⟩)
    · exact absurd rfl (Lk.nofrz n' ob a)
    · cases z
  · rcases g with rfl | ⟨⟨_, rfl⟩, n'⟩ | ⟨ps, m', z, rfl⟩
    · exact .inr (.inr ⟨_, _, rfl, rfl⟩)
    · rcases n' with ⟨k, z⟩ | ⟨k, z⟩ <;> cases z
    · cases z
      exact .inr (.inr ⟨_, m ++ m', rfl, by rw [Array.append_assoc]⟩)
/-- frozen data stand still -/
structure Ex0 (W W' : Wd) : Prop where
  mem : ∀ a, W'.Mu a → W.Mu a ∨ W.H a = none
  kept : ∀ a o, W.H a = some o → ¬ W.Mu a → ∃ o', W'.H a = some o' ∧ Lk o o'
/-- what stood for something does so still -/
structure Ex (W W' : Wd) : Prop extends Ex0 W W' where
  trk : ∀ a, W.H a ≠ none → W'.H a ≠ none
  len : W.io.length ≤ W'.io.length
  at_ : ∀ n a, n < W.io.length → W'.io[n]? = some (some a) → W.io[n]? = some (some a)
/-- .. and what is in the making is untouched -/
structure Ext (W W' : Wd) : Prop extends Ex W W' where
  hdE : W'.hd = W.hd
  hdk : ∀ a, a ∈ W.hd → W'.H a = W.H a
theorem rd_some {H : Hp} {a : Addr} {u : HO} (h : Rd H a u) : H a ≠ none := by
  rcases h with h | ⟨o, h⟩ <;> (intro z; rw [z] at h; cases h)
theorem Ex0.nmu' {W W' : Wd} (e : Ex0 W W') {a : Addr} (h : W.H a ≠ none) (n : ¬ W.Mu a) : ¬ W'.Mu a := fun z => by
  rcases e.mem a z with q | q
  · exact n q
  · exact h q
theorem Ex0.nmu {W W' : Wd} (e : Ex0 W W') {a : Addr} {u : HO} (h : Rd W.H a u) (n : ¬ W.Mu a) : ¬ W'.Mu a := e.nmu' (rd_some h) n
theorem Ex0.lk {W W' : Wd} (e : Ex0 W W') {a : Addr} {ob : Obj} {u : HO} (h : W.H a = some (.frz ob u)) (n : ¬ W.Mu a) : W'.H a = some (.frz ob u) := by
  obtain ⟨o', h', c | ⟨_, c⟩ | ⟨_, _, c, _⟩⟩ := e.kept a _ h n
  · exact c ▸ h'
  · exact absurd rfl (Lk.nofrz c ob u)
  · cases c
theorem Ex0.keep {W W' : Wd} (e : Ex0 W W') {a : Addr} {u : HO} (h : Rd W.H a u) (nf : ∀ ob v, u ≠ .frz ob v) (n : ¬ W.Mu a) (nt : ∀ ps, u ≠ .tbl ps := by intro _ z; cases z) : Rd W'.H a u := by
  rcases h with h | ⟨ob, h⟩
  · obtain ⟨o', h', c | ⟨⟨ob, c⟩, _⟩ | ⟨_, _, c, _⟩⟩ := e.kept a _ h n
    · exact .inl (c ▸ h')
    · exact .inr ⟨ob, c ▸ h'⟩
    · exact absurd c (nt _)
  · exact .inr ⟨ob, e.lk h n⟩
theorem Ex0.ins {W W' : Wd} (e : Ex0 W W') {a C dx : Addr} {fs : List (Str × V)} (h : W.H a = some (.ins C dx fs)) (n : ¬ W.Mu a) : W'.H a = some (.ins C dx fs) := by
  obtain ⟨o', h', c | ⟨_, c⟩ | ⟨_, _, c, _⟩⟩ := e.kept a _ h n
  · exact c ▸ h'
  · rcases c with ⟨k, c⟩ | ⟨k, c⟩ <;> cases c
  · cases c
theorem Ex0.ext {W W' : Wd} (e : Ex0 W W') {a : Addr} {φ : Heap → Prop} (h : W.H a = some (.ext φ)) (n : ¬ W.Mu a) : W'.H a = some (.ext φ) := by
  obtain ⟨o', h', c | ⟨_, c⟩ | ⟨_, _, c, _⟩⟩ := e.kept a _ h n
  · exact c ▸ h'
  · rcases c with ⟨k, c⟩ | ⟨k, c⟩ <;> cases c
  · cases c
theorem Ex0.xd {W W' : Wd} (e : Ex0 W W') {a : Addr} {fs : List (Str × V)} (h : W.H a = some (.xd fs)) (n : ¬ W.Mu a) : W'.H a = some (.xd fs) := by
  obtain ⟨o', h', c | ⟨_, c⟩ | ⟨_, _, c, _⟩⟩ := e.kept a _ h n
  · exact c ▸ h'
  · rcases c with ⟨k, c⟩ | ⟨k, c⟩ <;> cases c
  · cases c
theorem Ex.trans {W W1 W2 : Wd} (e : Ex W W1) (f : Ex W1 W2) : Ex W W2 where
  mem := fun a h => by
    rcases f.mem a h with q | q
    · exact e.mem a q
    · refine .inr ?_
      cases z : W.H a with
      | none => rfl
      | some u => exact absurd q (e.trk a (by rw [z]; simp))
  trk := fun a h => f.trk a (e.trk a h)
  kept := fun a o h n => by
    obtain ⟨o1, h1, c1⟩ := e.kept a o h n
    obtain ⟨o2, h2, c2⟩ := f.kept a o1 h1 (e.nmu' (by rw [h]; simp) n)
    exact ⟨o2, h2, c1.trans c2⟩
  len := Nat.le_trans e.len f.len
  at_ := fun n a hn h => e.at_ n a hn (f.at_ n a (Nat.lt_of_lt_of_le hn e.len) h)
theorem Ext.refl (W : Wd) : Ext W W := ⟨⟨⟨fun _ h => .inl h, fun _ o h _ => ⟨o, h, .inl rfl⟩⟩, fun _ h => h, Nat.le_refl _, fun _ _ _ h => h⟩, rfl, fun _ _ => rfl⟩
theorem Ext.trans {W W1 W2 : Wd} (e : Ext W W1) (f : Ext W1 W2) : Ext W W2 :=
  ⟨e.toEx.trans f.toEx, f.hdE.trans e.hdE, fun a h => (f.hdk a (by rw [e.hdE]; exact h)).trans (e.hdk a h)⟩
/-- a list of the written part -/
def KL (K : PySem.W.Frag) (a : Addr) (xs : List V) : Prop :=
  ∃ (o : Obj) (its : Array Value) (n : Nat), K.lookup a = some o ∧ o.cls = .type "list" ∧ o.dict = none ∧ o.data = .seq its n ∧ its.size ≤ sizeLine ∧ Vals xs its.toList
def KT (K : PySem.W.Frag) (a : Addr) (xs : List V) : Prop :=
  ∃ (o : Obj) (its : Array Value) (n : Nat), K.lookup a = some o ∧ o.cls = .type "tuple" ∧ o.data = .seq its n ∧ its.size ≤ sizeLine ∧ Vals xs its.toList
def FrS (K : PySem.W.Frag) (W : Wd) (a : Addr) (xs : List V) : Prop := (Rd W.H a (.lst xs) ∧ ¬ W.Mu a) ∨ KL K a xs
def FrL (W : Wd) (a : Addr) (xs : List V) : Prop := Rd W.H a (.lst xs) ∧ ¬ W.Mu a
def FrT (K : PySem.W.Frag) (W : Wd) (a : Addr) (xs : List V) : Prop := (Rd W.H a (.tup xs) ∧ ¬ W.Mu a) ∨ KT K a xs
theorem FrL.sq {K : PySem.W.Frag} {W : Wd} {a : Addr} {xs : List V} (h : FrL W a xs) : SqL K W.H a xs := .inl h.1
theorem FrL.mono {W W' : Wd} {a : Addr} {xs : List V} (e : Ex0 W W') (h : FrL W a xs) : FrL W' a xs := ⟨e.keep h.1 (fun _ _ z => by cases z) h.2, e.nmu h.1 h.2⟩
theorem FrS.sq {K : PySem.W.Frag} {W : Wd} {a : Addr} {xs : List V} (h : FrS K W a xs) : SqL K W.H a xs := by
  rcases h with ⟨h, _⟩ | h
  · exact .inl h
  · exact .inr h
theorem FrT.sq {K : PySem.W.Frag} {W : Wd} {a : Addr} {xs : List V} (h : FrT K W a xs) : SqT K W.H a xs := by
  rcases h with ⟨h, _⟩ | h
  · exact .inl h
  · exact .inr h
theorem FrS.mono {K : PySem.W.Frag} {W W' : Wd} {a : Addr} {xs : List V} (e : Ex0 W W') (h : FrS K W a xs) : FrS K W' a xs := by
  rcases h with ⟨h, n⟩ | h
  · exact .inl ⟨e.keep h (fun _ _ z => by cases z) n, e.nmu h n⟩
  · exact .inr h
theorem FrT.mono {K : PySem.W.Frag} {W W' : Wd} {a : Addr} {xs : List V} (e : Ex0 W W') (h : FrT K W a xs) : FrT K W' a xs := by
  rcases h with ⟨h, n⟩ | h
  · exact .inl ⟨e.keep h (fun _ _ z => by cases z) n, e.nmu h n⟩
  · exact .inr h
structure LamW where
  params : Arguments
  body : Expr
  scope : Scope
  dn : Bool
class LamC where
  fn : Nat → Option LamW
  q : Str
  P : Option Addr
abbrev LamW.fd (lw : LamW) (q : Str) (cl : List (Str × Addr)) (c' : Addr) (dV doc pm ctv : Value) : FuncData :=
  { name := "<lambda>", qualname := q, params := lw.params, body := .expr lw.body, scope := lw.scope, globals := mainGlobals, closure := cloFrom cl lw.scope.names [], defaults := dV, kwdefaults := .none, doc := doc, pyModule := pm, annotations := none, code := .ref c', closureTuple := ctv, builtins := builtinsNs }
/-- the object at f is the lambda lw, made over the cells cl -/
def FnL (f : Addr) (lw : LamW) (q : Str) (cl : List (Str × Addr)) (c' : Addr) (dV : Value) : HO := .ext fun h => ∃ (od : Option Addr) (sl : Array (Option Value)) (doc pm ctv : Value), h.get? f = some (⟨.type "function", od, .func (lw.fd q cl c' dV doc pm ctv), sl⟩ : Obj)
/-- its defaults: none, or one value -/
def DfL (W : Wd) (dn : Bool) (dV : Value) : Prop := match dn with
  | false => dV = .none
  | true => ∃ T v, dV = .ref T ∧ W.H T = some (.tup [v]) ∧ ¬ W.Mu T
theorem DfL.mono {W W' : Wd} (e : Ex0 W W') {dn : Bool} {dV : Value} (h : DfL W dn dV) : DfL W' dn dV := by
  cases dn with
  | false => exact h
  | true =>
    obtain ⟨T, v, h1, h2, h3⟩ := h
    refine ⟨T, v, h1, ?_, e.nmu' (by rw [h2]; simp) h3⟩
    obtain ⟨o', h', c | ⟨_, c⟩ | ⟨_, _, c, _⟩⟩ := e.kept T _ h2 h3
    · exact c ▸ h'
    · rcases c with ⟨k, c⟩ | ⟨k, c⟩ <;> cases c
    · cases c
/-- a key as data -/
def kP : Key → PV
  | .inl i => .int i
  | .inr x => .str x
section
variable [L : LamC] (K : PySem.W.Frag) (mg : Str → Option Value)
mutual
inductive Rep : Wd → PV → V → Prop
  | non {W} : Rep W .non .non
  | bl {W b} : Rep W (.bl b) (.bl b)
  | int {W i} : Rep W (.int i) (.int i)
  | str {W s} : Rep W (.str s) (.str s)
  | tup {W xs a vs} : FrT K W a vs → Reps W xs vs → Rep W (.tup xs) (.ref a)
  | lst {W xs a vs} : FrL W a vs → Reps W xs vs → Rep W (.lst xs) (.ref a)
  | dct {W kvs a hs} : Rd W.H a (.dK hs) → ¬ W.Mu a → RepD W kvs hs → Rep W (.dct kvs) (.ref a)
  | dctT {W kvs a hs} : Rd W.H a (.dT hs) → ¬ W.Mu a → RepT W kvs hs → Rep W (.dcT kvs) (.ref a)
  | bt {W n} : Rep W (.bt n) (.ty n)
  | obj {W c fs C a dx vfs} : W.H a = some (.ins C dx vfs) → ¬ W.Mu a → mg c = some (.ref C) → RepF W fs vfs → Rep W (.obj c fs) (.ref a)
  | glob {W x a} : mg x = some (.ref a) → Rep W (.glob x) (.ref a)
  | scr {W xs a} : FrS K W a (xs.map V.int) → Rep W (.scr xs) (.ref a)
  | clo {W n cl f lw c' dV} : L.fn n = some lw → W.H f = some (FnL f lw L.q cl c' dV) → ¬ W.Mu f → W.H c' = some (LamX.CodeO c' L.q) → ¬ W.Mu c' → DfL W lw.dn dV → Rep W (.clo n cl) (.ref f)
  | exc {W a dd c fs C vfs} : mg c = some (.ref C) → W.H dd = some (.xd vfs) → ¬ W.Mu dd → RepF W fs vfs → Rep W (.exc a dd c fs) (.ref a)
inductive Reps : Wd → List PV → List V → Prop
  | nil {W} : Reps W [] []
  | cons {W x v xs vs} : Rep W x v → Reps W xs vs → Reps W (x :: xs) (v :: vs)
inductive RepD : Wd → List (PV × PV) → List (Key × V) → Prop
  | nil {W} : RepD W [] []
  | cons {W k x v xs vs} : Rep W x v → RepD W xs vs → RepD W ((kP k, x) :: xs) ((k, v) :: vs)
inductive RepT : Wd → List (PV × PV) → List (List Key × V) → Prop
  | nil {W} : RepT W [] []
  | cons {W ks x v xs vs} : Rep W x v → RepT W xs vs → RepT W ((.tup (ks.map kP), x) :: xs) ((ks, v) :: vs)
inductive RepF : Wd → List (Str × PV) → List (Str × V) → Prop
  | nil {W} : RepF W [] []
  | cons {W f x v xs vs} : Rep W x v → RepF W xs vs → RepF W ((f, x) :: xs) ((f, v) :: vs)
end
end
section
variable [L : LamC] {K : PySem.W.Frag} {mg : Str → Option Value}
mutual
theorem Rep.mono {W W' : Wd} (e : Ex0 W W') : ∀ {x : PV} {v : V}, Rep K mg W x v → Rep K mg W' x v
  | _, _, .non => .non
  | _, _, .bl => .bl
  | _, _, .int => .int
  | _, _, .str => .str
  | _, _, .tup h r => .tup (h.mono e) (Reps.mono e r)
  | _, _, .lst h r => .lst (h.mono e) (Reps.mono e r)
  | _, _, .dct h n r => .dct (e.keep h (fun _ _ z => by cases z) n) (e.nmu h n) (RepD.mono e r)
  | _, _, .dctT h n r => .dctT (e.keep h (fun _ _ z => by cases z) n) (e.nmu h n) (RepT.mono e r)
  | _, _, .obj h n g r => .obj (e.ins h n) (e.nmu (.inl h) n) g (RepF.mono e r)
  | _, _, .glob g => .glob g
  | _, _, .bt => .bt
  | _, _, .scr h => .scr (h.mono e)
  | _, _, .clo a b c d f g => .clo a (e.ext b c) (e.nmu' (by rw [b]; exact Option.some_ne_none _) c) (e.ext d f) (e.nmu' (by rw [d]; exact Option.some_ne_none _) f) (g.mono e)
  | _, _, .exc a b c d => .exc a (e.xd b c) (e.nmu' (by rw [b]; exact Option.some_ne_none _) c) (RepF.mono e d)
theorem Reps.mono {W W' : Wd} (e : Ex0 W W') : ∀ {xs : List PV} {vs : List V}, Reps K mg W xs vs → Reps K mg W' xs vs
  | _, _, .nil => .nil
  | _, _, .cons r t => .cons (Rep.mono e r) (Reps.mono e t)
theorem RepD.mono {W W' : Wd} (e : Ex0 W W') : ∀ {xs : List (PV × PV)} {vs : List (Key × V)}, RepD K mg W xs vs → RepD K mg W' xs vs
  | _, _, .nil => .nil
  | _, _, .cons r t => .cons (Rep.mono e r) (RepD.mono e t)
theorem RepT.mono {W W' : Wd} (e : Ex0 W W') : ∀ {xs : List (PV × PV)} {vs : List (List Key × V)}, RepT K mg W xs vs → RepT K mg W' xs vs
  | _, _, .nil => .nil
  | _, _, .cons r t => .cons (Rep.mono e r) (RepT.mono e t)
theorem RepF.mono {W W' : Wd} (e : Ex0 W W') : ∀ {xs : List (Str × PV)} {vs : List (Str × V)}, RepF K mg W xs vs → RepF K mg W' xs vs
  | _, _, .nil => .nil
  | _, _, .cons r t => .cons (Rep.mono e r) (RepF.mono e t)
end
end
end Z
namespace Z
open PySem PySem.Spec PyProof.Rows L2
def PlainO (u : HO) : Prop := (∀ ps, u ≠ .tbl ps) ∧ ∀ φ, u ≠ .ext φ
/-- what a suspended frame holds, by slot -/
class Susp where
  σ : L2.St
  env : EN
section
variable [L : LamC] (K : PySem.W.Frag) (mg : Str → Option Value)
/-- a value stands for a value -/
def LRep (W : Wd) : LV → V → Prop
  | .pv p, v => Rep K mg W p v
  | .ref n, v => n < W.io.length ∧ ∀ a, W.io[n]? = some (some a) → v = .ref a
inductive LReps (W : Wd) : List LV → List V → Prop
  | nil : LReps W [] []
  | cons {x v xs vs} : LRep K mg W x v → LReps W xs vs → LReps W (x :: xs) (v :: vs)
inductive LRepD (W : Wd) : List (PV × LV) → List (Key × V) → Prop
  | nil : LRepD W [] []
  | cons {k x v xs vs} : LRep K mg W x v → LRepD W xs vs → LRepD W ((kP k, x) :: xs) ((k, v) :: vs)
inductive LRepT (W : Wd) : List (PV × LV) → List (List Key × V) → Prop
  | nil : LRepT W [] []
  | cons {ks x v xs vs} : LRep K mg W x v → LRepT W xs vs → LRepT W ((.tup (ks.map kP), x) :: xs) ((ks, v) :: vs)
inductive LRepF (W : Wd) : List (Str × LV) → List (Str × V) → Prop
  | nil : LRepF W [] []
  | cons {f x v xs vs} : LRep K mg W x v → LRepF W xs vs → LRepF W ((f, x) :: xs) ((f, v) :: vs)
/-- what a numbered object stands for -/
inductive ORep (W : Wd) : LO → HO → Prop
  | lst {xs vs} : LReps K mg W xs vs → ORep W (.lst xs) (.lst vs)
  | dct {xs hs} : LRepD K mg W xs hs → ORep W (.dct xs) (.dK hs)
  | dctT {xs hs} : LRepT K mg W xs hs → ORep W (.dcT xs) (.dT hs)
  | ins {c fs C dx vfs} : mg c = some (.ref C) → LRepF K mg W fs vfs → ORep W (.ins c fs) (.ins C dx vfs)
def LoAt (W : Wd) (o : LO) (q : Option Addr) : Prop := match q with
  | none => o = .dead
  | some a => ∃ u, W.H a = some u ∧ ORep K mg W o u
structure EnR (W : Wd) (σ : L2.St) (env : EN) : Prop where
  len : env.length = σ.length
  at_ : ∀ (i : Nat) (x : LV), env[i]? = some (some x) → ∃ v : V, σ[i]? = some (some v) ∧ LRep K mg W x v
/-- an exception: its class, its own dict -/
def XRep (W : Wd) (e : LX) (c : Value) (d : Option Addr) : Prop := ∃ C dx vfs, mg e.cls = some (.ref C) ∧ c = .ref C ∧ d = some dx ∧ W.H dx = some (.xd vfs) ∧ ¬ W.Mu dx ∧ RepF K mg W e.fs vfs
variable [S : Susp]
structure LhR (W : Wd) (lh : LH) : Prop where
  len : lh.length = W.io.length
  inj : ∀ (i j : Nat) (a : Addr), W.io[i]? = some (some a) → W.io[j]? = some (some a) → i = j
  hid : ∀ a, a ∈ W.hd → W.H a ≠ none ∧ some a ∉ W.io
  at_ : ∀ (n : Nat) (o : LO) (q : Option Addr), lh[n]? = some o → W.io[n]? = some q → LoAt K mg W o q
  tab : ∀ P, L.P = some P → LamX.TabS W.H P L.q
  sus : EnR K mg W S.σ S.env
  hdp : ∀ a u, a ∈ W.hd → W.H a = some u → PlainO u
structure SR (W : Wd) (σ : L2.St) (env : EN) (lh : LH) : Prop where
  lh : LhR K mg W lh
  sl : EnR K mg W σ env
end
section
variable [L : LamC] {K : PySem.W.Frag} {mg : Str → Option Value} {W W' : Wd}
theorem LRep.mono (e : Ex W W') : ∀ {x : LV} {v : V}, LRep K mg W x v → LRep K mg W' x v
  | .pv _, _, h => Rep.mono e.toEx0 h
  | .ref n, _, ⟨h, g⟩ => ⟨Nat.lt_of_lt_of_le h e.len, fun a q => g a (e.at_ n a h q)⟩
theorem LReps.mono (e : Ex W W') {xs : List LV} {vs : List V} (h : LReps K mg W xs vs) : LReps K mg W' xs vs := by
  induction h with
  | nil => exact .nil
  | cons r _ ih => exact .cons (r.mono e) ih
theorem LRepD.mono (e : Ex W W') {xs : List (PV × LV)} {vs : List (Key × V)} (h : LRepD K mg W xs vs) : LRepD K mg W' xs vs := by
  induction h with
  | nil => exact .nil
  | cons r _ ih => exact .cons (r.mono e) ih
theorem LRepT.mono (e : Ex W W') {xs : List (PV × LV)} {vs : List (List Key × V)} (h : LRepT K mg W xs vs) : LRepT K mg W' xs vs := by
  induction h with
  | nil => exact .nil
  | cons r _ ih => exact .cons (r.mono e) ih
theorem LRepF.mono (e : Ex W W') {xs : List (Str × LV)} {vs : List (Str × V)} (h : LRepF K mg W xs vs) : LRepF K mg W' xs vs := by
  induction h with
  | nil => exact .nil
  | cons r _ ih => exact .cons (r.mono e) ih
theorem ORep.mono (e : Ex W W') {o : LO} {u : HO} (h : ORep K mg W o u) : ORep K mg W' o u := by
  cases h with
  | lst r => exact .lst (r.mono e)
  | dct r => exact .dct (r.mono e)
  | dctT r => exact .dctT (r.mono e)
  | ins g r => exact .ins g (r.mono e)
theorem EnR.mono (e : Ex W W') {σ : L2.St} {env : EN} (h : EnR K mg W σ env) : EnR K mg W' σ env :=
  ⟨h.len, fun i x q => let ⟨v, a, b⟩ := h.at_ i x q; ⟨v, a, b.mono e⟩⟩
theorem LhR.mu [S : Susp] {lh : LH} (h : LhR K mg W lh) : ∀ a, W.Mu a → W.H a ≠ none := fun a m z => by
  rcases m.symm with m | m
  · exact (h.hid a m).1 z
  obtain ⟨n, hn, e⟩ := List.mem_iff_getElem.mp m
  have hn' : n < lh.length := by rw [h.len]; exact hn
  obtain ⟨u, q, _⟩ := h.at_ n lh[n] (some a) (by simp [hn']) (by simp [hn, e])
  rw [z] at q; cases q
theorem LReps.length {xs : List LV} {vs : List V} (h : LReps K mg W xs vs) : xs.length = vs.length := by
  induction h with
  | nil => rfl
  | cons _ _ ih => simp [ih]
theorem LReps.get {xs : List LV} {vs : List V} (h : LReps K mg W xs vs) : ∀ {i : Nat} {x : LV}, xs[i]? = some x → ∃ v, vs[i]? = some v ∧ LRep K mg W x v := by
  induction h with
  | nil => intro i x e; simp at e
  | cons r _ ih =>
    intro i x e
    cases i with
    | zero => simp at e; subst e; exact ⟨_, by simp, r⟩
    | succ i => simpa using ih (i := i) (by simpa using e)
theorem LReps.append {xs ys : List LV} {vs ws : List V} (h : LReps K mg W xs vs) (g : LReps K mg W ys ws) : LReps K mg W (xs ++ ys) (vs ++ ws) := by
  induction h with
  | nil => exact g
  | cons r _ ih => exact .cons r ih
theorem LReps.one {x : LV} {v : V} (r : LRep K mg W x v) : LReps K mg W [x] [v] := .cons r .nil
theorem LReps.set {xs : List LV} {vs : List V} {x : LV} {v : V} (r : LRep K mg W x v) (h : LReps K mg W xs vs) : ∀ i : Nat, LReps K mg W (xs.set i x) (vs.set i v) := by
  induction h with
  | nil => intro i; exact .nil
  | cons q t ih =>
    intro i
    cases i with
    | zero => exact .cons r t
    | succ i => exact .cons q (ih i)
theorem LReps.take {xs : List LV} {vs : List V} (h : LReps K mg W xs vs) : ∀ n : Nat, LReps K mg W (xs.take n) (vs.take n) := by
  induction h with
  | nil => intro n; cases n <;> exact .nil
  | cons r t ih => intro n; cases n with
    | zero => exact .nil
    | succ n => exact .cons r (ih n)
theorem LReps.drop {xs : List LV} {vs : List V} (h : LReps K mg W xs vs) : ∀ n : Nat, LReps K mg W (xs.drop n) (vs.drop n) := by
  induction h with
  | nil => intro n; cases n <;> exact .nil
  | cons r t ih => intro n; cases n with
    | zero => exact .cons r t
    | succ n => exact ih n
theorem LReps.reverse {xs : List LV} {vs : List V} (h : LReps K mg W xs vs) : LReps K mg W xs.reverse vs.reverse := by
  induction h with
  | nil => exact .nil
  | cons r t ih => rw [List.reverse_cons, List.reverse_cons]; exact ih.append (.one r)
theorem Reps.l {xs : List PV} {vs : List V} (h : Reps K mg W xs vs) : LReps K mg W (xs.map .pv) vs := by
  induction xs generalizing vs with
  | nil => cases h; exact .nil
  | cons x xs ih => cases h with | cons r t => exact .cons r (ih t)
theorem LReps.p : ∀ {xs : List PV} {vs : List V}, LReps K mg W (xs.map .pv) vs → Reps K mg W xs vs
  | [], _, h => by cases h; exact .nil
  | x :: xs, _, h => by cases h with | cons r t => exact .cons r (LReps.p t)
end
/-- the items, if they are all frozen -/
def pvs : List LV → Option (List PV)
  | [] => some []
  | .pv p :: r => (pvs r).map (p :: ·)
  | .ref _ :: _ => none
@[simp] theorem pvs_map (xs : List PV) : pvs (xs.map .pv) = some xs := by
  induction xs with
  | nil => rfl
  | cons x xs ih => simp [pvs, ih]
theorem pvs_some : ∀ {ls : List LV} {xs : List PV}, pvs ls = some xs → ls = xs.map .pv
  | [], xs, h => by cases h; rfl
  | .pv p :: r, xs, h => by
    unfold pvs at h
    cases q : pvs r with
    | none => rw [q] at h; cases h
    | some ys => rw [q] at h; cases h; rw [pvs_some q]; rfl
  | .ref _ :: r, xs, h => by cases h
inductive SRes where
  | next (env : EN) (h : LH) | ret (v : LV) (h : LH) | brk (env : EN) (h : LH) | cont (env : EN) (h : LH) | exc (e : LX) (env : EN) (h : LH) | stuck
  deriving Inhabited
def BRep (_ : Wd) (b : Bool) (c : Bool) : Prop := c = b
def sBind {α : Type} (env : EN) (r : Res α) (k : α → LH → SRes) : SRes := match r with | .ok x lh1 => k x lh1 | .exc e lh1 => .exc e env lh1 | .stuck => .stuck
@[simp] theorem sBind_ok {α : Type} (env : EN) (a : α) (h : LH) (k : α → LH → SRes) : sBind env (.ok a h) k = k a h := rfl
@[simp] theorem sBind_exc {α : Type} (env : EN) (e : LX) (h : LH) (k : α → LH → SRes) : sBind env (.exc e h) k = .exc e env h := rfl
@[simp] theorem sBind_stuck {α : Type} (env : EN) (k : α → LH → SRes) : sBind env .stuck k = .stuck := rfl
section
variable [L : LamC] [S : Susp] (K : PySem.W.Frag) (mg : Str → Option Value)
/-- what is asked of a result, from a world -/
def tR {α γ : Type} (P : Wd → α → γ → Prop) (W : Wd) (E : XK) (r : Res α) (Q : γ → Hp → Prop) : Prop := match r with
  | .ok x lh => ∀ v W', Ext W W' → LhR K mg W' lh → P W' x v → Q v W'.H
  | .exc e lh => ∀ c d W', Ext W W' → LhR K mg W' lh → XRep K mg W' e c d → E c d W'.H
  | .stuck => False
def tE {α γ : Type} (P : Wd → α → γ → Prop) (Wx : WX) (f : EN → LH → Res α) (σ : L2.St) (H : Hp) (Q : γ → Hp → Prop) : Prop :=
  ∃ W env lh, W.H = H ∧ SR K mg W σ env lh ∧ tR K mg P W (WE Wx σ) (f env lh) Q
/-- an expression's, an argument list's, a test's -/
abbrev tF (Wx : WX) (f : EN → LH → Res LV) : TE := tE K mg (LRep K mg) Wx f
abbrev tFs (Wx : WX) (f : EN → LH → Res (List LV)) : TA := tE K mg (LReps K mg) Wx f
abbrev tFb (Wx : WX) (f : EN → LH → Res Bool) : TT := tE K mg BRep Wx f
def tSR (W : Wd) (Wx : WX) (r : SRes) (D : Ends) : Prop := match r with
  | .next env lh => ∀ σ W', Ext W W' → SR K mg W' σ env lh → D.nx σ W'.H
  | .brk env lh => ∀ σ W', Ext W W' → SR K mg W' σ env lh → D.bk σ W'.H
  | .cont env lh => ∀ σ W', Ext W W' → SR K mg W' σ env lh → D.ct σ W'.H
  | .ret v lh => ∀ u W', Ext W W' → LhR K mg W' lh → LRep K mg W' v u → D.rt u W'.H
  | .exc e env lh => ∀ c d σ W', Ext W W' → SR K mg W' σ env lh → XRep K mg W' e c d → Wx c d σ W'.H
  | .stuck => False
def tS (Wx : WX) (f : EN → LH → SRes) : TS := fun D σ H => ∃ W env lh, W.H = H ∧ SR K mg W σ env lh ∧ tSR K mg W Wx (f env lh) D
end
section
variable [L : LamC] [S : Susp]
abbrev FE (X : Cx) (Wx : WX) (e : Expr) (f : EN → LH → Res LV) : Prop := PE X e (tF X.K X.mg Wx f)
abbrev FA (X : Cx) (Wx : WX) (es : List Expr) (f : EN → LH → Res (List LV)) : Prop := PA X es (tFs X.K X.mg Wx f)
abbrev FT (X : Cx) (Wx : WX) (e : Expr) (f : EN → LH → Res Bool) : Prop := PT X e (tFb X.K X.mg Wx f)
abbrev FS (X : Cx) (Wx : WX) (st : Stmt) (f : EN → LH → SRes) : Prop := PS X st (tS X.K X.mg Wx f)
abbrev FSs (X : Cx) (Wx : WX) (sts : List Stmt) (f : EN → LH → SRes) : Prop := PSs X sts (tS X.K X.mg Wx f)
end
section
variable [L : LamC] [S : Susp] {K : PySem.W.Frag} {mg : Str → Option Value} {W : Wd} {σ : L2.St} {env : EN} {lh : LH}
theorem SR.mono {W' : Wd} {lh' : LH} (s : SR K mg W σ env lh) (e : Ext W W') (h : LhR K mg W' lh') : SR K mg W' σ env lh' := ⟨h, s.sl.mono e.toEx⟩
theorem tR.mono {α γ : Type} {P : Wd → α → γ → Prop} {W' : Wd} {E : XK} {r : Res α} {Q : γ → Hp → Prop} (e : Ext W W') (h : tR K mg P W E r Q) : tR K mg P W' E r Q := by
  cases r with
  | ok x lh => exact fun v W'' f l q => h v W'' (e.trans f) l q
  | exc x lh => exact fun c d W'' f l q => h c d W'' (e.trans f) l q
  | stuck => exact h
theorem tSR.mono {W' : Wd} {Wx : WX} {r : SRes} {D : Ends} (e : Ext W W') (h : tSR K mg W Wx r D) : tSR K mg W' Wx r D := by
  cases r with
  | next => exact fun σ W'' f s => h σ W'' (e.trans f) s
  | brk => exact fun σ W'' f s => h σ W'' (e.trans f) s
  | cont => exact fun σ W'' f s => h σ W'' (e.trans f) s
  | ret => exact fun u W'' f l q => h u W'' (e.trans f) l q
  | exc => exact fun c d σ W'' f s q => h c d σ W'' (e.trans f) s q
  | stuck => exact h
/-- one part, then the rest -/
theorem go {α β γ δ : Type} {P : Wd → α → γ → Prop} {P' : Wd → β → δ → Prop} {Wx : WX} {f : EN → LH → Res α} {k : α → LH → Res β} {Q : δ → Hp → Prop} {R : γ → Hp → Prop} (sr : SR K mg W σ env lh)
    (h : tR K mg P' W (WE Wx σ) ((f env lh).bind k) Q)
    (hk : ∀ x lh1 v W1, Ext W W1 → SR K mg W1 σ env lh1 → P W1 x v → tR K mg P' W1 (WE Wx σ) (k x lh1) Q → R v W1.H) : tE K mg P Wx f σ W.H R := by
  refine ⟨W, env, lh, rfl, sr, ?_⟩
  cases q : f env lh with
  | ok x lh1 =>
    rw [q] at h
    exact fun v W1 e l r => hk x lh1 v W1 e (sr.mono e l) r (h.mono e)
  | exc x lh1 =>
    rw [q] at h
    exact h
  | stuck =>
    rw [q] at h
    exact h.elim
/-- at the end -/
theorem fin {α γ : Type} {P : Wd → α → γ → Prop} {E : XK} {x : α} {v : γ} {Q : γ → Hp → Prop} (h : tR K mg P W E (.ok x lh) Q) (l : LhR K mg W lh) (r : P W x v) : Q v W.H := h v W (Ext.refl W) l r
/-- a statement's part, then the rest -/
theorem goS {α γ : Type} {P : Wd → α → γ → Prop} {Wx : WX} {f : EN → LH → Res α} {k : α → LH → SRes} {D : Ends} {R : γ → Hp → Prop} (sr : SR K mg W σ env lh)
    (h : tSR K mg W Wx (sBind env (f env lh) k) D)
    (hk : ∀ x lh1 v W1, Ext W W1 → SR K mg W1 σ env lh1 → P W1 x v → tSR K mg W1 Wx (k x lh1) D → R v W1.H) : tE K mg P Wx f σ W.H R := by
  refine ⟨W, env, lh, rfl, sr, ?_⟩
  cases q : f env lh with
  | ok x lh1 =>
    rw [q] at h
    exact fun v W1 e l r => hk x lh1 v W1 e (sr.mono e l) r (h.mono e)
  | exc x lh1 =>
    rw [q] at h
    exact fun c d W1 e l r => h c d σ W1 e (sr.mono e l) r
  | stuck =>
    rw [q] at h
    exact h.elim
end
theorem PE.imp {X : Cx} {e : Expr} {t t' : TE} (h : PE X e t) (i : ∀ σ H Q, t' σ H Q → t σ H Q) : PE X e t' := ⟨fun pins s σ H Q I q => h.run pins s σ H Q I (i σ H Q q)⟩
theorem PT.imp {X : Cx} {e : Expr} {t t' : TT} (h : PT X e t) (i : ∀ σ H Q, t' σ H Q → t σ H Q) : PT X e t' := ⟨fun pins s σ H Q I q => h.run pins s σ H Q I (i σ H Q q)⟩
theorem PA.imp {X : Cx} {e : List Expr} {t t' : TA} (h : PA X e t) (i : ∀ σ H Q, t' σ H Q → t σ H Q) : PA X e t' := ⟨fun pos pins s σ H Q I q => h.run pos pins s σ H Q I (i σ H Q q)⟩
theorem PS.imp {X : Cx} {e : Stmt} {t t' : TS} (h : PS X e t) (i : ∀ D σ H, t' D σ H → t D σ H) : PS X e t' := ⟨fun pins s σ H D I q => h.run pins s σ H D I (i D σ H q)⟩
theorem PSs.imp {X : Cx} {e : List Stmt} {t t' : TS} (h : PSs X e t) (i : ∀ D σ H, t' D σ H → t D σ H) : PSs X e t' := ⟨fun pins s σ H D I q => h.run pins s σ H D I (i D σ H q)⟩
theorem tabS_upd {H : Hp} {P p : Addr} {q : Str} {o : HO} (t : LamX.TabS H P q) (h : ∀ u, H p = some u → (∀ ps, u ≠ .tbl ps) ∧ ∀ φ, u ≠ .ext φ) : LamX.TabS (upd H p o) P q := by
  obtain ⟨ps, h1, h2, h3⟩ := t
  have n1 : P ≠ p := fun z => (h _ (z ▸ h1)).1 _ rfl
  refine ⟨ps, by rw [upd_ne n1]; exact h1, h2, fun pos cv hc => ?_⟩
  obtain ⟨c, e1, e2⟩ := h3 pos cv hc
  have n2 : c ≠ p := fun z => (h _ (z ▸ e2)).2 _ rfl
  exact ⟨c, e1, by rw [upd_ne n2]; exact e2⟩
theorem tabS_new {H : Hp} {P p : Addr} {q : Str} {o : HO} (t : LamX.TabS H P q) (h : H p = none) : LamX.TabS (upd H p o) P q := tabS_upd t fun u z => by rw [h] at z; cases z
theorem ORep.plain [L : LamC] {K : PySem.W.Frag} {mg : Str → Option Value} {W : Wd} {o : LO} {u : HO} (r : ORep K mg W o u) : (∀ ps, u ≠ .tbl ps) ∧ ∀ φ, u ≠ .ext φ := by
  refine ⟨fun ps z => ?_, fun φ z => ?_⟩ <;> subst z <;> cases r
end Z
namespace Z
open PySem PySem.Spec PyProof.Rows L2
def fName (i : Nat) (env : EN) (lh : LH) : Res LV := match env[i]? with
  | some (some x) => .ok x lh
  | _ => .stuck
def fC (p : PV) (_ : EN) (lh : LH) : Res LV := .ok (.pv p) lh
def fBin (z : LV → LV → LH → Res LV) (fa fb : EN → LH → Res LV) (env : EN) (lh : LH) : Res LV :=
  (fa env lh).bind fun x lh1 => (fb env lh1).bind fun y lh2 => z x y lh2
def fUn (z : LV → LH → Res LV) (fa : EN → LH → Res LV) (env : EN) (lh : LH) : Res LV := (fa env lh).bind fun x lh1 => z x lh1
def fNil (_ : EN) (lh : LH) : Res (List LV) := .ok [] lh
def fCons (fa : EN → LH → Res LV) (fr : EN → LH → Res (List LV)) (env : EN) (lh : LH) : Res (List LV) :=
  (fa env lh).bind fun x lh1 => (fr env lh1).bind fun xs lh2 => .ok (x :: xs) lh2
def asB (x : LV) (lh : LH) : Res Bool := match x with
  | .pv (.bl b) => .ok b lh
  | _ => .stuck
@[simp] theorem asB_bl (b : Bool) (lh : LH) : asB (.pv (.bl b)) lh = .ok b lh := rfl
/-- a value that must be a bool, as a test -/
def tV (fa : EN → LH → Res LV) (env : EN) (lh : LH) : Res Bool := (fa env lh).bind asB
def tAndZ (t u : EN → LH → Res Bool) (env : EN) (lh : LH) : Res Bool := (t env lh).bind fun b lh1 => if b = true then u env lh1 else .ok false lh1
def tOrZ (t u : EN → LH → Res Bool) (env : EN) (lh : LH) : Res Bool := (t env lh).bind fun b lh1 => if b = true then .ok true lh1 else u env lh1
def tNotZ (t : EN → LH → Res Bool) (env : EN) (lh : LH) : Res Bool := (t env lh).bind fun b lh1 => .ok (!b) lh1
def fAnd (fa fb : EN → LH → Res LV) (env : EN) (lh : LH) : Res LV := (fa env lh).bind fun x lh1 => (asB x lh1).bind fun b lh2 => if b = true then fb env lh2 else .ok (.pv (.bl false)) lh2
def fOr (fa fb : EN → LH → Res LV) (env : EN) (lh : LH) : Res LV := (fa env lh).bind fun x lh1 => (asB x lh1).bind fun b lh2 => if b = true then .ok (.pv (.bl true)) lh2 else fb env lh2
def fNot (fa : EN → LH → Res LV) (env : EN) (lh : LH) : Res LV := (fa env lh).bind fun x lh1 => (asB x lh1).bind fun b lh2 => .ok (.pv (.bl (!b))) lh2
def fIfE (t : EN → LH → Res Bool) (fa fb : EN → LH → Res LV) (env : EN) (lh : LH) : Res LV := (t env lh).bind fun b lh1 => if b = true then fa env lh1 else fb env lh1
section
variable {X : Cx} {Wx : WX} {a b : Expr} {fa fb : EN → LH → Res LV} {pos : Pos}
theorem fe_name [L : LamC] [S : Susp] {i : Nat} {x : Str} (hN : X.N[i]? = some x := by rfl) (hv : Vis X.env.scope x := by first | exact Or.inl rfl | exact Or.inr (Or.inl rfl) | exact Or.inr (Or.inr rfl)) (hd : (x == ("__debug__" : Str)) = false := by decide)
    (hcd : (x == ("__classdict__" : Str)) = false := by decide) : FE X Wx (.Name x pos) (fName i) := by
  refine PE.imp (pe_var hN hv hd hcd) fun σ H Q ⟨W, env, lh, hH, sr, h⟩ => ?_
  subst hH
  unfold fName at h
  split at h
  · next x e =>
    obtain ⟨v, hv, r⟩ := sr.sl.at_ i x e
    exact ⟨v, hv, fin h sr.lh r⟩
  · exact h.elim
theorem fe_c [L : LamC] [S : Susp] {e : Expr} {p : PV} {v : V} (h : PE X e (tC v)) (r : ∀ W, Rep X.K X.mg W p v) : FE X Wx e (fC p) := by
  refine PE.imp h fun σ H Q ⟨W, env, lh, hH, sr, h⟩ => ?_
  subst hH
  exact fin h sr.lh (r _)
theorem fe_int [L : LamC] [S : Susp] {i j} : FE X Wx (.Constant (.int i) j pos) (fC (.int i)) := fe_c pe_int fun _ => .int
theorem fe_bl [L : LamC] [S : Susp] {i j} : FE X Wx (.Constant (.bool i) j pos) (fC (.bl i)) := fe_c pe_bl fun _ => .bl
theorem fe_non [L : LamC] [S : Susp] {j} : FE X Wx (.Constant .none j pos) (fC .non) := fe_c pe_non fun _ => .non
theorem fe_str [L : LamC] [S : Susp] {i j} : FE X Wx (.Constant (.str i) j pos) (fC (.str i)) := fe_c pe_str fun _ => .str
theorem fe_glob [L : LamC] [S : Susp] {x : Str} {c : Addr} (hg : Gl X x) (hm : X.mg x = some (.ref c)) (hd : (x == ("__debug__" : Str)) = false := by decide) : FE X Wx (.Name x pos) (fC (.glob x)) :=
  fe_c (pe_glob (v := .ref c) hg hm rfl hd) fun _ => .glob hm
/-- a module's number -/
theorem fe_gint [L : LamC] [S : Susp] {x : Str} {i : Int} {t : Tok} (hg : Gl X x) (hm : X.mg x = some (.int i t)) (hd : (x == ("__debug__" : Str)) = false := by decide) : FE X Wx (.Name x pos) (fC (.int i)) :=
  fe_c (pe_glob (v := .int i) hg hm ⟨t, rfl⟩ hd) fun _ => .int
theorem fe_gstr [L : LamC] [S : Susp] {x : Str} {i : Str} {t : Tok} (hg : Gl X x) (hm : X.mg x = some (.str i t)) (hd : (x == ("__debug__" : Str)) = false := by decide) : FE X Wx (.Name x pos) (fC (.str i)) :=
  fe_c (pe_glob (v := .str i) hg hm ⟨t, rfl⟩ hd) fun _ => .str
/-- a module's tuple, list -/
theorem fe_gref [L : LamC] [S : Susp] {x : Str} {c : Addr} {p : PV} (hg : Gl X x) (hm : X.mg x = some (.ref c)) (r : ∀ W, Rep X.K X.mg W p (.ref c)) (hd : (x == ("__debug__" : Str)) = false := by decide) : FE X Wx (.Name x pos) (fC p) :=
  fe_c (pe_glob (v := .ref c) hg hm rfl hd) r
def OpZ [L : LamC] [S : Susp] (X : Cx) (f : Value → Value → Sem Value) (z : LV → LV → LH → Res LV) : Prop := ∃ r : R2, OpR X f r ∧
  ∀ (W : Wd) (E : XK) (x y : LV) (lh : LH) (v w : V) (Q : VK), LhR X.K X.mg W lh → LRep X.K X.mg W x v → LRep X.K X.mg W y w → tR X.K X.mg (LRep X.K X.mg) W E (z x y lh) Q → r v w W.H Q
theorem fe_bin [L : LamC] [S : Susp] {op : Operator} {z : LV → LV → LH → Res LV} (ho : OpZ X (binaryOp op) z) (ha : FE X Wx a fa) (hb : FE X Wx b fb) : FE X Wx (.BinOp a op b pos) (fBin z fa fb) := by
  obtain ⟨r, h1, h2⟩ := ho
  refine PE.imp (pe_op h1 ha hb) fun σ H Q ⟨W, env, lh, hH, sr, h⟩ => ?_
  subst hH
  refine go (k := fun x lh1 => (fb env lh1).bind fun y lh2 => z x y lh2) sr h fun x lh1 v W1 e1 s1 r1 h1 => ?_
  refine go (k := fun y lh2 => z x y lh2) s1 h1 fun y lh2 w W2 e2 s2 r2 h3 => ?_
  exact h2 W2 _ x y lh2 v w Q s2.lh (r1.mono e2.toEx) r2 h3
theorem fe_cmp [L : LamC] [S : Susp] {op : CmpOp} {z : LV → LV → LH → Res LV} (ho : OpZ X (compareOp op) z) (ha : FE X Wx a fa) (hb : FE X Wx b fb) (hm : behindInMarks op b = false := by first | exact nomark _ | rfl) : FE X Wx (.Compare a [op] [b] pos) (fBin z fa fb) := by
  obtain ⟨r, h1, h2⟩ := ho
  refine PE.imp (pe_cmpR h1 ha hb hm) fun σ H Q ⟨W, env, lh, hH, sr, h⟩ => ?_
  subst hH
  refine go (k := fun x lh1 => (fb env lh1).bind fun y lh2 => z x y lh2) sr h fun x lh1 v W1 e1 s1 r1 h1 => ?_
  refine go (k := fun y lh2 => z x y lh2) s1 h1 fun y lh2 w W2 e2 s2 r2 h3 => ?_
  exact h2 W2 _ x y lh2 v w Q s2.lh (r1.mono e2.toEx) r2 h3
/-- what a value must be to be a test -/
theorem asB_of [L : LamC] [S : Susp] {α γ : Type} {P : Wd → α → γ → Prop} {W : Wd} {E : XK} {x : LV} {lh : LH} {v : V} {k : Bool → LH → Res α} {Q : γ → Hp → Prop} (r : LRep X.K X.mg W x v)
    (h : tR X.K X.mg P W E ((asB x lh).bind k) Q) : ∃ b, x = .pv (.bl b) ∧ v = .bl b ∧ tR X.K X.mg P W E (k b lh) Q := by
  cases x with
  | pv p =>
    cases p with
    | bl b => cases r; exact ⟨b, rfl, rfl, h⟩
    | _ => exact h.elim
  | ref n => exact h.elim
theorem bl_of [L : LamC] [S : Susp] {W : Wd} {E : XK} {x : LV} {lh : LH} {v : V} {Q : Bool → Hp → Prop} (l : LhR X.K X.mg W lh) (r : LRep X.K X.mg W x v)
    (h : tR X.K X.mg BRep W E (asB x lh) Q) : ∃ k, v = .bl k ∧ Q k W.H := by
  cases x with
  | pv p =>
    cases p with
    | bl b => cases r; exact ⟨b, rfl, fin h l rfl⟩
    | _ => exact h.elim
  | ref n => exact h.elim
theorem ft_val [L : LamC] [S : Susp] {fa : EN → LH → Res LV} (ha : FE X Wx a fa) (he : ∀ whole, isTrue a X.env whole = (do let v ← whole; standAt a.pos; holding [v] (truthy v)) := by intro _; rfl) : FT X Wx a (tV fa) := by
  refine PT.imp (pt_val ha he) fun σ H Q ⟨W, env, lh, hH, sr, h⟩ => ?_
  subst hH
  refine go (k := asB) sr h fun x lh1 v W1 e1 s1 r1 h1 => ?_
  exact bl_of s1.lh r1 h1
theorem ft_cmp [L : LamC] [S : Susp] {op : CmpOp} {z : LV → LV → LH → Res LV} (ho : OpZ X (compareOp op) z) (ha : FE X Wx a fa) (hb : FE X Wx b fb) (hm : behindInMarks op b = false := by first | exact nomark _ | rfl) : FT X Wx (.Compare a [op] [b] pos) (tV (fBin z fa fb)) := by
  obtain ⟨r, h1, h2⟩ := ho
  refine PT.imp (pt_cmpR h1 ha hb hm) fun σ H Q ⟨W, env, lh, hH, sr, h⟩ => ?_
  subst hH
  have h : tR X.K X.mg BRep W (WE Wx σ) ((fa env lh).bind fun x lh1 => (fb env lh1).bind fun y lh2 => (z x y lh2).bind asB) Q := by
    have e : tV (fBin z fa fb) env lh = ((fa env lh).bind fun x lh1 => (fb env lh1).bind fun y lh2 => (z x y lh2).bind asB) := by
      unfold tV fBin
      cases fa env lh with
      | ok x lh1 => simp only [Res.bind_ok]; cases fb env lh1 <;> rfl
      | exc x lh1 => rfl
      | stuck => rfl
    rw [← e]; exact h
  refine go (k := fun x lh1 => (fb env lh1).bind fun y lh2 => (z x y lh2).bind asB) sr h fun x lh1 v W1 e1 s1 r1 h1 => ?_
  refine go (k := fun y lh2 => (z x y lh2).bind asB) s1 h1 fun y lh2 w W2 e2 s2 r2 h3 => ?_
  cases q : z x y lh2 with
  | ok u lh3 =>
    rw [q] at h3
    refine h2 W2 (WE Wx σ) x y lh2 v w _ s2.lh (r1.mono e2.toEx) r2 ?_
    rw [q]
    intro v3 W3 e3 l3 r3
    exact bl_of l3 r3 (h3.mono e3)
  | exc u lh3 =>
    rw [q] at h3
    refine h2 W2 (WE Wx σ) x y lh2 v w _ s2.lh (r1.mono e2.toEx) r2 ?_
    rw [q]
    exact h3
  | stuck => rw [q] at h3; exact h3.elim
variable {t u : EN → LH → Res Bool} {rest : List Expr}
structure FW [L : LamC] [S : Susp] (X : Cx) (Wx : WX) (e : Expr) (f : EN → LH → Res Bool) : Prop where
  pw : PW X e (tFb X.K X.mg Wx f)
theorem PW.imp {X : Cx} {e : Expr} {t t' : TT} (h : PW X e t) (i : ∀ σ H Q, t' σ H Q → t σ H Q) : PW X e t' := ⟨fun wh pins s σ H Q I q => h.run wh pins s σ H Q I (i σ H Q q)⟩
theorem FW.ft [L : LamC] [S : Susp] {e : Expr} (h : FW X Wx e t) : FT X Wx e t := h.pw.pt
theorem fw_and1 [L : LamC] [S : Susp] (ha : FT X Wx a t) : FW X Wx (.BoolOp .And [a] pos) t := ⟨pw_and1 ha⟩
theorem fw_or1 [L : LamC] [S : Susp] (ha : FT X Wx a t) : FW X Wx (.BoolOp .Or [a] pos) t := ⟨pw_or1 ha⟩
theorem fw_and [L : LamC] [S : Susp] (ha : FT X Wx a t) (hb : FW X Wx (.BoolOp .And (b :: rest) pos) u) : FW X Wx (.BoolOp .And (a :: b :: rest) pos) (tAndZ t u) := by
  refine ⟨PW.imp (pw_and ha hb.pw) fun σ H Q ⟨W, env, lh, hH, sr, h⟩ => ?_⟩
  subst hH
  refine go (k := fun c lh1 => if c = true then u env lh1 else .ok false lh1) sr h fun c lh1 v W1 e1 s1 r1 h1 => ?_
  cases r1
  cases c with
  | true => exact ⟨W1, env, lh1, rfl, s1, h1⟩
  | false => exact fin h1 s1.lh rfl
theorem fw_or [L : LamC] [S : Susp] (ha : FT X Wx a t) (hb : FW X Wx (.BoolOp .Or (b :: rest) pos) u) : FW X Wx (.BoolOp .Or (a :: b :: rest) pos) (tOrZ t u) := by
  refine ⟨PW.imp (pw_or ha hb.pw) fun σ H Q ⟨W, env, lh, hH, sr, h⟩ => ?_⟩
  subst hH
  refine go (k := fun c lh1 => if c = true then .ok true lh1 else u env lh1) sr h fun c lh1 v W1 e1 s1 r1 h1 => ?_
  cases r1
  cases c with
  | true => exact fin h1 s1.lh rfl
  | false => exact ⟨W1, env, lh1, rfl, s1, h1⟩
theorem ft_not [L : LamC] [S : Susp] (ha : FT X Wx a t) : FT X Wx (.UnaryOp .Not a pos) (tNotZ t) := by
  refine PT.imp (pt_not ha) fun σ H Q ⟨W, env, lh, hH, sr, h⟩ => ?_
  subst hH
  refine go (k := fun c lh1 => .ok (!c) lh1) sr h fun c lh1 v W1 e1 s1 r1 h1 => ?_
  cases r1
  exact fin h1 s1.lh rfl
theorem fe_one [L : LamC] [S : Susp] {op} (h : FE X Wx a fa) : FE X Wx (.BoolOp op [a] pos) fa := pe_one h
theorem fe_and [L : LamC] [S : Susp] (ha : FE X Wx a fa) (hb : FE X Wx (.BoolOp .And (b :: rest) pos) fb) : FE X Wx (.BoolOp .And (a :: b :: rest) pos) (fAnd fa fb) := by
  refine PE.imp (pe_and ha hb) fun σ H Q ⟨W, env, lh, hH, sr, h⟩ => ?_
  subst hH
  refine go (k := fun x lh1 => (asB x lh1).bind fun b lh2 => if b = true then fb env lh2 else .ok (.pv (.bl false)) lh2) sr h fun x lh1 v W1 e1 s1 r1 h1 => ?_
  obtain ⟨b, rfl, rfl, h1⟩ := asB_of r1 h1
  refine ⟨b, rfl, ?_⟩
  cases b with
  | true => exact ⟨W1, env, lh1, rfl, s1, h1⟩
  | false => exact fin h1 s1.lh .bl
theorem fe_or [L : LamC] [S : Susp] (ha : FE X Wx a fa) (hb : FE X Wx (.BoolOp .Or (b :: rest) pos) fb) : FE X Wx (.BoolOp .Or (a :: b :: rest) pos) (fOr fa fb) := by
  refine PE.imp (pe_or ha hb) fun σ H Q ⟨W, env, lh, hH, sr, h⟩ => ?_
  subst hH
  refine go (k := fun x lh1 => (asB x lh1).bind fun b lh2 => if b = true then .ok (.pv (.bl true)) lh2 else fb env lh2) sr h fun x lh1 v W1 e1 s1 r1 h1 => ?_
  obtain ⟨b, rfl, rfl, h1⟩ := asB_of r1 h1
  refine ⟨b, rfl, ?_⟩
  cases b with
  | true => exact fin h1 s1.lh .bl
  | false => exact ⟨W1, env, lh1, rfl, s1, h1⟩
theorem fe_not [L : LamC] [S : Susp] (ha : FE X Wx a fa) : FE X Wx (.UnaryOp .Not a pos) (fNot fa) := by
  refine PE.imp (pe_not ha) fun σ H Q ⟨W, env, lh, hH, sr, h⟩ => ?_
  subst hH
  refine go (k := fun x lh1 => (asB x lh1).bind fun b lh2 => .ok (LV.pv (.bl (!b))) lh2) sr h fun x lh1 v W1 e1 s1 r1 h1 => ?_
  obtain ⟨b, rfl, rfl, h1⟩ := asB_of r1 h1
  exact ⟨b, rfl, fin h1 s1.lh .bl⟩
theorem fe_ifE [L : LamC] [S : Susp] {c : Expr} (hc : FT X Wx c t) (ha : FE X Wx a fa) (hb : FE X Wx b fb) : FE X Wx (.IfExp c a b pos) (fIfE t fa fb) := by
  refine PE.imp (pe_ifExp hc ha hb) fun σ H Q ⟨W, env, lh, hH, sr, h⟩ => ?_
  subst hH
  refine go (k := fun c lh1 => if c = true then fa env lh1 else fb env lh1) sr h fun c lh1 v W1 e1 s1 r1 h1 => ?_
  cases r1
  cases c with
  | true => exact ⟨W1, env, lh1, rfl, s1, h1⟩
  | false => exact ⟨W1, env, lh1, rfl, s1, h1⟩
theorem fa_nil [L : LamC] [S : Susp] : FA X Wx [] fNil := PA.imp pa_nil fun σ H Q ⟨W, env, lh, hH, sr, h⟩ => hH ▸ fin h sr.lh .nil
theorem fa_cons [L : LamC] [S : Susp] {es : List Expr} {fr : EN → LH → Res (List LV)} (ha : FE X Wx a fa) (hr : FA X Wx es fr) (hs : starEach (a :: es) X.env = (false, eval a X.env) :: starEach es X.env := by rfl) : FA X Wx (a :: es) (fCons fa fr) := by
  refine PA.imp (pa_cons ha hr hs) fun σ H Q ⟨W, env, lh, hH, sr, h⟩ => ?_
  subst hH
  refine go (k := fun x lh1 => (fr env lh1).bind fun xs lh2 => .ok (x :: xs) lh2) sr h fun x lh1 v W1 e1 s1 r1 h1 => ?_
  refine go (k := fun xs lh2 => .ok (x :: xs) lh2) s1 h1 fun xs lh2 vs W2 e2 s2 r2 h2 => ?_
  exact fin h2 s2.lh (.cons (r1.mono e2.toEx) r2)
end
end Z
namespace Z
open PySem PySem.Spec PyProof.Rows L2
section
variable {K : PySem.W.Frag} {mg : Str → Option Value} {W : Wd} {lh : LH}
theorem Ext.new [L : LamC] [S : Susp] {p : Addr} {o : HO} (l : LhR K mg W lh) (hp : W.H p = none) : Ext W ⟨upd W.H p o, W.io, W.hd⟩ where
  mem := fun a h => .inl h
  kept := fun a u h _ => ⟨u, by show upd W.H p o a = some u; rw [upd_ne (ne_of_none h hp)]; exact h, .inl rfl⟩
  trk := fun a h => by
    show upd W.H p o a ≠ none
    by_cases e : a = p
    · rw [e, upd_same]; simp
    · rw [upd_ne e]; exact h
  hdE := rfl
  hdk := fun a h => by
    show upd W.H p o a = W.H a
    exact upd_ne fun z => l.mu a (.inr h) (z ▸ hp)
  len := Nat.le_refl _
  at_ := fun _ _ _ h => h
theorem LhR.new [L : LamC] [S : Susp] {p : Addr} {o : HO} (l : LhR K mg W lh) (hp : W.H p = none) : LhR K mg ⟨upd W.H p o, W.io, W.hd⟩ lh := by
  refine ⟨l.len, l.inj, fun a h => ⟨(Ext.new l hp).trk a (l.hid a h).1, (l.hid a h).2⟩, fun n u q h1 h2 => ?_, fun P e => tabS_new (l.tab P e) hp, l.sus.mono (Ext.new l hp).toEx, fun a v h hv => l.hdp a v h ((upd_ne (fun z => l.mu a (.inr h) (by rw [z]; exact hp))).symm.trans hv)⟩
  have := l.at_ n u q h1 h2
  cases q with
  | none => exact this
  | some a =>
    obtain ⟨w, h, r⟩ := this
    exact ⟨w, by show upd W.H p o a = some w; rw [upd_ne (ne_of_none h hp)]; exact h, r.mono (Ext.new l hp).toEx⟩
theorem nMu_new [L : LamC] [S : Susp] {p : Addr} {o : HO} (l : LhR K mg W lh) (hp : W.H p = none) : ¬ Wd.Mu ⟨upd W.H p o, W.io, W.hd⟩ p := fun m => l.mu p m hp
/-- the end of a rule that makes a frozen list, tuple -/
theorem fin_lst [L : LamC] [S : Susp] {E : XK} {ps : List PV} {vs : List V} {Q : VK} {p : Addr} (h : tR K mg (LRep K mg) W E (.ok (.pv (.lst ps)) lh) Q) (l : LhR K mg W lh) (r : Reps K mg W ps vs) (hp : W.H p = none) :
    Q (.ref p) (upd W.H p (.lst vs)) :=
  h (.ref p) ⟨upd W.H p (.lst vs), W.io, W.hd⟩ (Ext.new l hp) (l.new hp) (.lst ⟨.inl upd_same, nMu_new l hp⟩ (r.mono (Ext.new l hp).toEx.toEx0))
theorem fin_tup [L : LamC] [S : Susp] {E : XK} {ps : List PV} {vs : List V} {Q : VK} {p : Addr} (h : tR K mg (LRep K mg) W E (.ok (.pv (.tup ps)) lh) Q) (l : LhR K mg W lh) (r : Reps K mg W ps vs) (hp : W.H p = none) :
    Q (.ref p) (upd W.H p (.tup vs)) :=
  h (.ref p) ⟨upd W.H p (.tup vs), W.io, W.hd⟩ (Ext.new l hp) (l.new hp) (.tup (.inl ⟨.inl upd_same, nMu_new l hp⟩) (r.mono (Ext.new l hp).toEx.toEx0))
theorem Ext.newM [L : LamC] [S : Susp] {p : Addr} {o : HO} (l : LhR K mg W lh) (hp : W.H p = none) : Ext W ⟨upd W.H p o, W.io ++ [some p], W.hd⟩ where
  mem := fun a h => by
    rcases h with h | h
    · rcases List.mem_append.mp h with h | h
      · exact .inl (.inl h)
      · have : a = p := by simpa using h
        subst this; exact .inr hp
    · exact .inl (.inr h)
  kept := fun a u h _ => ⟨u, by show upd W.H p o a = some u; rw [upd_ne (ne_of_none h hp)]; exact h, .inl rfl⟩
  trk := fun a h => by
    show upd W.H p o a ≠ none
    by_cases e : a = p
    · rw [e, upd_same]; simp
    · rw [upd_ne e]; exact h
  hdE := rfl
  hdk := fun a h => by
    show upd W.H p o a = W.H a
    exact upd_ne fun z => l.mu a (.inr h) (z ▸ hp)
  len := by show _ ≤ (W.io ++ [some p]).length; rw [List.length_append]; omega
  at_ := fun n a hn h => by
    have h : (W.io ++ [some p])[n]? = some (some a) := h
    rw [List.getElem?_append_left hn] at h; exact h
theorem LhR.newM [L : LamC] [S : Susp] {p : Addr} {u : HO} {o : LO} (l : LhR K mg W lh) (hp : W.H p = none) (r : ORep K mg ⟨upd W.H p u, W.io ++ [some p], W.hd⟩ o u) : LhR K mg ⟨upd W.H p u, W.io ++ [some p], W.hd⟩ (lh ++ [o]) := by
  have npm : ∀ n a, W.io[n]? = some (some a) → a ≠ p := fun n a h z => l.mu a (.inl (List.mem_of_getElem? h)) (z ▸ hp)
  have key : ∀ n a, (W.io ++ [some p])[n]? = some (some a) → (n < W.io.length ∧ W.io[n]? = some (some a) ∧ a ≠ p) ∨ (n = W.io.length ∧ a = p) := fun n a h => by
    by_cases hn : n < W.io.length
    · rw [List.getElem?_append_left hn] at h
      exact .inl ⟨hn, h, npm n a h⟩
    · rw [List.getElem?_append_right (Nat.le_of_not_lt hn)] at h
      have hz : n - W.io.length = 0 := by
        cases e : n - W.io.length with
        | zero => rfl
        | succ k => rw [e] at h; simp at h
      rw [hz] at h
      have : p = a := by simpa using h
      exact .inr ⟨by omega, this.symm⟩
  refine ⟨by rw [List.length_append, l.len]; show _ = (W.io ++ [some p]).length; rw [List.length_append]; rfl, fun i j a h1 h2 => ?_, fun a h => ⟨(Ext.newM l hp).trk a (l.hid a h).1, fun z => ?_⟩, fun n x q h1 h2 => ?_, fun P e => tabS_new (l.tab P e) hp, l.sus.mono (Ext.newM l hp).toEx, fun a v h hv => l.hdp a v h ((upd_ne (fun z => l.mu a (.inr h) (by rw [z]; exact hp))).symm.trans hv)⟩
  · rcases key i a h1 with ⟨a1, a2, a3⟩ | ⟨a1, a2⟩
    · rcases key j a h2 with ⟨b1, b2, b3⟩ | ⟨b1, b2⟩
      · exact l.inj i j a a2 b2
      · exact absurd b2 a3
    · rcases key j a h2 with ⟨b1, b2, b3⟩ | ⟨b1, b2⟩
      · exact absurd a2 b3
      · omega
  · rcases List.mem_append.mp z with z | z
    · exact (l.hid a h).2 z
    · have e : a = p := by simpa using z
      exact l.mu a (.inr h) (e ▸ hp)
  · by_cases hn : n < W.io.length
    · have h2 : (W.io ++ [some p])[n]? = some q := h2
      rw [List.getElem?_append_left hn] at h2
      rw [List.getElem?_append_left (by rw [l.len]; exact hn)] at h1
      have := l.at_ n x q h1 h2
      cases q with
      | none => exact this
      | some a =>
        obtain ⟨w, h, r⟩ := this
        exact ⟨w, by show upd W.H p u a = some w; rw [upd_ne (ne_of_none h hp)]; exact h, r.mono (Ext.newM l hp).toEx⟩
    · have h2 : (W.io ++ [some p])[n]? = some q := h2
      rw [List.getElem?_append_right (Nat.le_of_not_lt hn)] at h2
      have hz : n - W.io.length = 0 := by
        cases e : n - W.io.length with
        | zero => rfl
        | succ k => rw [e] at h2; simp at h2
      rw [List.getElem?_append_right (by rw [l.len]; omega)] at h1
      have hz' : n - lh.length = 0 := by rw [l.len]; exact hz
      rw [hz] at h2; rw [hz'] at h1
      have e1 : o = x := by simpa using h1
      have e2 : some p = q := by simpa using h2
      subst e1; subst e2
      exact ⟨u, upd_same, r⟩
theorem io_at [L : LamC] [S : Susp] (l : LhR K mg W lh) {n : Nat} {o : LO} (h : lh[n]? = some o) (nd : o ≠ .dead) : ∃ a u, W.io[n]? = some (some a) ∧ W.H a = some u ∧ ORep K mg W o u ∧ n < W.io.length := by
  have hn : n < W.io.length := by rw [← l.len]; exact (List.getElem?_eq_some_iff.mp h).1
  have := l.at_ n o W.io[n] h (by simp [hn])
  cases q : W.io[n] with
  | none => rw [q] at this; exact absurd this nd
  | some a =>
    rw [q] at this
    obtain ⟨u, hu, r⟩ := this
    exact ⟨a, u, by simp [hn, q], hu, r, hn⟩
theorem Ext.write [L : LamC] [S : Susp] {n : Nat} {a : Addr} {u : HO} (l : LhR K mg W lh) (h : W.io[n]? = some (some a)) (hu : W.H a ≠ none) : Ext W ⟨upd W.H a u, W.io, W.hd⟩ where
  mem := fun a h => .inl h
  kept := fun b o hb nm => ⟨o, by
    show upd W.H a u b = some o
    rw [upd_ne (fun z => nm (.inl (by subst z; exact List.mem_of_getElem? h)))]; exact hb, .inl rfl⟩
  trk := fun b hb => by
    show upd W.H a u b ≠ none
    by_cases e : b = a
    · rw [e, upd_same]; simp
    · rw [upd_ne e]; exact hb
  hdE := rfl
  hdk := fun b hb => by
    show upd W.H a u b = W.H b
    exact upd_ne fun z => (l.hid b hb).2 (by rw [z]; exact List.mem_of_getElem? h)
  len := Nat.le_refl _
  at_ := fun _ _ _ h => h
theorem LhR.write [L : LamC] [S : Susp] {n : Nat} {a : Addr} {u : HO} {o : LO} (l : LhR K mg W lh) (h : W.io[n]? = some (some a)) (hu : W.H a ≠ none) (r : ORep K mg W o u) : LhR K mg ⟨upd W.H a u, W.io, W.hd⟩ (lh.set n o) := by
  have hn : n < W.io.length := (List.getElem?_eq_some_iff.mp h).1
  refine ⟨by rw [List.length_set]; exact l.len, l.inj, fun b hb => ⟨(Ext.write l h hu).trk b (l.hid b hb).1, (l.hid b hb).2⟩, fun m x q h1 h2 => ?_, fun P e => tabS_upd (l.tab P e) fun v hv => ?_, l.sus.mono (Ext.write l h hu).toEx, fun b v hb hv => l.hdp b v hb ((upd_ne (fun z => (l.hid b hb).2 (by rw [z]; exact List.mem_of_getElem? h))).symm.trans hv)⟩
  rotate_left
  · cases ho : lh[n]? with
    | none => rw [List.getElem?_eq_none_iff, l.len] at ho; omega
    | some o' =>
      obtain ⟨u', hu', r'⟩ := l.at_ n o' _ ho h
      rw [hu'] at hv
      cases hv
      exact r'.plain
  by_cases hm : m = n
  · subst hm
    rw [List.getElem?_set_self (by rw [l.len]; exact hn)] at h1
    have h2 : W.io[m]? = some q := h2
    rw [h] at h2
    cases h1; cases h2
    exact ⟨u, upd_same, r.mono (Ext.write l h hu).toEx⟩
  · rw [List.getElem?_set_ne (Ne.symm hm)] at h1
    have := l.at_ m x q h1 h2
    cases q with
    | none => exact this
    | some b =>
      obtain ⟨w, hb, rb⟩ := this
      have nb : b ≠ a := fun z => hm (l.inj m n b h2 (by rw [z]; exact h))
      exact ⟨w, by show upd W.H a u b = some w; rw [upd_ne nb]; exact hb, rb.mono (Ext.write l h hu).toEx⟩
theorem set_idem {α : Type} {l : List α} {n : Nat} {x : α} (h : l[n]? = some x) : l.set n x = l := by
  apply List.ext_getElem?
  intro m
  by_cases e : m = n
  · subst e
    rw [List.getElem?_set_self (List.getElem?_eq_some_iff.mp h).1, h]
  · rw [List.getElem?_set_ne (Ne.symm e)]
def sameO (o : Option (List LV)) (xs : List LV) : Bool := decide (o = some xs)
theorem sameO_eq {o : Option (List LV)} {xs : List LV} (h : sameO o xs = true) : o = some xs := of_decide_eq_true h
@[simp] theorem sameO_self (xs : List LV) : sameO (some xs) xs = true := by simp [sameO]
def lstOf (x : LV) (lh : LH) : Option (List LV) := match x with
  | .pv (.lst xs) => some (xs.map .pv)
  | .ref n => match lh[n]? with
    | some (.lst xs) => some xs
    | _ => none
  | _ => none
@[simp] theorem lstOf_lst (xs : List PV) (lh : LH) : lstOf (.pv (.lst xs)) lh = some (xs.map .pv) := rfl
def tupOf (x : LV) : Option (List PV) := match x with
  | .pv (.tup xs) => some xs
  | _ => none
@[simp] theorem tupOf_tup (xs : List PV) : tupOf (.pv (.tup xs)) = some xs := rfl
theorem lst_rd [L : LamC] [S : Susp] {x : LV} {v : V} {xs : List LV} (l : LhR K mg W lh) (r : LRep K mg W x v) (h : lstOf x lh = some xs) : ∃ a vs, v = .ref a ∧ Rd W.H a (.lst vs) ∧ LReps K mg W xs vs := by
  cases x with
  | pv p =>
    cases p with
    | lst ys =>
      cases h
      cases r with
      | lst f q => exact ⟨_, _, rfl, f.1, q.l⟩
    | _ => cases h
  | ref n =>
    have h : (match lh[n]? with | some (.lst xs) => some xs | _ => none) = some xs := h
    · split at h
      · next ys e2 =>
        have h := Option.some.inj h
        subst h
        obtain ⟨a, u, h1, h2, h3, hn⟩ := io_at l e2 (by intro z; cases z)
        cases h3 with
        | lst q => exact ⟨a, _, r.2 a h1, .inl h2, q⟩
      · cases h
theorem tup_rd [L : LamC] [S : Susp] {x : LV} {v : V} {xs : List PV} (r : LRep K mg W x v) (h : tupOf x = some xs) : ∃ a vs, v = .ref a ∧ SqT K W.H a vs ∧ Reps K mg W xs vs := by
  cases x with
  | pv p =>
    cases p with
    | tup ys =>
      cases h
      cases r with
      | tup f q => exact ⟨_, _, rfl, f.sq, q⟩
    | _ => cases h
  | ref n => cases h
theorem Reps.length [L : LamC] [S : Susp] {xs : List PV} {vs : List V} (h : Reps K mg W xs vs) : xs.length = vs.length := by
  have := h.l.length
  simpa using this
theorem Reps.append [L : LamC] [S : Susp] {xs ys : List PV} {vs ws : List V} (h : Reps K mg W xs vs) (g : Reps K mg W ys ws) : Reps K mg W (xs ++ ys) (vs ++ ws) := by
  have := h.l.append g.l
  rw [← List.map_append] at this
  exact this.p
end
end Z
namespace Z
open PySem PySem.Spec PyProof.Rows L2
def sStuck (_ : EN) (_ : LH) : SRes := .stuck
def sNext (env : EN) (lh : LH) : SRes := .next env lh
def sBrk (env : EN) (lh : LH) : SRes := .brk env lh
def sCont (env : EN) (lh : LH) : SRes := .cont env lh
def sSeq (a b : EN → LH → SRes) (env : EN) (lh : LH) : SRes := match a env lh with
  | .next env' lh' => b env' lh'
  | r => r
def sExpr (fe : EN → LH → Res LV) (env : EN) (lh : LH) : SRes := sBind env (fe env lh) fun _ lh1 => .next env lh1
def sRet (fe : EN → LH → Res LV) (env : EN) (lh : LH) : SRes := sBind env (fe env lh) fun x lh1 => .ret x lh1
def sRetN (_ : EN) (lh : LH) : SRes := .ret (.pv .non) lh
def sIf (t : EN → LH → Res Bool) (a b : EN → LH → SRes) (env : EN) (lh : LH) : SRes := sBind env (t env lh) fun c lh1 => if c = true then a env lh1 else b env lh1
def gEnd (r : Res EN) : SRes := match r with
  | .ok env lh => .next env lh
  | _ => .stuck
@[simp] theorem gEnd_ok (env : EN) (lh : LH) : gEnd (.ok env lh) = .next env lh := rfl
def sAsg (fe : EN → LH → Res LV) (fg : LV → EN → LH → Res EN) (env : EN) (lh : LH) : SRes := sBind env (fe env lh) fun x lh1 => gEnd (fg x env lh1)
def gN (i : Nat) (x : LV) (env : EN) (lh : LH) : Res EN := .ok (env.set i (some x)) lh
section
variable (K : PySem.W.Frag) (mg : Str → Option Value)
/-- only the slots ts are stored -/
def SlB (ts : List Nat) (σ σ' : L2.St) : Prop := σ'.length = σ.length ∧ ∀ j : Nat, j ∉ ts → σ'[j]? = σ[j]?
/-- a target's reading -/
def tGR [L : LamC] [S : Susp] (W : Wd) (σ : L2.St) (ts : List Nat) (r : Res EN) (Q : L2.St → Hp → Prop) : Prop := match r with
  | .ok env lh => ∀ σ' W', Ext W W' → SR K mg W' σ' env lh → SlB ts σ σ' → Q σ' W'.H
  | .exc e lh => False
  | .stuck => False
def tT [L : LamC] [S : Susp] (ts : List Nat) (f : LV → EN → LH → Res EN) : TG := fun v σ H Q => ∃ W env lh x, W.H = H ∧ SR K mg W σ env lh ∧ LRep K mg W x v ∧ tGR K mg W σ ts (f x env lh) Q
def tTs [L : LamC] [S : Susp] (ts : List Nat) (f : List LV → EN → LH → Res EN) : TGs := fun vs σ H Q => ∃ W env lh xs, W.H = H ∧ SR K mg W σ env lh ∧ LReps K mg W xs vs ∧ tGR K mg W σ ts (f xs env lh) Q
end
abbrev FG [L : LamC] [S : Susp] (X : Cx) (tg : Expr) (ts : List Nat) (f : LV → EN → LH → Res EN) : Prop := PG X tg (tT X.K X.mg ts f)
abbrev FGs [L : LamC] [S : Susp] (X : Cx) (tgs : List Expr) (ts : List Nat) (f : List LV → EN → LH → Res EN) : Prop := PGs X tgs (tTs X.K X.mg ts f)
theorem PG.imp {X : Cx} {e : Expr} {t t' : TG} (h : PG X e t) (i : ∀ v σ H Q, t' v σ H Q → t v σ H Q) : PG X e t' := ⟨fun pins s σ H v u Q I r q => h.run pins s σ H v u Q I r (i v σ H Q q)⟩
theorem PGs.imp {X : Cx} {e : List Expr} {t t' : TGs} (h : PGs X e t) (i : ∀ v σ H Q, t' v σ H Q → t v σ H Q) : PGs X e t' := ⟨fun pins s σ H v u Q I r q => h.run pins s σ H v u Q I r (i v σ H Q q)⟩
section
variable {K : PySem.W.Frag} {mg : Str → Option Value} {W : Wd} {σ : L2.St} {env : EN} {lh : LH}
theorem SR.set [L : LamC] [S : Susp] {x : LV} {v : V} (s : SR K mg W σ env lh) (r : LRep K mg W x v) (i : Nat) : SR K mg W (σ.set i (some v)) (env.set i (some x)) lh := by
  refine ⟨s.lh, by rw [List.length_set, List.length_set]; exact s.sl.len, fun j y h => ?_⟩
  by_cases e : j = i
  · subst e
    have hj : j < env.length := by
      have := (List.getElem?_eq_some_iff.mp h).1
      simpa using this
    rw [List.getElem?_set_self hj] at h
    have h : x = y := by simpa using h
    subst h
    exact ⟨v, List.getElem?_set_self (by rw [← s.sl.len]; exact hj), r⟩
  · rw [List.getElem?_set_ne (Ne.symm e)] at h
    obtain ⟨w, hw, rw'⟩ := s.sl.at_ j y h
    exact ⟨w, by rw [List.getElem?_set_ne (Ne.symm e)]; exact hw, rw'⟩
theorem tGR.mono [L : LamC] [S : Susp] {W' : Wd} {ts : List Nat} {r : Res EN} {Q : L2.St → Hp → Prop} (e : Ext W W') (h : tGR K mg W σ ts r Q) : tGR K mg W' σ ts r Q := by
  cases r with
  | ok x lh => exact fun v W'' f l b => h v W'' (e.trans f) l b
  | exc x lh => exact h
  | stuck => exact h
end
section
variable {X : Cx} {Wx : WX} {st : Stmt} {rest : List Stmt} {f g : EN → LH → SRes} {e : Expr} {fe : EN → LH → Res LV} {pos : Pos}
theorem fss_stuck [L : LamC] [S : Susp] : FSs X Wx rest sStuck := PSs.imp pss_never fun D σ H ⟨W, env, lh, hH, sr, h⟩ => h
theorem fss_nil [L : LamC] [S : Susp] : FSs X Wx [] sNext := PSs.imp pss_nil fun D σ H ⟨W, env, lh, hH, sr, h⟩ => hH ▸ h σ W (Ext.refl W) sr
theorem fss_cons [L : LamC] [S : Susp] (h1 : FS X Wx st f) (h2 : FSs X Wx rest g) : FSs X Wx (st :: rest) (sSeq f g) := by
  refine PSs.imp (pss_cons h1 h2) fun D σ H ⟨W, env, lh, hH, sr, h⟩ => ?_
  refine ⟨W, env, lh, hH, sr, ?_⟩
  unfold sSeq at h
  cases q : f env lh with
  | next env' lh' =>
    rw [q] at h
    exact fun σ' W' e s => ⟨W', env', lh', rfl, s, h.mono e⟩
  | ret => rw [q] at h; exact h
  | brk => rw [q] at h; exact h
  | cont => rw [q] at h; exact h
  | exc => rw [q] at h; exact h
  | stuck => rw [q] at h; exact h
theorem fss_one [L : LamC] [S : Susp] (h1 : FS X Wx st f) : FSs X Wx [st] f := pss_one h1
theorem fs_expr [L : LamC] [S : Susp] (he : FE X Wx e fe) (hs : swapsWith e none pos.line X.env = pure false := by rfl) : FS X Wx (.Expr e pos) (sExpr fe) := by
  refine PS.imp (ps_expr he hs) fun D σ H ⟨W, env, lh, hH, sr, h⟩ => ?_
  subst hH
  refine goS (k := fun _ lh1 => .next env lh1) sr h fun x lh1 v W1 e1 s1 r1 h1 => ?_
  exact h1 σ W1 (Ext.refl W1) s1
theorem fs_ret [L : LamC] [S : Susp] (he : FE X Wx e fe) : FS X Wx (.Return (some e) pos) (sRet fe) := by
  refine PS.imp (ps_ret he) fun D σ H ⟨W, env, lh, hH, sr, h⟩ => ?_
  subst hH
  refine goS (k := fun x lh1 => .ret x lh1) sr h fun x lh1 v W1 e1 s1 r1 h1 => ?_
  exact h1 v W1 (Ext.refl W1) s1.lh r1
theorem fs_if [L : LamC] [S : Susp] {c : Expr} {a b : List Stmt} {t : EN → LH → Res Bool} (hc : FT X Wx c t) (ha : FSs X Wx a f) (hb : FSs X Wx b g) : FS X Wx (.If c a b pos) (sIf t f g) := by
  refine PS.imp (ps_if hc ha hb) fun D σ H ⟨W, env, lh, hH, sr, h⟩ => ?_
  subst hH
  refine goS (k := fun c lh1 => if c = true then f env lh1 else g env lh1) sr h fun x lh1 v W1 e1 s1 r1 h1 => ?_
  cases r1
  cases x with
  | true => exact ⟨W1, env, lh1, rfl, s1, h1⟩
  | false => exact ⟨W1, env, lh1, rfl, s1, h1⟩
theorem fg_name [L : LamC] [S : Susp] {i : Nat} {x : Str} (hN : X.N.Nodup) (hi : X.N[i]? = some x := by rfl) (hx : Loc X.env.scope x := by first | exact Or.inl rfl | exact Or.inr rfl) (hf : X.fn x = true ∨ X.env.scope.names.lookup x = some .local := by first | exact .inl rfl | exact .inr rfl | assumption) : FG X (.Name x pos) [i] (gN i) := by
  refine PG.imp (pg_name hN hi hx hf) fun v σ H Q ⟨W, env, lh, x, hH, sr, r, h⟩ => ?_
  subst hH
  exact h _ W (Ext.refl W) (sr.set r i) ⟨by simp, fun j hj => List.getElem?_set_ne (fun z => hj (by simp [z]))⟩
theorem fs_asg [L : LamC] [S : Susp] {tg : Expr} {ts : List Nat} {fg : LV → EN → LH → Res EN} (he : FE X Wx e fe) (hg : FG X tg ts fg) (hs : swapsWithSole [tg] e pos.line X.env = pure false := by rfl) (hw : swappedStores [tg] e X.env = pure none := by rfl)
    (h1 : (assignEach [tg] X.env).map (·.2) = [assign tg X.env] := by rfl) : FS X Wx (.Assign [tg] e pos) (sAsg fe fg) := by
  refine PS.imp (ps_asg he hg hs hw h1) fun D σ H ⟨W, env, lh, hH, sr, h⟩ => ?_
  subst hH
  refine goS (k := fun x lh1 => gEnd (fg x env lh1)) sr h fun x lh1 v W1 e1 s1 r1 h1 => ?_
  refine ⟨W1, env, lh1, x, rfl, s1, r1, ?_⟩
  cases q : fg x env lh1 with
  | ok env' lh2 =>
    rw [q] at h1
    exact fun σ' W' e s _ => h1 σ' W' e s
  | exc y lh2 => rw [q] at h1; exact h1.elim
  | stuck => rw [q] at h1; exact h1
theorem fs_set [L : LamC] [S : Susp] {i : Nat} {x : Str} {pos' : Pos} (hN : X.N.Nodup) (hi : X.N[i]? = some x) (he : FE X Wx e fe) (hx : Loc X.env.scope x := by first | exact Or.inl rfl | exact Or.inr rfl) (hs : swapsWith e (some (.Name x pos')) pos.line X.env = pure false := by rfl)
    (hf : X.fn x = true ∨ X.env.scope.names.lookup x = some .local := by first | exact .inl rfl | exact .inr rfl | assumption) : FS X Wx (.Assign [.Name x pos'] e pos) (sAsg fe (gN i)) := by
  refine PS.imp (ps_set hN hi hx he hs hf) fun D σ H ⟨W, env, lh, hH, sr, h⟩ => ?_
  subst hH
  refine goS (k := fun x lh1 => gEnd (gN i x env lh1)) sr h fun x lh1 v W1 e1 s1 r1 h1 => ?_
  exact h1 _ W1 (Ext.refl W1) (s1.set r1 i)
def gNil (xs : List LV) (env : EN) (lh : LH) : Res EN := match xs with
  | [] => .ok env lh
  | _ => .stuck
def gCons (f : LV → EN → LH → Res EN) (g : List LV → EN → LH → Res EN) (xs : List LV) (env : EN) (lh : LH) : Res EN := match xs with
  | [] => .stuck
  | x :: r => (f x env lh).bind fun env1 lh1 => g r env1 lh1
/-- (a, b, ..) = a tuple -/
def gTupZ (n : Nat) (g : List LV → EN → LH → Res EN) (x : LV) (env : EN) (lh : LH) : Res EN := match tupOf x with
  | some xs => if xs.length = n then g (xs.map .pv) env lh else .stuck
  | none => .stuck
theorem fgs_nil [L : LamC] [S : Susp] : FGs X [] [] gNil := by
  refine PGs.imp pgs_nil fun v σ H Q ⟨W, env, lh, xs, hH, sr, r, h⟩ => ?_
  subst hH
  cases r with
  | nil => exact ⟨rfl, h σ W (Ext.refl W) sr ⟨rfl, fun _ _ => rfl⟩⟩
  | cons _ _ => exact h.elim
theorem fgs_cons [L : LamC] [S : Susp] {t : Expr} {ts : List Expr} {s1 s2 : List Nat} {f : LV → EN → LH → Res EN} {g : List LV → EN → LH → Res EN} (h1 : FG X t s1 f) (h2 : FGs X ts s2 g) (hs : (assignEach (t :: ts) X.env).map (·.2) = assign t X.env :: (assignEach ts X.env).map (·.2) := by rfl) : FGs X (t :: ts) (s1 ++ s2) (gCons f g) := by
  refine PGs.imp (pgs_cons h1 h2 hs) fun v σ H Q ⟨W, env, lh, xs, hH, sr, r, h⟩ => ?_
  subst hH
  cases r with
  | nil => exact h.elim
  | @cons x v xs vs r1 r2 =>
    refine ⟨v, vs, rfl, W, env, lh, x, rfl, sr, r1, ?_⟩
    have h : tGR X.K X.mg W σ (s1 ++ s2) ((f x env lh).bind fun env1 lh1 => g xs env1 lh1) Q := h
    cases q : f x env lh with
    | ok env1 lh1 =>
      rw [q] at h
      refine fun σ' W' e s b => ⟨W', env1, lh1, xs, rfl, s, r2.mono e.toEx, ?_⟩
      have h : tGR X.K X.mg W' σ (s1 ++ s2) (g xs env1 lh1) Q := h.mono e
      cases q2 : g xs env1 lh1 with
      | ok env2 lh2 =>
        rw [q2] at h
        exact fun σ2 W2 e2 s2' b2 => h σ2 W2 e2 s2' ⟨b2.1.trans b.1, fun j hj => (b2.2 j fun z => hj (List.mem_append_right _ z)).trans (b.2 j fun z => hj (List.mem_append_left _ z))⟩
      | exc y lh1 => rw [q2] at h; exact h
      | stuck => rw [q2] at h; exact h
    | exc y lh1 => rw [q] at h; exact h
    | stuck => rw [q] at h; exact h
theorem fg_tup [L : LamC] [S : Susp] {es : List Expr} {ts : List Nat} {k : Nat} {g : List LV → EN → LH → Res EN} {n : Nat} (hc : X.calm = true) (h : FGs X es ts g)
    (hn : (assignEach es X.env).length = n := by rfl) (hst : (assignEach es X.env).findIdx? (·.1) = none := by rfl) : FG X (.Tuple es k pos) ts (gTupZ n g) := by
  refine PG.imp (pg_tup hc h hn hst) fun v σ H Q ⟨W, env, lh, x, hH, sr, r, h⟩ => ?_
  subst hH
  unfold gTupZ at h
  split at h
  · next xs e =>
    obtain ⟨a, vs, rfl, h1, r2⟩ := tup_rd r e
    split at h
    · next hl => exact ⟨a, vs, rfl, h1, by rw [← r2.length]; exact hl, W, env, lh, xs.map .pv, rfl, sr, r2.l, h⟩
    · exact h.elim
  · exact h.elim
end
end Z
namespace Z
open PySem PySem.Spec PyProof.Rows L2
/-- what is walked: its items, and that it still stands -/
structure Src where
  chk : LH → Bool
  items : List LV
def yes (_ : LH) : Bool := true
def forL (chk : LH → Bool) (g : LV → EN → LH → Res EN) (b : EN → LH → SRes) : List LV → EN → LH → SRes
  | [], env, lh => if chk lh = true then .next env lh else .stuck
  | y :: r, env, lh => if chk lh = true then
      (match g y env lh with
      | .ok env1 lh1 => (match b env1 lh1 with
        | .next e l => forL chk g b r e l
        | .cont e l => forL chk g b r e l
        | .brk e l => .next e l
        | o => o)
      | _ => .stuck) else .stuck
def sFor (fi : EN → LH → Res Src) (g : LV → EN → LH → Res EN) (b : EN → LH → SRes) (env : EN) (lh : LH) : SRes := sBind env (fi env lh) fun s lh1 => forL s.chk g b s.items env lh1
section
variable (K : PySem.W.Frag) (mg : Str → Option Value)
structure ItOk [L : LamC] [S : Susp] (J : It) (s : Src) (W0 : Wd) : Prop where
  go : ∀ i W lh, Ex W0 W → LhR K mg W lh → s.chk lh = true → i < s.items.length → J.go i W.H ∧ ∀ x H', J.yld i W.H x H' → ∃ W' y, W'.H = H' ∧ Ext W W' ∧ LhR K mg W' lh ∧ s.items[i]? = some y ∧ LRep K mg W' y x
  stop : ∀ i W lh, Ex W0 W → LhR K mg W lh → s.chk lh = true → s.items.length ≤ i → J.stop i W.H
def tI [L : LamC] [S : Susp] (Wx : WX) (f : EN → LH → Res Src) : TI := tE K mg (fun W s J => ItOk K mg J s W) Wx f
end
abbrev FI [L : LamC] [S : Susp] (X : Cx) (Wx : WX) (tg iter : Expr) (f : EN → LH → Res Src) : Prop := PI X tg iter (tI X.K X.mg Wx f)
theorem PI.imp {X : Cx} {tg e : Expr} {t t' : TI} (h : PI X tg e t) (i : ∀ σ H Q, t' σ H Q → t σ H Q) : PI X tg e t' := ⟨fun pins s σ H R I q => h.run pins s σ H R I (i σ H R q)⟩
section
variable {K : PySem.W.Frag} {mg : Str → Option Value} {W : Wd} {lh : LH}
theorem ItOk.mono [L : LamC] [S : Susp] {J : It} {s : Src} {W0 W1 : Wd} (h : ItOk K mg J s W0) (e : Ex W0 W1) : ItOk K mg J s W1 :=
  ⟨fun i W lh f => h.go i W lh (e.trans f), fun i W lh f => h.stop i W lh (e.trans f)⟩
end
section
variable {X : Cx} {Wx : WX} {tg iter : Expr} {body : List Stmt} {fi : EN → LH → Res Src} {g : LV → EN → LH → Res EN} {ts : List Nat} {b : EN → LH → SRes} {pos : Pos}
theorem fs_for [L : LamC] [S : Susp] (hp : PassesOwn (model X.prog X.w) X.A X.env X.xe) (hc : X.calm = true) (hi : FI X Wx tg iter fi) (hg : FG X tg ts g) (hb : FSs X Wx body b) (hs : ∀ x, foldedSetIterable iter X.env x = pure x := by intro _; rfl) :
    FS X Wx (.For tg iter body [] pos) (sFor fi g b) := by
  refine PS.imp (ps_for hp hc hi hg hb hs) fun D σ H ⟨W, env, lh, hH, sr, h⟩ => ?_
  subst hH
  refine goS (k := fun (s : Src) lh1 => forL s.chk g b s.items env lh1) sr h fun s lh1 J W1 e1 s1 it h1 => ?_
  refine ⟨fun i m σ H => m = s.items.length - i ∧ i ≤ s.items.length ∧ ∃ W env lh, W.H = H ∧ Ex W1 W ∧ SR X.K X.mg W σ env lh ∧ tSR X.K X.mg W Wx (forL s.chk g b (s.items.drop i) env lh) D,
    ⟨s.items.length, by simp, Nat.zero_le _, W1, env, lh1, rfl, (Ext.refl W1).toEx, s1, h1⟩, ?_⟩
  rintro i m σ H ⟨rfl, hi, W, env, lh, rfl, ex, sr, h⟩
  by_cases hlt : i < s.items.length
  · rw [List.drop_eq_getElem_cons hlt] at h
    unfold forL at h
    split at h
    · next hc =>
      obtain ⟨h1, h2⟩ := it.go i W lh ex sr.lh hc hlt
      refine .inr ⟨h1, fun σ' H' => ∃ W' env' lh', W'.H = H' ∧ Ex W1 W' ∧ SR X.K X.mg W' σ' env' lh' ∧ tSR X.K X.mg W' Wx (forL s.chk g b (s.items.drop (i + 1)) env' lh') D,
        fun σ' H' q => ⟨s.items.length - (i + 1), by omega, rfl, hlt, q⟩, fun x H' hy => ?_⟩
      obtain ⟨W', y, rfl, e', l', hy', r'⟩ := h2 x H' hy
      have ey : s.items[i] = y := by
        rw [List.getElem?_eq_getElem hlt] at hy'
        exact Option.some.inj hy'
      rw [ey] at h
      refine ⟨W', env, lh, y, rfl, sr.mono e' l', r', ?_⟩
      cases q : g y env lh with
      | ok env1 lh1 =>
        rw [q] at h
        refine fun σ2 W2 e2 s2 _ => ⟨W2, env1, lh1, rfl, s2, ?_⟩
        have h : tSR X.K X.mg W Wx (match b env1 lh1 with
          | .next e l => forL s.chk g b (s.items.drop (i + 1)) e l
          | .cont e l => forL s.chk g b (s.items.drop (i + 1)) e l
          | .brk e l => .next e l
          | o => o) D := h
        have h := h.mono (e'.trans e2)
        have ex2 := (ex.trans e'.toEx).trans e2.toEx
        cases q2 : b env1 lh1 with
        | next e l =>
          rw [q2] at h
          exact fun σ3 W3 e3 s3 => ⟨W3, e, l, rfl, ex2.trans e3.toEx, s3, h.mono e3⟩
        | cont e l =>
          rw [q2] at h
          exact fun σ3 W3 e3 s3 => ⟨W3, e, l, rfl, ex2.trans e3.toEx, s3, h.mono e3⟩
        | brk e l => rw [q2] at h; exact h
        | ret => rw [q2] at h; exact h
        | exc => rw [q2] at h; exact h
        | stuck => rw [q2] at h; exact h
      | exc y lh1 => rw [q] at h; exact h.elim
      | stuck => rw [q] at h; exact h.elim
    · exact h.elim
  · have e : i = s.items.length := by omega
    subst e
    rw [List.drop_length] at h
    unfold forL at h
    split at h
    · next hc => exact .inl ⟨it.stop _ W lh ex sr.lh hc (Nat.le_refl _), h σ W (Ext.refl W) sr⟩
    · exact h.elim
end
def fSrc (fa : EN → LH → Res LV) (env : EN) (lh : LH) : Res Src := (fa env lh).bind fun x lh1 => match lstOf x lh1 with
  | some xs => .ok ⟨fun lh => sameO (lstOf x lh) xs, xs⟩ lh1
  | none => .stuck
def fSrcT (fa : EN → LH → Res LV) (env : EN) (lh : LH) : Res Src := (fa env lh).bind fun x lh1 => match tupOf x with
  | some xs => .ok ⟨yes, xs.map .pv⟩ lh1
  | none => .stuck
def zints (lo : Int) (n : Nat) : List LV := (List.range n).map fun i => .pv (.int (lo + (i : Nat)))
def rngSrc (xs : List LV) (lh : LH) : Res Src := match xs with
  | [.pv (.int n)] => if -(2 ^ 62) ≤ n ∧ n < 2 ^ 62 then .ok ⟨yes, zints 0 n.toNat⟩ lh else .stuck
  | _ => .stuck
def fRng (fas : EN → LH → Res (List LV)) (env : EN) (lh : LH) : Res Src := (fas env lh).bind rngSrc
section
variable {X : Cx} {Wx : WX} {tg e a b : Expr} {fe fa fb : EN → LH → Res LV} {pos p : Pos}
theorem sq_of {K : PySem.W.Frag} {H : Hp} {a : Addr} {vs : List V} (h : Rd H a (.lst vs)) : SqL K H a vs := .inl h
theorem fi_list [L : LamC] [S : Susp] (he : FE X Wx e fe) : FI X Wx tg e (fSrc fe) := by
  refine PI.imp (pi_list he) fun σ H Q ⟨W, env, lh, hH, sr, h⟩ => ?_
  subst hH
  refine go (k := fun x lh1 => match lstOf x lh1 with | some xs => .ok (Src.mk (fun lh => sameO (lstOf x lh) xs) xs) lh1 | none => .stuck) sr h fun x lh1 v W1 e1 s1 r1 h1 => ?_
  split at h1
  · next xs hx =>
    obtain ⟨a, vs, rfl, hr, r2⟩ := lst_rd s1.lh r1 hx
    refine ⟨a, rfl, ⟨vs, sq_of hr⟩, h1 _ W1 (Ext.refl W1) s1.lh ⟨fun i W lh ex l hc hi => ?_, fun i W lh ex l hc hi => ?_⟩⟩
    · have hc := sameO_eq hc
      obtain ⟨a', ws, ea, hr', r3⟩ := lst_rd l (r1.mono ex) hc
      cases ea
      have hl := r3.length
      obtain ⟨w, hw, rw⟩ := r3.get (i := i) (x := xs[i]) (by simp [hi])
      exact ⟨⟨ws, w, sq_of hr', hw⟩, fun x H' ⟨e2, hy⟩ => ⟨W, xs[i], e2.symm, Ext.refl W, l, by simp [hi], by
        have := hy ws (sq_of hr')
        rw [hw] at this
        cases this
        exact rw⟩⟩
    · have hc := sameO_eq hc
      obtain ⟨a', ws, ea, hr', r3⟩ := lst_rd l (r1.mono ex) hc
      cases ea
      exact ⟨ws, sq_of hr', by rw [← r3.length]; exact hi⟩
  · exact h1.elim
theorem tup_inv [L : LamC] [S : Susp] {K : PySem.W.Frag} {mg : Str → Option Value} {W : Wd} {xs : List PV} {v : V} (r : Rep K mg W (.tup xs) v) : ∃ a vs, v = .ref a ∧ FrT K W a vs ∧ Reps K mg W xs vs := by
  cases r with
  | tup f r => exact ⟨_, _, rfl, f, r⟩
theorem zints_at {lo : Int} {n i : Nat} (h : i < n) : (zints lo n)[i]? = some (.pv (.int (lo + (i : Nat)))) := by
  unfold zints
  rw [List.getElem?_map, List.getElem?_range h]
  rfl
theorem zints_len {lo : Int} {n : Nat} : (zints lo n).length = n := by simp [zints]
theorem rng_ok [L : LamC] [S : Susp] {K : PySem.W.Frag} {mg : Str → Option Value} {W : Wd} {lo : Int} {n : Nat} : ItOk K mg (Itr lo n) ⟨yes, zints lo n⟩ W :=
  ⟨fun i W lh ex l hc hi => ⟨by rw [zints_len] at hi; exact hi, fun x H' ⟨e2, hy⟩ => ⟨W, _, e2.symm, Ext.refl W, l, zints_at (by rw [zints_len] at hi; exact hi), by subst hy; exact Rep.int⟩⟩,
    fun i W lh ex l hc hi => by rw [zints_len] at hi; exact hi⟩
theorem fi_rng1 [L : LamC] [S : Susp] {fas : EN → LH → Res (List LV)} (hg : Gl X "range") (hm : X.mg "range" = none) (ha : FA X Wx [a] fas) (hs : starEach [a] X.env = [(false, eval a X.env)] := by rfl) : FI X Wx tg (.Call (.Name "range" p) [a] [] pos) (fRng fas) := by
  refine PI.imp (pi_range1 hg hm ha hs) fun σ H Q ⟨W, env, lh, hH, sr, h⟩ => ?_
  subst hH
  refine go sr h fun xs lh1 vs W1 e1 s1 r1 h1 => ?_
  unfold rngSrc at h1
  split at h1
  · next n =>
    split at h1
    · next hn =>
      cases r1 with
      | cons r r' =>
        cases r'
        cases r
        exact ⟨n, rfl, hn.1, hn.2, h1 _ W1 (Ext.refl W1) s1.lh rng_ok⟩
    · exact h1.elim
  · exact h1.elim
end
end Z
namespace Z
open PySem PySem.Spec PyProof.Rows L2
def LV.below (n : Nat) : LV → Bool
  | .pv _ => true
  | .ref k => decide (k < n)
def LO.below (n : Nat) : LO → Bool
  | .dead => true
  | .lst xs => xs.all (LV.below n)
  | .dct xs => xs.all fun p => p.2.below n
  | .dcT xs => xs.all fun p => p.2.below n
  | .ins _ xs => xs.all fun p => p.2.below n
@[simp] theorem LV.below_pv (n : Nat) (p : PV) : LV.below n (.pv p) = true := rfl
@[simp] theorem LV.below_map (n : Nat) (xs : List PV) : (xs.map LV.pv).all (LV.below n) = true := by
  rw [List.all_eq_true]
  intro x hx
  obtain ⟨p, _, rfl⟩ := List.mem_map.mp hx
  rfl
def clean (lh lh' : LH) : LH := if lh'.take lh.length = lh ∨ (lh'.take lh.length).all (LO.below lh.length) = true then lh'.take lh.length else lh'
def cleanR (lh : LH) : Res LV → Res LV
  | .ok (.pv p) lh' => .ok (.pv p) (clean lh lh')
  | .ok (.ref k) lh' => .ok (.ref k) lh'
  | .exc e lh' => .exc e (clean lh lh')
  | .stuck => .stuck
@[simp] theorem clean_self (lh : LH) : clean lh lh = lh := by
  unfold clean
  rw [if_pos (.inl (List.take_length ..)), List.take_length]
@[simp] theorem clean_append (lh more : LH) : clean lh (lh ++ more) = lh := by
  unfold clean
  rw [if_pos (.inl (by simp)), List.take_left]
@[simp] theorem cleanR_ok (lh lh' : LH) (p : PV) : cleanR lh (.ok (.pv p) lh') = .ok (.pv p) (clean lh lh') := rfl
@[simp] theorem cleanR_ref (lh lh' : LH) (k : Nat) : cleanR lh (.ok (.ref k) lh') = .ok (.ref k) lh' := rfl
@[simp] theorem cleanR_exc (lh lh' : LH) (e : LX) : cleanR lh (.exc e lh') = .exc e (clean lh lh') := rfl
@[simp] theorem cleanR_stuck (lh : LH) : cleanR lh .stuck = .stuck := rfl
def retOf : SRes → Res LV
  | .ret v lh => .ok v lh
  | .next _ lh => .ok (.pv .non) lh
  | .exc e _ lh => .exc e lh
  | _ => .stuck
@[simp] theorem retOf_ret (v : LV) (lh : LH) : retOf (.ret v lh) = .ok v lh := rfl
@[simp] theorem retOf_next (env : EN) (lh : LH) : retOf (.next env lh) = .ok (.pv .non) lh := rfl
@[simp] theorem retOf_exc (e : LX) (env : EN) (lh : LH) : retOf (.exc e env lh) = .exc e lh := rfl
def startE (n : Nat) (xs : List LV) : EN := xs.map some ++ List.replicate (n - xs.length) none
/-- a def of n slots and the body b -/
def mOf (n : Nat) (b : EN → LH → SRes) (xs : List LV) (lh : LH) : Res LV := cleanR lh (retOf (b (startE n xs) lh))
section
variable {K : PySem.W.Frag} {mg : Str → Option Value}
/-- the world without the objects from n on -/
def Wd.cut (W : Wd) (n : Nat) : Wd := ⟨W.H, W.io.take n, W.hd⟩
theorem cut_ex0 {W : Wd} {n : Nat} : Ex0 W (W.cut n) := ⟨fun a h => .inl (h.imp (fun z => List.mem_of_mem_take z) id), fun a o h _ => ⟨o, h, .inl rfl⟩⟩
theorem lrep_cut [L : LamC] [S : Susp] {W : Wd} {n : Nat} (hn : n ≤ W.io.length) {x : LV} {v : V} (r : LRep K mg W x v) (b : x.below n = true) : LRep K mg (W.cut n) x v := by
  cases x with
  | pv p => exact Rep.mono cut_ex0 r
  | ref k =>
    have hk : k < n := of_decide_eq_true b
    refine ⟨?_, fun a h => r.2 a ?_⟩
    · show k < (W.io.take n).length
      rw [List.length_take]; omega
    · have h : (W.io.take n)[k]? = some (some a) := h
      rw [List.getElem?_take_of_lt hk] at h
      exact h
theorem lreps_cut [L : LamC] [S : Susp] {W : Wd} {n : Nat} (hn : n ≤ W.io.length) {xs : List LV} {vs : List V} (r : LReps K mg W xs vs) (b : xs.all (LV.below n) = true) : LReps K mg (W.cut n) xs vs := by
  induction r with
  | nil => exact .nil
  | cons r _ ih =>
    rw [List.all_cons, Bool.and_eq_true] at b
    exact .cons (lrep_cut hn r b.1) (ih b.2)
theorem lrepD_cut [L : LamC] [S : Susp] {W : Wd} {n : Nat} (hn : n ≤ W.io.length) {xs : List (PV × LV)} {vs : List (Key × V)} (r : LRepD K mg W xs vs) (b : (xs.all fun p => p.2.below n) = true) : LRepD K mg (W.cut n) xs vs := by
  induction r with
  | nil => exact .nil
  | cons r _ ih =>
    rw [List.all_cons, Bool.and_eq_true] at b
    exact .cons (lrep_cut hn r b.1) (ih b.2)
theorem lrepT_cut [L : LamC] [S : Susp] {W : Wd} {n : Nat} (hn : n ≤ W.io.length) {xs : List (PV × LV)} {vs : List (List Key × V)} (r : LRepT K mg W xs vs) (b : (xs.all fun p => p.2.below n) = true) : LRepT K mg (W.cut n) xs vs := by
  induction r with
  | nil => exact .nil
  | cons r _ ih =>
    rw [List.all_cons, Bool.and_eq_true] at b
    exact .cons (lrep_cut hn r b.1) (ih b.2)
theorem lrepF_cut [L : LamC] [S : Susp] {W : Wd} {n : Nat} (hn : n ≤ W.io.length) {xs : List (Str × LV)} {vs : List (Str × V)} (r : LRepF K mg W xs vs) (b : (xs.all fun p => p.2.below n) = true) : LRepF K mg (W.cut n) xs vs := by
  induction r with
  | nil => exact .nil
  | cons r _ ih =>
    rw [List.all_cons, Bool.and_eq_true] at b
    exact .cons (lrep_cut hn r b.1) (ih b.2)
theorem orep_cut [L : LamC] [S : Susp] {W : Wd} {n : Nat} (hn : n ≤ W.io.length) {o : LO} {u : HO} (r : ORep K mg W o u) (b : o.below n = true) : ORep K mg (W.cut n) o u := by
  cases r with
  | lst r => exact .lst (lreps_cut hn r b)
  | dct r => exact .dct (lrepD_cut hn r b)
  | dctT r => exact .dctT (lrepT_cut hn r b)
  | ins g r => exact .ins g (lrepF_cut hn r b)
theorem lrep_below [L : LamC] [S : Susp] {W : Wd} {x : LV} {v : V} (r : LRep K mg W x v) : x.below W.io.length = true := by
  cases x with
  | pv p => rfl
  | ref k => exact decide_eq_true r.1
theorem orep_below [L : LamC] [S : Susp] {W : Wd} {o : LO} {u : HO} (r : ORep K mg W o u) : o.below W.io.length = true := by
  cases r with
  | lst r =>
    show List.all _ _ = true
    induction r with
    | nil => rfl
    | cons r _ ih => rw [List.all_cons, ih, lrep_below r]; rfl
  | dct r =>
    show List.all _ _ = true
    induction r with
    | nil => rfl
    | cons r _ ih => rw [List.all_cons, ih, lrep_below r]; rfl
  | dctT r =>
    show List.all _ _ = true
    induction r with
    | nil => rfl
    | cons r _ ih => rw [List.all_cons, ih, lrep_below r]; rfl
  | ins g r =>
    show List.all _ _ = true
    induction r with
    | nil => rfl
    | cons r _ ih => rw [List.all_cons, ih, lrep_below r]; rfl
theorem lhr_below [L : LamC] [S : Susp] {W : Wd} {lh : LH} (l : LhR K mg W lh) {n : Nat} {o : LO} (h : lh[n]? = some o) : o.below W.io.length = true := by
  by_cases e : o = .dead
  · subst e; rfl
  · obtain ⟨a, u, _, _, r, _⟩ := io_at l h e
    exact orep_below r
theorem clean_ok [L : LamC] [S : Susp] {W W' : Wd} {lh lh' : LH} (l : LhR K mg W lh) (e : Ext W W') (l' : LhR K mg W' lh') :
    ∃ W2, W2.H = W'.H ∧ Ex0 W' W2 ∧ Ext W W2 ∧ LhR K mg W2 (clean lh lh') := by
  unfold clean
  split
  · next hc =>
    have hn : lh.length ≤ W'.io.length := by rw [l.len]; exact e.len
    refine ⟨W'.cut lh.length, rfl, cut_ex0, ⟨⟨⟨fun a h => e.mem a (h.imp (fun z => List.mem_of_mem_take z) id), e.kept⟩, e.trk, ?_, fun n a h1 h2 => ?_⟩, e.hdE, e.hdk⟩, ⟨?_, fun i j a h1 h2 => ?_, fun a h => ⟨(l'.hid a h).1, fun z => (l'.hid a h).2 (List.mem_of_mem_take z)⟩, fun n o q h1 h2 => ?_, fun P h => l'.tab P h, l.sus.mono ?_, l'.hdp⟩⟩
    rotate_left 5
    · exact ⟨⟨fun a h => e.mem a (h.imp (fun z => List.mem_of_mem_take z) id), e.kept⟩, e.trk, by show _ ≤ (W'.io.take lh.length).length; rw [List.length_take, ← l.len]; omega, fun n a h1 h2 => by
        have h2 : (W'.io.take lh.length)[n]? = some (some a) := h2
        rw [List.getElem?_take_of_lt (by rw [l.len]; exact h1)] at h2
        exact e.at_ n a h1 h2⟩
    · show _ ≤ (W'.io.take lh.length).length
      rw [List.length_take, ← l.len]; omega
    · have h2 : (W'.io.take lh.length)[n]? = some (some a) := h2
      rw [List.getElem?_take_of_lt (by rw [l.len]; exact h1)] at h2
      exact e.at_ n a h1 h2
    · show (lh'.take lh.length).length = (W'.io.take lh.length).length
      rw [List.length_take, List.length_take, l'.len]
    · have key : ∀ i, (W'.io.take lh.length)[i]? = some (some a) → W'.io[i]? = some (some a) := fun i h => by
        rw [List.getElem?_take] at h
        split at h
        · exact h
        · cases h
      exact l'.inj i j a (key i h1) (key j h2)
    · have h1' := h1
      have h2 : (W'.io.take lh.length)[n]? = some q := h2
      rw [List.getElem?_take] at h1 h2
      split at h1
      · next hlt =>
        rw [if_pos hlt] at h2
        have := l'.at_ n o q h1 h2
        cases q with
        | none => exact this
        | some a =>
          obtain ⟨u, hu, r⟩ := this
          refine ⟨u, hu, orep_cut hn r ?_⟩
          rcases hc with hc | hc
          · rw [hc] at h1'
            rw [l.len]
            exact lhr_below l h1'
          · exact List.all_eq_true.mp hc o (List.mem_of_getElem? h1')
      · cases h1
  · exact ⟨W', rfl, ⟨fun a h => .inl h, fun a o h _ => ⟨o, h, .inl rfl⟩⟩, e, l'⟩
end
section
variable (K : PySem.W.Frag) (mg : Str → Option Value)
/-- a def's promise: it reckons m -/
def SpZ [L : LamC] [S : Susp] (n : Nat) (m : List LV → LH → Res LV) : Sp := fun vs H Q E => vs.length = n ∧ ∃ W xs lh, W.H = H ∧ LhR K mg W lh ∧ LReps K mg W xs vs ∧ tR K mg (LRep K mg) W E (m xs lh) Q
end
theorem XRep.ex0 [L : LamC] [S : Susp] {K : PySem.W.Frag} {mg : Str → Option Value} {W W' : Wd} {e : LX} {c : Value} {d : Option Addr} (h : XRep K mg W e c d) (hH : W'.H = W.H) (x : Ex0 W W') : XRep K mg W' e c d := by
  obtain ⟨C, dx, vfs, h1, h2, h3, h4, h5, h6⟩ := h
  exact ⟨C, dx, vfs, h1, h2, h3, by rw [hH]; exact h4, x.nmu' (by rw [h4]; exact Option.some_ne_none _) h5, h6.mono x⟩
section
variable {P : Program} {w : World} {K : PySem.W.Frag} {mg : Str → Option Value} {base : Heap}
theorem startE_sr [L : LamC] [S : Susp] {W : Wd} {N : List Str} {xs : List LV} {vs : List V} {lh : LH} (l : LhR K mg W lh) (r : LReps K mg W xs vs) : SR K mg W (L2.start N vs) (startE N.length xs) lh := by
  have hl := r.length
  refine ⟨l, by simp [startE, L2.start, hl], fun i x h => ?_⟩
  unfold startE at h
  by_cases hi : i < xs.length
  · rw [List.getElem?_append_left (by simpa using hi), List.getElem?_map] at h
    cases e : xs[i]? with
    | none => rw [e] at h; cases h
    | some y =>
      rw [e] at h
      have h : y = x := by simpa using h
      subst h
      obtain ⟨v, hv, rv⟩ := r.get e
      exact ⟨v, by unfold L2.start; rw [List.getElem?_append_left (by simpa [← hl] using hi), List.getElem?_map, hv]; rfl, rv⟩
  · rw [List.getElem?_append_right (by simpa using hi), List.getElem?_replicate] at h
    split at h <;> cases h
theorem z_body [L : LamC] [S : Susp] {N : List Str} {W : Wd} {xs : List LV} {vs : List V} {lh : LH} {b : EN → LH → SRes} {Q : VK} {E : XK} (l : LhR K mg W lh) (r : LReps K mg W xs vs) (h : tR K mg (LRep K mg) W E (mOf N.length b xs lh) Q) :
    tS K mg (fun c d _ H => E c d H) b { nx := fun _ H' => Q .non H', rt := Q } (L2.start N vs) W.H := by
  refine ⟨W, startE N.length xs, lh, rfl, startE_sr l r, ?_⟩
  unfold mOf at h
  have fin1 : ∀ {p : PV} {lh' : LH} {W' : Wd} {v : V}, tR K mg (LRep K mg) W E (.ok (.pv p) (clean lh lh')) Q → Ext W W' → LhR K mg W' lh' → LRep K mg W' (.pv p) v → Q v W'.H := fun {p lh' W' v} h e l' r => by
    obtain ⟨W2, hH, x0, e2, l2⟩ := clean_ok l e l'
    have := h v W2 e2 l2 (Rep.mono x0 r)
    rw [hH] at this
    exact this
  cases q : b (startE N.length xs) lh with
  | next env' lh' =>
    rw [q] at h
    exact fun σ W' e s => fin1 h e s.lh Rep.non
  | ret v lh' =>
    rw [q] at h
    cases v with
    | pv p => exact fun u W' e l' r => fin1 h e l' r
    | ref n => exact fun u W' e l' r => h u W' e l' r
  | exc y env' lh' =>
    rw [q] at h
    intro c d σ W' e s xr
    obtain ⟨W2, hH, x0, e2, l2⟩ := clean_ok l e s.lh
    have := h c d W2 e2 l2 (xr.ex0 hH x0)
    rw [hH] at this
    exact this
  | brk => rw [q] at h; exact h.elim
  | cont => rw [q] at h; exact h.elim
  | stuck => rw [q] at h; exact h.elim
end
def fCallD (m : List LV → LH → Res LV) (ds : List LV) (fas : EN → LH → Res (List LV)) (env : EN) (lh : LH) : Res LV := (fas env lh).bind fun xs lh1 => m (xs ++ ds) lh1
section
variable {X : Cx} {Wx : WX} {k : Nat} {f : Addr} {fd : FuncData} {ps : List Str} {m : List LV → LH → Res LV} {dvs : List V} {ds : List Value} {dls : List LV} {x : Str} {p pos : Pos} {e : Expr} {es : List Expr} {fas : EN → LH → Res (List LV)}
theorem fe_callD [L : LamC] [S : Susp] (tk : Takes X Wx) (F : FnOk X.prog X.w X.K X.mg X.base (L2.CX X.prog X.w) k f fd ps (SpZ X.K X.mg ps.length m)) (hr : Room k X.A) (hg : Gl X x) (hm : X.mg x = some (.ref f)) (hk : PySem.W.keepIn X.K (.ref f) = true)
    (hb : Binds X.K fd ps ds) (hd : Vals dvs ds) (hdl : ∀ W, LReps X.K X.mg W dls dvs) (hn : es.length + 1 + dls.length = ps.length) (hlen : ∀ env lh xs lh', fas env lh = .ok xs lh' → xs.length = es.length + 1)
    (ha : FA X Wx (e :: es) fas) (hdb : (x == ("__debug__" : Str)) = false := by decide) (he : starEach (e :: es) X.env = (false, eval e X.env) :: starEach es X.env := by rfl) (hpl : (backTo pos (starEach es X.env)).any (·.1) = false := by rfl) :
    FE X Wx (.Call (.Name x p) (e :: es) [] pos) (fCallD m dls fas) := by
  refine PE.imp (pe_callSD (E := WE Wx) F hr hg hm hk hb hd (fun σ => passAt tk σ) ha hdb he hpl) fun σ H Q ⟨W, env, lh, hH, sr, h⟩ => ?_
  subst hH
  cases q : fas env lh with
  | ok xs lh1 =>
    refine ⟨W, env, lh, rfl, sr, ?_⟩
    unfold fCallD at h
    rw [q] at h ⊢
    have hx := hlen _ _ _ _ q
    intro vs W1 e1 l1 r1
    refine ⟨?_, W1, xs ++ dls, lh1, rfl, l1, r1.append (hdl W1), h.mono e1⟩
    rw [List.length_append, ← r1.length, ← (hdl W1).length, hx]
    exact hn
  | exc y lh1 =>
    refine ⟨W, env, lh, rfl, sr, ?_⟩
    unfold fCallD at h
    rw [q] at h ⊢
    exact h
  | stuck =>
    unfold fCallD at h
    rw [q] at h
    exact h.elim
end
end Z
namespace Z
open PySem PySem.Spec PyProof.Rows L2
abbrev LV.b (n : Bool) : LV := .pv (.bl n)
abbrev LV.s (x : Str) : LV := .pv (.str x)
section
variable {X : Cx}
theorem OpZ.or [L : LamC] [S : Susp] {f : Value → Value → Sem Value} {z1 z2 z : LV → LV → LH → Res LV} (h1 : OpZ X f z1) (h2 : OpZ X f z2) (h : ∀ x y lh, z x y lh = z1 x y lh ∨ z x y lh = z2 x y lh) : OpZ X f z := by
  obtain ⟨r1, a1, b1⟩ := h1
  obtain ⟨r2, a2, b2⟩ := h2
  refine ⟨_, a1.or a2, fun W E x y lh v w Q l rx ry q => ?_⟩
  rcases h x y lh with e | e
  · exact .inl (b1 W E x y lh v w Q l rx ry (e ▸ q))
  · exact .inr (b2 W E x y lh v w Q l rx ry (e ▸ q))
theorem OpZ.of [L : LamC] [S : Susp] {f : Value → Value → Sem Value} {z : LV → LV → LH → Res LV} {r : R2} (h : OpR X f r)
    (b : ∀ (W : Wd) (E : XK) (x y : LV) (lh : LH) (v w : V) (Q : VK), LhR X.K X.mg W lh → LRep X.K X.mg W x v → LRep X.K X.mg W y w → tR X.K X.mg (LRep X.K X.mg) W E (z x y lh) Q → r v w W.H Q) : OpZ X f z := ⟨r, h, b⟩
def zII (g : Int → Int → Option PV) (x y : LV) (lh : LH) : Res LV := match x, y with
  | .pv (.int i), .pv (.int j) => (match g i j with
    | some p => .ok (.pv p) lh
    | none => .stuck)
  | _, _ => .stuck
theorem opz_int [L : LamC] [S : Susp] {f : Value → Value → Sem Value} {C : Int → Int → Prop} {gv : Int → Int → V} {g : Int → Int → Option PV} (h : OpR X f (rI C gv))
    (hg : ∀ i j p, g i j = some p → C i j ∧ ∀ W, Rep X.K X.mg W p (gv i j)) : OpZ X f (zII g) := by
  refine .of h fun W E x y lh v w Q l rx ry q => ?_
  unfold zII at q
  split at q
  · next i j =>
    split at q
    · next p e =>
      obtain ⟨c, r⟩ := hg i j p e
      cases rx; cases ry
      exact ⟨i, j, rfl, rfl, c, fin q l (r W)⟩
    · exact q.elim
  · exact q.elim
theorem opz_int0 [L : LamC] [S : Susp] {f : Value → Value → Sem Value} {gv : Int → Int → V} {g : Int → Int → Option PV} (h : OpR X f (rI0 gv))
    (hg : ∀ i j p, g i j = some p → ∀ W, Rep X.K X.mg W p (gv i j)) : OpZ X f (zII g) := by
  refine .of h fun W E x y lh v w Q l rx ry q => ?_
  unfold zII at q
  split at q
  · next i j =>
    split at q
    · next p e =>
      have r := hg i j p e
      cases rx; cases ry
      exact ⟨i, j, rfl, rfl, fin q l (r W)⟩
    · exact q.elim
  · exact q.elim
def gSub (i j : Int) : Option PV := some (.int (i - j))
def gAddI (i j : Int) : Option PV := some (.int (i + j))
def gLt (i j : Int) : Option PV := some (.bl (decide (i < j)))
def gLe (i j : Int) : Option PV := some (.bl (decide (i ≤ j)))
def gGt (i j : Int) : Option PV := some (.bl (decide (j < i)))
def gGe (i j : Int) : Option PV := some (.bl (decide (j ≤ i)))
/-- a product: small on one side, or both of a bounded size -/
def gMul (i j : Int) : Option PV := if (-(2 ^ 64) < i ∧ i < 2 ^ 64) ∨ (-(2 ^ 64) < j ∧ j < 2 ^ 64) then some (.int (i * j)) else none
def gMod (i j : Int) : Option PV := if 0 < j then some (.int (i % j)) else none
def gDiv (i j : Int) : Option PV := if 0 < j ∧ j < 1073741824 then some (.int (i / j)) else none
def gPow (i j : Int) : Option PV := if 0 ≤ j ∧ j ≤ 1000000 ∧ i.natAbs < 2 ^ 64 then some (.int (i ^ j.toNat)) else none
theorem oz_sub [L : LamC] [S : Susp] : OpZ X (binaryOp .Sub) (zII gSub) := opz_int0 op_sub fun i j p e W => by cases e; exact .int
theorem oz_addI [L : LamC] [S : Susp] : OpZ X (binaryOp .Add) (zII gAddI) := opz_int0 op_add fun i j p e W => by cases e; exact .int
theorem oz_mul [L : LamC] [S : Susp] : OpZ X (binaryOp .Mult) (zII gMul) := opz_int op_mul fun i j p e => by
  unfold gMul at e
  split at e
  · next h => cases e; exact ⟨h, fun W => .int⟩
  · cases e
theorem oz_mod [L : LamC] [S : Susp] : OpZ X (binaryOp .Mod) (zII gMod) := opz_int op_mod fun i j p e => by
  unfold gMod at e
  split at e
  · next h => cases e; exact ⟨h, fun W => .int⟩
  · cases e
theorem oz_div [L : LamC] [S : Susp] : OpZ X (binaryOp .FloorDiv) (zII gDiv) := opz_int op_fdiv fun i j p e => by
  unfold gDiv at e
  split at e
  · next h => cases e; exact ⟨h, fun W => .int⟩
  · cases e
theorem oz_pow [L : LamC] [S : Susp] : OpZ X (binaryOp .Pow) (zII gPow) := opz_int op_pow fun i j p e => by
  unfold gPow at e
  split at e
  · next h => cases e; exact ⟨h, fun W => .int⟩
  · cases e
theorem oz_lt [L : LamC] [S : Susp] : OpZ X (compareOp .Lt) (zII gLt) := opz_int0 op_lt fun i j p e W => by cases e; exact .bl
theorem oz_le [L : LamC] [S : Susp] : OpZ X (compareOp .LtE) (zII gLe) := opz_int0 op_le fun i j p e W => by cases e; exact .bl
theorem oz_gt [L : LamC] [S : Susp] : OpZ X (compareOp .Gt) (zII gGt) := opz_int0 op_gt fun i j p e W => by cases e; exact .bl
theorem oz_ge [L : LamC] [S : Susp] : OpZ X (compareOp .GtE) (zII gGe) := opz_int0 op_ge fun i j p e W => by cases e; exact .bl
def zAddS (x y : LV) (lh : LH) : Res LV := match x, y with
  | .pv (.str i), .pv (.str j) => if i.length + j.length ≤ sizeLine then .ok (.pv (.str (i ++ j))) lh else .stuck
  | _, _ => .stuck
theorem oz_addS [L : LamC] [S : Susp] : OpZ X (binaryOp .Add) zAddS := .of op_add_str fun W E x y lh v w Q l rx ry q => by
  unfold zAddS at q
  split at q
  · next i j =>
    split at q
    · next h => cases rx; cases ry; exact ⟨i, j, rfl, rfl, h, fin q l Rep.str⟩
    · exact q.elim
  · exact q.elim
/-- a + b of two lists that may be read -/
def rCatR : R2 := fun x y H Q => ∃ l b xs zs, x = .ref l ∧ y = .ref b ∧ Rd H l (.lst xs) ∧ Rd H b (.lst zs) ∧ xs.length + zs.length ≤ sizeLine ∧ ∀ p, H p = none → Q (.ref p) (upd H p (.lst (xs ++ zs)))
theorem Inv.lstR {pins : List (Addr × Obj)} {σ : L2.St} {H : Hp} {s : Shared} {l : Addr} {xs : List V} (I : Inv X pins σ H s) (hH : Rd H l (.lst xs)) : xs.length ≤ sizeLine ∧ ∃ (its : List Value) (n : Nat), Vals xs its ∧ xs.length = its.length ∧ s.heap.get? l = some { cls := .type "list", data := .seq its.toArray n } := by
  obtain ⟨z, its, n, r, e⟩ := hH.ok I.hok
  exact ⟨z, its, n, r, r.length, e⟩
theorem op_catR : OpR X (binaryOp .Add) rCatR := by
  intro pins s σ H x y v u Q I rx ry h
  obtain ⟨l, b, xs, zs, rfl, rfl, hH, hB, hz, q⟩ := h
  cases rx
  cases ry
  obtain ⟨z, its, n, r, hl, e⟩ := Inv.lstR I hH
  obtain ⟨z2, its2, n2, r2, hl2, e2⟩ := Inv.lstR I hB
  refine PySem.P.add_list e e2 ?_ (by rw [List.size_toArray, List.size_toArray]; omega)
  have ea : its.toArray ++ its2.toArray = (its ++ its2).toArray := by simp
  rw [ea]
  exact ⟨.ref _, _, I.lnew (t' := s.toks) (r.append r2) (by rw [List.length_append]; omega), rfl, q _ I.fresh⟩
def zAddL (x y : LV) (lh : LH) : Res LV := match lstOf x lh, lstOf y lh with
  | some xs, some ys => (match pvs (xs ++ ys) with
    | some ps => if ps.length ≤ sizeLine then .ok (.pv (.lst ps)) lh else .stuck
    | none => .stuck)
  | _, _ => .stuck
theorem oz_addL [L : LamC] [S : Susp] : OpZ X (binaryOp .Add) zAddL := .of op_catR fun W E x y lh v w Q l rx ry q => by
  unfold zAddL at q
  split at q
  · next xs ys hx hy =>
    split at q
    · next ps hp =>
      split at q
      · next hz =>
        obtain ⟨a, vs, rfl, h1, r1⟩ := lst_rd l rx hx
        obtain ⟨b, ws, rfl, h2, r2⟩ := lst_rd l ry hy
        have e := pvs_some hp
        have r := r1.append r2
        rw [e] at r
        have hl : ps.length = vs.length + ws.length := by
          have := r.length
          simpa using this
        exact ⟨a, b, vs, ws, rfl, rfl, h1, h2, by omega, fun p hp => fin_lst q l r.p hp⟩
      · exact q.elim
    · exact q.elim
  · exact q.elim
def zAddT (x y : LV) (lh : LH) : Res LV := match tupOf x, tupOf y with
  | some xs, some ys => if xs.length + ys.length ≤ sizeLine then .ok (.pv (.tup (xs ++ ys))) lh else .stuck
  | _, _ => .stuck
theorem tupOf_some {x : LV} {xs : List PV} (h : tupOf x = some xs) : x = .pv (.tup xs) := by
  cases x with
  | pv q => cases q <;> first | (cases h; done) | (cases h; rfl)
  | ref n => cases h
theorem oz_addT [L : LamC] [S : Susp] : OpZ X (binaryOp .Add) zAddT := .of op_catA fun W E x y lh v w Q l rx ry q => by
  unfold zAddT at q
  split at q
  · next xs ys hx hy =>
    split at q
    · next hz =>
      have ex := tupOf_some hx
      have ey := tupOf_some hy
      subst ex; subst ey
      obtain ⟨a, vs, rfl, f1, r1⟩ := tup_inv rx
      obtain ⟨b, ws, rfl, f2, r2⟩ := tup_inv ry
      refine ⟨a, b, vs, ws, rfl, rfl, f1.sq, f2.sq, by rw [← r1.length, ← r2.length]; exact hz, fun e => ?_, fun _ e => ?_, fun _ _ p hp => fin_tup q l (r1.append r2) hp⟩
      · have : xs = [] := by
          have := r1.length
          rw [e] at this
          exact List.length_eq_zero_iff.mp this
        subst this
        rw [List.nil_append] at q
        exact fin q l ry
      · have : ys = [] := by
          have := r2.length
          rw [e] at this
          exact List.length_eq_zero_iff.mp this
        subst this
        rw [List.append_nil] at q
        exact fin q l rx
    · exact q.elim
  · exact q.elim
/-- a + b -/
def zAdd (x y : LV) (lh : LH) : Res LV := match x, y with
  | .pv (.int _), _ => zII gAddI x y lh
  | .pv (.str _), _ => zAddS x y lh
  | .pv (.tup _), _ => zAddT x y lh
  | _, _ => zAddL x y lh
theorem oz_add [L : LamC] [S : Susp] : OpZ X (binaryOp .Add) zAdd := by
  refine .or (z1 := fun x y lh => match x with | .pv (.int _) => zII gAddI x y lh | _ => zAddS x y lh) (z2 := fun x y lh => match x with | .pv (.tup _) => zAddT x y lh | _ => zAddL x y lh) (.or oz_addI oz_addS fun x y lh => ?_) (.or oz_addT oz_addL fun x y lh => ?_) fun x y lh => ?_
  · split <;> simp
  · split <;> simp
  · unfold zAdd; split <;> simp_all
def zIsN (neg : Bool) (x y : LV) (lh : LH) : Res LV := match y with
  | .pv .non => (match x with
    | .pv p => .ok (.pv (.bl (xor neg (decide (p = .non))))) lh
    | .ref n => (match lh[n]? with
      | some .dead => .stuck
      | none => .stuck
      | _ => .ok (.pv (.bl neg)) lh))
  | _ => .stuck
theorem zIsN_end [L : LamC] [S : Susp] {W : Wd} {E : XK} {lh : LH} {x y : LV} {v : V} {neg : Bool} {Q : VK} (l : LhR X.K X.mg W lh) (rx : LRep X.K X.mg W x v) (h : tR X.K X.mg (LRep X.K X.mg) W E (zIsN neg x y lh) Q) :
    y = .pv .non ∧ Q (.bl (xor neg (decide (v = .non)))) W.H := by
  unfold zIsN at h
  split at h
  · refine ⟨rfl, ?_⟩
    split at h
    · next p =>
      have : decide (v = .non) = decide (p = .non) := by
        cases p <;> cases rx <;> simp
      rw [this]
      exact fin h l Rep.bl
    · next n =>
      split at h
      · exact h.elim
      · exact h.elim
      · next o1 h1 h2 =>
        cases e : lh[n]? with
        | none => exact absurd e h2
        | some o =>
          have nd : o ≠ .dead := fun z => h1 (z ▸ e)
          obtain ⟨a, u, h3, _⟩ := io_at l e nd
          have := rx.2 a h3
          subst this
          have h4 := fin (v := V.bl neg) h l Rep.bl
          simpa using h4
  · exact h.elim
theorem oz_isN [L : LamC] [S : Susp] : OpZ X (compareOp .Is) (zIsN false) := .of op_isN fun W E x y lh v w Q l rx ry q => by
  obtain ⟨rfl, q2⟩ := zIsN_end l rx q
  cases ry
  exact ⟨rfl, by simpa using q2⟩
mutual
def pd : PV → Option PyData
  | .non => some .none
  | .bl b => some (.bool b)
  | .int i => some (.int i)
  | .str s => some (.str s)
  | .tup xs => (pds xs).map .tuple
  | .lst xs => (pds xs).map .list
  | _ => none
def pds : List PV → Option (List PyData)
  | [] => some []
  | x :: xs => (pd x).bind fun d => (pds xs).map fun ds => d :: ds
end
mutual
theorem dp_of [L : LamC] [S : Susp] {W : Wd} : ∀ {x : PV} {v : V} {d : PyData}, Rep X.K X.mg W x v → pd x = some d → Dp X.K W.H v d
  | .non, _, _, .non, h => by simp [pd] at h; subst h; exact .non
  | .bl b, _, _, .bl, h => by simp [pd] at h; subst h; exact .bl b
  | .int i, _, _, .int, h => by simp [pd] at h; subst h; exact .int i
  | .str s, _, _, .str, h => by simp [pd] at h; subst h; exact .str s
  | .tup xs, _, _, .tup f r, h => by
    obtain ⟨ds, e, rfl⟩ := Option.map_eq_some_iff.mp (show (pds xs).map PyData.tuple = some _ by simpa [pd] using h)
    exact .tup f.sq (dps_of r e)
  | .lst xs, _, _, .lst f r, h => by
    obtain ⟨ds, e, rfl⟩ := Option.map_eq_some_iff.mp (show (pds xs).map PyData.list = some _ by simpa [pd] using h)
    exact .lst f.sq (dps_of r e)
  | .dct _, _, _, _, h => by simp [pd] at h
  | .obj _ _, _, _, _, h => by simp [pd] at h
  | .glob _, _, _, _, h => by simp [pd] at h
  | .scr _, _, _, _, h => by simp [pd] at h
  | .dcT _, _, _, _, h => by simp [pd] at h
  | .bt _, _, _, _, h => by simp [pd] at h
theorem dps_of [L : LamC] [S : Susp] {W : Wd} : ∀ {xs : List PV} {vs : List V} {ds : List PyData}, Reps X.K X.mg W xs vs → pds xs = some ds → DpAll X.K W.H vs ds
  | [], _, _, .nil, h => by simp [pds] at h; subst h; exact .nil
  | x :: xs, _, dd, .cons r t, h => by
    have h : (pd x).bind (fun d => (pds xs).map fun ds => d :: ds) = some dd := by rw [← h, pds]
    obtain ⟨d, e1, h⟩ := Option.bind_eq_some_iff.mp h
    obtain ⟨ds, e2, rfl⟩ := Option.map_eq_some_iff.mp h
    exact .cons (dp_of r e1) (dps_of t e2)
end
/-- a value as data -/
def pdL (x : LV) (lh : LH) : Option PyData := match x with
  | .pv p => pd p
  | .ref n => (match lh[n]? with
    | some (.lst xs) => (pvs xs).bind fun ps => (pds ps).map .list
    | _ => none)
theorem dpL_of [L : LamC] [S : Susp] {W : Wd} {lh : LH} {x : LV} {v : V} {d : PyData} (l : LhR X.K X.mg W lh) (r : LRep X.K X.mg W x v) (h : pdL x lh = some d) : Dp X.K W.H v d := by
  cases x with
  | pv p => exact dp_of r h
  | ref n =>
    have h : (match lh[n]? with
      | some (.lst xs) => (pvs xs).bind fun ps => (pds ps).map .list
      | _ => none) = some d := h
    split at h
    · next xs e =>
      obtain ⟨ps, e1, h⟩ := Option.bind_eq_some_iff.mp h
      obtain ⟨ds, e2, rfl⟩ := Option.map_eq_some_iff.mp h
      have := pvs_some e1
      subst this
      obtain ⟨a, u, h1, h2, h3, _⟩ := io_at l e (by intro z; cases z)
      cases h3 with
      | lst q =>
        have := r.2 a h1
        subst this
        exact .lst (.inl (.inl h2)) (dps_of q.p e2)
    · cases h
def zEqD (neg : Bool) (x y : LV) (lh : LH) : Res LV := match pdL x lh, pdL y lh with
  | some d, some e => if SeqAt.shaped d = true ∧ SeqAt.shaped e = true then .ok (.pv (.bl (xor neg (PyData.eqv d e)))) lh else .stuck
  | _, _ => .stuck
theorem oz_eqD [L : LamC] [S : Susp] (hu : X.A.units + 64 < cLine) : OpZ X (compareOp .Eq) (zEqD false) := .of (op_eqD hu) fun W E x y lh v w Q l rx ry q => by
  unfold zEqD at q
  split at q
  · next d e hd he =>
    split at q
    · next hs => exact ⟨d, e, dpL_of l rx hd, dpL_of l ry he, hs.1, hs.2, by simpa using fin q l Rep.bl⟩
    · exact q.elim
  · exact q.elim
theorem oz_neD [L : LamC] [S : Susp] (hu : X.A.units + 64 < cLine) : OpZ X (compareOp .NotEq) (zEqD true) := .of (op_neD hu) fun W E x y lh v w Q l rx ry q => by
  unfold zEqD at q
  split at q
  · next d e hd he =>
    split at q
    · next hs => exact ⟨d, e, dpL_of l rx hd, dpL_of l ry he, hs.1, hs.2, by simpa using fin q l Rep.bl⟩
    · exact q.elim
  · exact q.elim
end
end Z
namespace Z
open PySem PySem.Spec PyProof.Rows L2
/-- an argument list of n values -/
def FL (f : EN → LH → Res (List LV)) (n : Nat) : Prop := ∀ env lh xs lh', f env lh = .ok xs lh' → xs.length = n
theorem fl_nil : FL fNil 0 := fun env lh xs lh' h => by cases h; rfl
theorem fl_cons {fa : EN → LH → Res LV} {fr : EN → LH → Res (List LV)} {n : Nat} (h : FL fr n) : FL (fCons fa fr) (n + 1) := fun env lh xs lh' q => by
  unfold fCons at q
  cases e : fa env lh with
  | ok x lh1 =>
    rw [e] at q
    cases e2 : fr env lh1 with
    | ok ys lh2 =>
      rw [Res.bind_ok, e2] at q
      cases q
      rw [List.length_cons, h _ _ _ _ e2]
    | exc y lh2 => rw [Res.bind_ok, e2] at q; cases q
    | stuck => rw [Res.bind_ok, e2] at q; cases q
  | exc y lh1 => rw [e] at q; cases q
  | stuck => rw [e] at q; cases q
def zLst (xs : List LV) (lh : LH) : Res LV := match pvs xs with
  | some ps => .ok (.pv (.lst ps)) lh
  | none => .stuck
def zTup (xs : List LV) (lh : LH) : Res LV := match pvs xs with
  | some ps => .ok (.pv (.tup ps)) lh
  | none => .stuck
def zLstM (xs : List LV) (lh : LH) : Res LV := .ok (.ref lh.length) (lh ++ [.lst xs])
def fArgs (z : List LV → LH → Res LV) (fas : EN → LH → Res (List LV)) (env : EN) (lh : LH) : Res LV := (fas env lh).bind z
def fMkD (env : EN) (lh : LH) : Res LV := .ok (.ref lh.length) (lh ++ [.dct []])
def fMkD0 (env : EN) (lh : LH) : Res LV := .ok (.pv (.dct [])) lh
section
variable {X : Cx} {Wx : WX} {es : List Expr} {fas : EN → LH → Res (List LV)} {pos : Pos} {n : Nat}
/-- an argument list, its length known -/
theorem goFL [L : LamC] [S : Susp] {α : Type} {γ : Type} {P : Wd → α → γ → Prop} {K : PySem.W.Frag} {mg : Str → Option Value} {W : Wd} {σ : L2.St} {env : EN} {lh : LH} {Wx : WX} {k : List LV → LH → Res α} {Q : γ → Hp → Prop} {R : List V → Hp → Prop} (hl : FL fas n) (sr : SR K mg W σ env lh)
    (h : tR K mg P W (WE Wx σ) ((fas env lh).bind k) Q)
    (hk : ∀ xs lh1 vs W1, xs.length = n → Ext W W1 → SR K mg W1 σ env lh1 → LReps K mg W1 xs vs → tR K mg P W1 (WE Wx σ) (k xs lh1) Q → R vs W1.H) : tE K mg (LReps K mg) Wx fas σ W.H R := by
  refine ⟨W, env, lh, rfl, sr, ?_⟩
  cases q : fas env lh with
  | ok x lh1 =>
    rw [q] at h
    exact fun v W1 e l r => hk x lh1 v W1 (hl _ _ _ _ q) e (sr.mono e l) r (h.mono e)
  | exc x lh1 =>
    rw [q] at h
    exact h
  | stuck =>
    rw [q] at h
    exact h.elim
theorem fe_lst [L : LamC] [S : Susp] (hl : FL fas n) (hn : n ≤ sizeLine := by decide) (ha : FA X Wx es fas) : FE X Wx (.List es pos) (fArgs zLst fas) := by
  refine PE.imp (pe_lst ha) fun σ H Q ⟨W, env, lh, hH, sr, h⟩ => ?_
  subst hH
  refine goFL hl sr h fun xs lh1 vs W1 hx e1 s1 r1 h1 => ?_
  unfold zLst at h1
  split at h1
  · next ps e =>
    have := pvs_some e
    subst this
    exact ⟨by rw [← r1.length, hx]; exact hn, fun p hp => fin_lst h1 s1.lh r1.p hp⟩
  · exact h1.elim
theorem fe_tup [L : LamC] [S : Susp] {k : Nat} (hl : FL fas n) (hn : n ≤ sizeLine := by decide) (ha : FA X Wx es fas) : FE X Wx (.Tuple es k pos) (fArgs zTup fas) := by
  refine PE.imp (pe_tup ha) fun σ H Q ⟨W, env, lh, hH, sr, h⟩ => ?_
  subst hH
  refine goFL hl sr h fun xs lh1 vs W1 hx e1 s1 r1 h1 => ?_
  unfold zTup at h1
  split at h1
  · next ps e =>
    have := pvs_some e
    subst this
    exact ⟨by rw [← r1.length, hx]; exact hn, fun p hp => fin_tup h1 s1.lh r1.p hp⟩
  · exact h1.elim
/-- the end of a rule that makes an object that may change -/
theorem fin_new [L : LamC] [S : Susp] {K : PySem.W.Frag} {mg : Str → Option Value} {W : Wd} {E : XK} {lh : LH} {o : LO} {u : HO} {Q : VK} {p : Addr} (h : tR K mg (LRep K mg) W E (.ok (.ref lh.length) (lh ++ [o])) Q) (l : LhR K mg W lh) (hp : W.H p = none)
    (r : ORep K mg ⟨upd W.H p u, W.io ++ [some p], W.hd⟩ o u) : Q (.ref p) (upd W.H p u) := by
  refine h (.ref p) ⟨upd W.H p u, W.io ++ [some p], W.hd⟩ (Ext.newM l hp) (l.newM hp r) ⟨?_, fun a q => ?_⟩
  · show lh.length < (W.io ++ [some p]).length
    rw [List.length_append, l.len]
    exact Nat.lt_succ_self _
  · have q : (W.io ++ [some p])[lh.length]? = some (some a) := q
    rw [l.len, List.getElem?_append_right (Nat.le_refl _), Nat.sub_self] at q
    have : p = a := by simpa using q
    rw [this]
theorem fe_lstM [L : LamC] [S : Susp] (hl : FL fas n) (hn : n ≤ sizeLine := by decide) (ha : FA X Wx es fas) : FE X Wx (.List es pos) (fArgs zLstM fas) := by
  refine PE.imp (pe_lst ha) fun σ H Q ⟨W, env, lh, hH, sr, h⟩ => ?_
  subst hH
  refine goFL hl sr h fun xs lh1 vs W1 hx e1 s1 r1 h1 => ?_
  exact ⟨by rw [← r1.length, hx]; exact hn, fun p hp => fin_new h1 s1.lh hp (.lst (r1.mono (Ext.newM s1.lh hp).toEx))⟩
theorem fe_dnewM [L : LamC] [S : Susp] : FE X Wx (.Dict [] [] pos) fMkD := by
  refine PE.imp pe_dnewK fun σ H Q ⟨W, env, lh, hH, sr, h⟩ p hp => ?_
  subst hH
  exact fin_new h sr.lh hp (.dct .nil)
theorem fe_dnew0 [L : LamC] [S : Susp] : FE X Wx (.Dict [] [] pos) fMkD0 := by
  refine PE.imp pe_dnewK fun σ H Q ⟨W, env, lh, hH, sr, h⟩ p hp => ?_
  subst hH
  exact h (.ref p) ⟨upd W.H p (.dK []), W.io, W.hd⟩ (Ext.new sr.lh hp) (sr.lh.new hp) (.dct (.inl upd_same) (nMu_new sr.lh hp) .nil)
end
theorem atI_rep [L : LamC] [S : Susp] {K : PySem.W.Frag} {mg : Str → Option Value} {W : Wd} {xs : List LV} {vs : List V} (r : LReps K mg W xs vs) {i : Int} {x : LV} (h : atI xs i = some x) : ∃ v, atI vs i = some v ∧ LRep K mg W x v := by
  unfold atI at h ⊢
  rw [← r.length]
  cases e : ixN xs.length i with
  | none => rw [e] at h; cases h
  | some j =>
    rw [e] at h
    exact r.get h
/-- a dict, seen: its pairs -/
def dctOf (x : LV) (lh : LH) : Option (List (PV × LV)) := match x with
  | .pv (.dct kvs) => some (kvs.map fun p => (p.1, .pv p.2))
  | .ref n => (match lh[n]? with
    | some (.dct kvs) => some kvs
    | _ => none)
  | _ => none
def getD (kvs : List (PV × LV)) (k : PV) : Option LV := (kvs.find? fun kv => decide (kv.1 = k)).map (·.2)
def zIx (x y : LV) (lh : LH) : Res LV := match x with
  | .pv (.str z) => (match y with
    | .pv (.int i) => if z.length ≤ sizeLine then (match atI z.cps.toList i with
      | some c => .ok (.pv (.str ⟨#[c]⟩)) lh
      | none => .stuck) else .stuck
    | _ => .stuck)
  | .pv (.tup xs) => (match y with
    | .pv (.int i) => (match atI xs i with
      | some c => .ok (.pv c) lh
      | none => .stuck)
    | _ => .stuck)
  | _ => (match lstOf x lh with
    | some xs => (match y with
      | .pv (.int i) => (match atI xs i with
        | some c => .ok c lh
        | none => .stuck)
      | _ => .stuck)
    | none => (match dctOf x lh with
      | some kvs => (match y with
        | .pv k => (match getD kvs k with
          | some v => .ok v lh
          | none => .stuck)
        | .ref _ => .stuck)
      | none => .stuck))
section
variable {X : Cx} {Wx : WX} {a b : Expr} {fa fb : EN → LH → Res LV} {pos : Pos}
def rIxD : R2 := fun x y H Q => ∃ a v, x = .ref a ∧ DGet H a y (some v) ∧ Q v H
theorem ix_dict (hu : X.A.units + 1 < cLine) : IxR X rIxD := by
  intro value slice pins s σ H x y v u Q I rx ry h hs
  obtain ⟨a, w, rfl, g, q⟩ := h
  cases rx
  exact tail_any (dict_typeIs I g) PySem.F.slot_dict_getitem.lookup (d_getItem hu I g ry fun w' s' I' r => ⟨w, H, I', r, q⟩) hs
theorem ix_all (hu : X.A.units + 1 < cLine) : IxR X (fun x y H Q => rIx X.K x y H Q ∨ rIxD x y H Q) := ix_seq.or (ix_dict hu)
/-- what a dict holds, seen -/
theorem kP_kV [L : LamC] [S : Susp] {K : PySem.W.Frag} {mg : Str → Option Value} {W : Wd} {k : Key} {v : V} (r : Rep K mg W (kP k) v) : v = kV k := by
  cases k with
  | inl i => cases r; rfl
  | inr s => cases r; rfl
theorem kP_inj {k l : Key} : kP k = kP l ↔ k = l := by
  cases k <;> cases l <;> simp [kP]
theorem lrepD_get [L : LamC] [S : Susp] {K : PySem.W.Frag} {mg : Str → Option Value} {W : Wd} {kvs : List (PV × LV)} {hs : List (Key × V)} (r : LRepD K mg W kvs hs) (k : Key) :
    match getD kvs (kP k) with
    | some x => ∃ v, valV hs k = some v ∧ LRep K mg W x v
    | none => valV hs k = none := by
  induction r with
  | nil => rfl
  | @cons l x v xs vs r1 _ ih =>
    unfold getD at ih ⊢
    by_cases e : l = k
    · subst e
      simp only [List.find?_cons, decide_true, Option.map_some]
      exact ⟨v, valV_pos rfl, r1⟩
    · have e2 : ¬ kP l = kP k := fun z => e (kP_inj.mp z)
      simp only [List.find?_cons, e2, decide_false]
      rw [valV_neg (p := (l, v)) e]
      exact ih
theorem RepD.l [L : LamC] [S : Susp] {K : PySem.W.Frag} {mg : Str → Option Value} {W : Wd} : ∀ {kvs : List (PV × PV)} {hs : List (Key × V)}, RepD K mg W kvs hs → LRepD K mg W (kvs.map fun p => (p.1, .pv p.2)) hs
  | _, _, .nil => .nil
  | _, _, .cons r t => .cons r (RepD.l t)
theorem RepT.l [L : LamC] [S : Susp] {K : PySem.W.Frag} {mg : Str → Option Value} {W : Wd} : ∀ {kvs : List (PV × PV)} {hs : List (List Key × V)}, RepT K mg W kvs hs → LRepT K mg W (kvs.map fun p => (p.1, .pv p.2)) hs
  | _, _, .nil => .nil
  | _, _, .cons r t => .cons r (RepT.l t)
theorem dct_rd [L : LamC] [S : Susp] {K : PySem.W.Frag} {mg : Str → Option Value} {W : Wd} {lh : LH} {x : LV} {v : V} {kvs : List (PV × LV)} (l : LhR K mg W lh) (r : LRep K mg W x v) (h : dctOf x lh = some kvs) : ∃ a hs, v = .ref a ∧ Rd W.H a (.dK hs) ∧ LRepD K mg W kvs hs := by
  cases x with
  | pv p =>
    cases p with
    | dct ys =>
      cases h
      cases r with
      | dct f n q => exact ⟨_, _, rfl, f, q.l⟩
    | _ => cases h
  | ref n =>
    have h : (match lh[n]? with | some (.dct xs) => some xs | _ => none) = some kvs := h
    split at h
    · next ys e2 =>
      have h := Option.some.inj h
      subst h
      obtain ⟨a, u, h1, h2, h3, hn⟩ := io_at l e2 (by intro z; cases z)
      cases h3 with
      | dct q => exact ⟨a, _, r.2 a h1, .inl h2, q⟩
    · cases h
theorem zIx_end [L : LamC] [S : Susp] (hu : X.A.units + 1 < cLine) {W : Wd} {E : XK} {x y : LV} {lh : LH} {v w : V} {Q : VK} (l : LhR X.K X.mg W lh) (rx : LRep X.K X.mg W x v) (ry : LRep X.K X.mg W y w) (q : tR X.K X.mg (LRep X.K X.mg) W E (zIx x y lh) Q) :
    rIx X.K v w W.H Q ∨ rIxD v w W.H Q := by
  unfold zIx at q
  split at q
  · next z =>
    split at q
    · next i =>
      split at q
      · next hz =>
        split at q
        · next c hc => cases rx; cases ry; exact .inl (.inr (.inr ⟨z, i, c, rfl, rfl, hz, hc, fin q l Rep.str⟩))
        · exact q.elim
      · exact q.elim
    · exact q.elim
  · next xs =>
    split at q
    · next i =>
      split at q
      · next c hc =>
        obtain ⟨a, vs, rfl, f, r⟩ := tup_inv rx
        cases ry
        obtain ⟨u, hu, ru⟩ := atI_rep r.l (x := .pv c) (by
          have : atI (xs.map LV.pv) i = (atI xs i).map .pv := by
            unfold atI
            rw [List.length_map]
            cases ixN xs.length i with
            | none => rfl
            | some j => simp
          rw [this, hc]; rfl)
        exact .inl (.inr (.inl ⟨a, vs, i, u, rfl, rfl, f.sq, hu, fin q l ru⟩))
      · exact q.elim
    · exact q.elim
  · split at q
    · next xs hx =>
      split at q
      · next i =>
        split at q
        · next c hc =>
          obtain ⟨a, vs, rfl, h1, r⟩ := lst_rd l rx hx
          cases ry
          obtain ⟨u, hu, ru⟩ := atI_rep r hc
          exact .inl (.inl ⟨a, vs, i, u, rfl, rfl, sq_of h1, hu, fin q l ru⟩)
        · exact q.elim
      · exact q.elim
    · split at q
      · next kvs hx =>
        split at q
        · next k =>
          split at q
          · next u hk =>
            obtain ⟨a, hs, rfl, f, r⟩ := dct_rd l rx hx
            refine .inr ?_
            have hmem : ∃ kk : Key, k = kP kk := by
              clear q rx ry hx
              unfold getD at hk
              obtain ⟨p, hp, _⟩ := Option.map_eq_some_iff.mp hk
              have h1 := List.find?_some hp
              have h2 := List.mem_of_find?_eq_some hp
              clear hk hp f
              induction r with
              | nil => cases h2
              | @cons l x v xs vs r1 _ ih =>
                rcases List.mem_cons.mp h2 with e | h2
                · subst e; exact ⟨l, (of_decide_eq_true h1).symm⟩
                · exact ih h2
            obtain ⟨kk, rfl⟩ := hmem
            have := lrepD_get r kk
            rw [hk] at this
            obtain ⟨z, hz, rz⟩ := this
            have e := kP_kV ry
            subst e
            exact ⟨a, z, rfl, .inl ⟨_, kk, f, rfl, hz.symm⟩, fin q l rz⟩
          · exact q.elim
        · exact q.elim
      · exact q.elim
theorem fe_ix [L : LamC] [S : Susp] (hu : X.A.units + 1 < cLine) (ha : FE X Wx a fa) (hb : FE X Wx b fb) (hs : PlainIx b := by exact fun _ _ => rfl) : FE X Wx (.Subscript a b pos) (fBin zIx fa fb) := by
  refine PE.imp (pe_ix (ix_all hu) ha hb hs) fun σ H Q ⟨W, env, lh, hH, sr, h⟩ => ?_
  subst hH
  refine go (k := fun x lh1 => (fb env lh1).bind fun y lh2 => zIx x y lh2) sr h fun x lh1 v W1 e1 s1 r1 h1 => ?_
  refine go (k := fun y lh2 => zIx x y lh2) s1 h1 fun y lh2 w W2 e2 s2 r2 h3 => ?_
  exact zIx_end hu s2.lh (r1.mono e2.toEx) r2 h3
end
end Z
namespace Z
open PySem PySem.Spec PyProof.Rows L2
def cutL {α : Type} (xs : List α) (lo hi : Option Int) : List α := (xs.drop (HT.sIx xs.length 0 lo)).take (HT.sIx xs.length xs.length hi - HT.sIx xs.length 0 lo)
theorem cutL_V (xs : List V) (lo hi : Option Int) : cutL xs lo hi = cutV xs lo hi := rfl
theorem cutL_map {α β : Type} (f : α → β) (xs : List α) (lo hi : Option Int) : cutL (xs.map f) lo hi = (cutL xs lo hi).map f := by
  unfold cutL
  rw [List.length_map, List.map_take, List.map_drop]
def zSl (x : LV) (lo hi : Option Int) (lh : LH) : Res LV := match x with
  | .pv (.scr xs) => .ok (.pv (.lst ((cutL xs lo hi).map .int))) lh
  | .pv (.tup xs) => .ok (.pv (.tup (cutL xs lo hi))) lh
  | .pv (.str z) => if z.length ≤ sizeLine then .ok (.pv (.str (cutS z lo hi))) lh else .stuck
  | _ => (match lstOf x lh with
    | some xs => (match pvs (cutL xs lo hi) with
      | some ps => .ok (.pv (.lst ps)) lh
      | none => .stuck)
    | none => .stuck)
def fOpt (f : Option (EN → LH → Res LV)) (env : EN) (lh : LH) : Res (Option Int) := match f with
  | none => .ok none lh
  | some f => (f env lh).bind fun x lh1 => match x with
    | .pv (.int i) => .ok (some i) lh1
    | _ => .stuck
def fSl (fe : EN → LH → Res LV) (lo hi : Option (EN → LH → Res LV)) (env : EN) (lh : LH) : Res LV :=
  (fe env lh).bind fun x lh1 => (fOpt lo env lh1).bind fun l lh2 => (fOpt hi env lh2).bind fun h lh3 => zSl x l h lh3
section
variable {X : Cx} {Wx : WX} {e : Expr} {fe : EN → LH → Res LV} {lo hi : Option Expr} {flo fhi : Option (EN → LH → Res LV)} {pos p2 : Pos}
def ORp (_ : Wd) (a b : Option Int) : Prop := b = a
abbrev FO [L : LamC] [S : Susp] (X : Cx) (Wx : WX) (e : Option Expr) (f : Option (EN → LH → Res LV)) : Prop := PO X e (tE X.K X.mg ORp Wx (fOpt f))
theorem PO.imp {X : Cx} {e : Option Expr} {t t' : TO} (h : PO X e t) (i : ∀ σ H Q, t' σ H Q → t σ H Q) : PO X e t' := ⟨fun pins s σ H Q I q => h.run pins s σ H Q I (i σ H Q q)⟩
theorem fo_none [L : LamC] [S : Susp] : FO X Wx none none := PO.imp po_none fun σ H Q ⟨W, env, lh, hH, sr, h⟩ => hH ▸ fin h sr.lh rfl
theorem fo_some [L : LamC] [S : Susp] (he : FE X Wx e fe) : FO X Wx (some e) (some fe) := by
  refine PO.imp (po_some he) fun σ H Q ⟨W, env, lh, hH, sr, h⟩ => ?_
  subst hH
  refine go (k := fun x lh1 => match x with | .pv (.int i) => Res.ok (some i) lh1 | _ => .stuck) sr h fun x lh1 v W1 e1 s1 r1 h1 => ?_
  split at h1
  · next i => cases r1; exact ⟨i, rfl, fin h1 s1.lh rfl⟩
  · exact h1.elim
def rSlX (K : PySem.W.Frag) : V → Option Int → Option Int → Hp → VK → Prop := fun x lo hi H Q => rSlL K x lo hi H Q ∨ rSlA K x lo hi H Q ∨ rSlS x lo hi H Q
theorem sl_all : SlR X (rSlX X.K) := sl_list.or (sl_tupA.or sl_str)
theorem cut_reps [L : LamC] [S : Susp] {K : PySem.W.Frag} {mg : Str → Option Value} {W : Wd} {xs : List LV} {vs : List V} (r : LReps K mg W xs vs) (lo hi : Option Int) : LReps K mg W (cutL xs lo hi) (cutV vs lo hi) := by
  unfold cutL cutV
  rw [← r.length]
  exact (r.drop _).take _
theorem reps_ints [L : LamC] [S : Susp] {K : PySem.W.Frag} {mg : Str → Option Value} {W : Wd} : ∀ xs : List Int, Reps K mg W (xs.map .int) (xs.map .int)
  | [] => .nil
  | x :: xs => .cons .int (reps_ints xs)
theorem zSl_end [L : LamC] [S : Susp] {W : Wd} {E : XK} {x : LV} {lh : LH} {v : V} {lo hi : Option Int} {Q : VK} (l : LhR X.K X.mg W lh) (rx : LRep X.K X.mg W x v) (q : tR X.K X.mg (LRep X.K X.mg) W E (zSl x lo hi lh) Q) : rSlX X.K v lo hi W.H Q := by
  unfold zSl at q
  split at q
  · next xs =>
    cases rx with
    | scr f =>
      refine .inl ⟨_, _, rfl, f.sq, fun p hp => ?_⟩
      have e : cutV (xs.map V.int) lo hi = (cutL xs lo hi).map V.int := by rw [← cutL_V, cutL_map]
      rw [e]
      exact fin_lst q l (reps_ints _) hp
  · next xs =>
    obtain ⟨a, vs, rfl, f, r⟩ := tup_inv rx
    refine .inr (.inl ⟨a, vs, rfl, f.sq, fun hw => ?_, fun hw p hp => ?_⟩)
    · have : cutL xs lo hi = xs := by
        unfold cutL
        rw [r.length, hw.1, hw.2, List.drop_zero, Nat.sub_zero, ← r.length, List.take_length]
      rw [this] at q
      exact fin q l rx
    · refine fin_tup q l ?_ hp
      have := cut_reps r.l lo hi
      rw [cutL_map] at this
      exact this.p
  · next z =>
    split at q
    · next hz => cases rx; exact .inr (.inr ⟨z, rfl, hz, fin q l Rep.str⟩)
    · exact q.elim
  · split at q
    · next xs hx =>
      split at q
      · next ps hp =>
        obtain ⟨a, vs, rfl, h1, r⟩ := lst_rd l rx hx
        have := pvs_some hp
        have r2 := cut_reps r lo hi
        rw [this] at r2
        exact .inl ⟨a, vs, rfl, sq_of h1, fun p hp => fin_lst q l r2.p hp⟩
      · exact q.elim
    · exact q.elim
theorem fe_sl [L : LamC] [S : Susp] (he : FE X Wx e fe) (hlo : FO X Wx lo flo) (hhi : FO X Wx hi fhi) : FE X Wx (.Subscript e (.Slice lo hi none p2) pos) (fSl fe flo fhi) := by
  refine PE.imp (pe_slice sl_all he hlo hhi) fun σ H Q ⟨W, env, lh, hH, sr, h⟩ => ?_
  subst hH
  refine go (k := fun x lh1 => (fOpt flo env lh1).bind fun l lh2 => (fOpt fhi env lh2).bind fun h lh3 => zSl x l h lh3) sr h fun x lh1 v W1 e1 s1 r1 h1 => ?_
  refine go (k := fun l lh2 => (fOpt fhi env lh2).bind fun h lh3 => zSl x l h lh3) s1 h1 fun l lh2 l' W2 e2 s2 r2 h2 => ?_
  refine go (k := fun h lh3 => zSl x l h lh3) s2 h2 fun u lh3 u' W3 e3 s3 r3 h3 => ?_
  cases r2
  cases r3
  exact zSl_end s3.lh ((r1.mono e2.toEx).mono e3.toEx) h3
end
def putD (kvs : List (PV × LV)) (k : PV) (v : LV) : List (PV × LV) :=
  if (kvs.any fun kv => decide (kv.1 = k)) = true then kvs.map (fun kv => if kv.1 = k then (kv.1, v) else kv) else kvs ++ [(k, v)]
def isKey : PV → Bool
  | .int _ => true
  | .str _ => true
  | _ => false
def zPut (o i v : LV) (lh : LH) : Option LH := match o with
  | .ref n => (match lh[n]? with
    | some (.lst xs) => (match i with
      | .pv (.int k) => (match ixN xs.length k with
        | some j => some (lh.set n (.lst (xs.set j v)))
        | none => none)
      | _ => none)
    | some (.dct kvs) => (match i with
      | .pv k => if isKey k = true ∧ kvs.length < sizeLine then some (lh.set n (.dct (putD kvs k v))) else none
      | _ => none)
    | _ => none)
  | _ => none
def gSubZ (fo fi : EN → LH → Res LV) (x : LV) (env : EN) (lh : LH) : Res EN :=
  (fo env lh).bind fun o lh1 => (fi env lh1).bind fun i lh2 => match zPut o i x lh2 with
    | some lh3 => .ok env lh3
    | none => .stuck
theorem isKey_key {k : PV} (h : isKey k = true) : ∃ kk : Key, k = kP kk := by
  cases k with
  | int i => exact ⟨.inl i, rfl⟩
  | str s => exact ⟨.inr s, rfl⟩
  | _ => cases h
theorem lrepD_len [L : LamC] [S : Susp] {K : PySem.W.Frag} {mg : Str → Option Value} {W : Wd} {kvs : List (PV × LV)} {hs : List (Key × V)} (r : LRepD K mg W kvs hs) : kvs.length = hs.length := by
  induction r with
  | nil => rfl
  | cons _ _ ih => simp [ih]
theorem lrepD_app [L : LamC] [S : Susp] {K : PySem.W.Frag} {mg : Str → Option Value} {W : Wd} {kvs more : List (PV × LV)} {hs ms : List (Key × V)} (r : LRepD K mg W kvs hs) (t : LRepD K mg W more ms) : LRepD K mg W (kvs ++ more) (hs ++ ms) := by
  induction r with
  | nil => exact t
  | cons r1 _ ih => exact .cons r1 ih
theorem lrepD_put [L : LamC] [S : Susp] {K : PySem.W.Frag} {mg : Str → Option Value} {W : Wd} {kvs : List (PV × LV)} {hs : List (Key × V)} (r : LRepD K mg W kvs hs) (k : Key) {x : LV} {v : V} (rx : LRep K mg W x v) : LRepD K mg W (putD kvs (kP k) x) (putK hs k v) := by
  have hany : (kvs.any fun kv => decide (kv.1 = kP k)) = (hs.any fun kv => decide (kv.1 = k)) := by
    induction r with
    | nil => rfl
    | @cons l y w xs vs r1 _ ih =>
      rw [List.any_cons, List.any_cons, ih]
      congr 1
      simp [kP_inj]
  have hmap : LRepD K mg W (kvs.map fun kv => if kv.1 = kP k then (kv.1, x) else kv) (hs.map fun kv => if kv.1 = k then (kv.1, v) else kv) := by
    clear hany
    induction r with
    | nil => exact .nil
    | @cons l y w xs vs r1 _ ih =>
      rw [List.map_cons, List.map_cons]
      by_cases e : l = k
      · subst e
        rw [if_pos rfl, if_pos rfl]
        exact .cons rx ih
      · rw [if_neg (fun z => e (kP_inj.mp z)), if_neg e]
        exact .cons r1 ih
  unfold putD putK
  rw [hany]
  split
  · exact hmap
  · exact lrepD_app r (.cons rx .nil)
section
variable {X : Cx} {Wx : WX} {a b : Expr} {fa fb : EN → LH → Res LV} {pos : Pos}
def rSetX : V → V → V → Hp → (Hp → Prop) → Prop := fun o i v H Q => rSetL o i v H Q ∨ ∃ a H', o = .ref a ∧ DPut H a i v H' ∧ Q H'
theorem set_all (hu : X.A.units + 1 < cLine) : PSet X rSetX := by
  intro pins s σ H o i v ov iv u Q I ro ri rv h
  rcases h with h | ⟨a, H', rfl, g, q⟩
  · exact set_list pins s σ H o i v ov iv u Q I ro ri rv h
  · cases ro
    exact d_setItem hu I g ri rv fun s' I' => ⟨H', I', q⟩
theorem put_end [L : LamC] [S : Susp] {W : Wd} {σ : L2.St} {env : EN} {lh lh3 : LH} {o i x : LV} {vo vi vx : V} {Q : L2.St → Hp → Prop} (s : SR X.K X.mg W σ env lh) (ro : LRep X.K X.mg W o vo) (ri : LRep X.K X.mg W i vi) (rx : LRep X.K X.mg W x vx)
    (hz : zPut o i x lh = some lh3) (q : tGR X.K X.mg W σ [] (.ok env lh3) Q) : rSetX vo vi vx W.H (fun H3 => Q σ H3) := by
  have stp : ∀ {n : Nat} {a : Addr} {u : HO} {ob : LO}, W.io[n]? = some (some a) → W.H a ≠ none → ORep X.K X.mg W ob u → lh3 = lh.set n ob → Q σ (upd W.H a u) := fun {n a u ob} h1 h2 h3 h4 =>
    q σ ⟨upd W.H a u, W.io, W.hd⟩ (Ext.write s.lh h1 h2) ⟨h4 ▸ s.lh.write h1 h2 h3, s.sl.mono (Ext.write s.lh h1 h2).toEx⟩ ⟨rfl, fun _ _ => rfl⟩
  unfold zPut at hz
  split at hz
  · next n =>
    split at hz
    · next xs hx =>
      obtain ⟨a, u, h1, h2, h3, hn⟩ := io_at s.lh hx (by intro z; cases z)
      have := ro.2 a h1
      subst this
      cases h3 with
      | @lst _ vs r =>
        split at hz
        · next k =>
          split at hz
          · next j hj =>
            cases ri
            cases hz
            exact .inl ⟨a, vs, k, j, rfl, rfl, h2, by rw [← r.length]; exact hj, stp h1 (by rw [h2]; simp) (.lst (r.set rx j)) rfl⟩
          · cases hz
        · cases hz
    · next kvs hx =>
      obtain ⟨a, u, h1, h2, h3, hn⟩ := io_at s.lh hx (by intro z; cases z)
      have := ro.2 a h1
      subst this
      split at hz
      · next k =>
        split at hz
        · next hk =>
          obtain ⟨kk, rfl⟩ := isKey_key hk.1
          have ek := kP_kV ri
          subst ek
          cases hz
          cases h3 with
          | @dct _ hs r =>
            refine .inr ⟨a, _, rfl, DPut.k h2 (by rw [← lrepD_len r]; exact hk.2), ?_⟩
            exact stp h1 (by rw [h2]; simp) (.dct (lrepD_put r kk rx)) rfl
        · cases hz
      · cases hz
    · cases hz
  · cases hz
theorem fg_sub [L : LamC] [S : Susp] (hu : X.A.units + 1 < cLine) (ha : FE X (fun _ _ _ _ => False) a fa) (hb : FE X (fun _ _ _ _ => False) b fb)
    (hs : ∀ v, assign (.Subscript a b pos) X.env v = (do
      let ov ← holding [v] (eval a X.env)
      let iv ← holding [v, ov] (eval b X.env)
      standAt pos
      holding [v, ov, iv] (setItem ov iv v)
      release [v, ov, iv] []) := by intro _; rfl) : FG X (.Subscript a b pos) [] (gSubZ fa fb) := by
  refine PG.imp (pg_sub ha hb (set_all hu) hs) fun v σ H Q ⟨W, env, lh, x, hH, sr, r, h⟩ => ?_
  subst hH
  unfold gSubZ at h
  refine ⟨W, env, lh, rfl, sr, ?_⟩
  cases q : fa env lh with
  | ok o lh1 =>
    rw [q] at h
    intro vo W1 e1 l1 ro
    have h := h.mono e1
    refine ⟨W1, env, lh1, rfl, sr.mono e1 l1, ?_⟩
    cases q2 : fb env lh1 with
    | ok i lh2 =>
      rw [Res.bind_ok, q2, Res.bind_ok] at h
      intro vi W2 e2 l2 ri
      have h := h.mono e2
      split at h
      · next lh3 hz => exact put_end ((sr.mono e1 l1).mono e2 l2) (ro.mono e2.toEx) ri ((r.mono e1.toEx).mono e2.toEx) hz h
      · exact h.elim
    | exc y lh2 => rw [Res.bind_ok, q2] at h; exact h.elim
    | stuck => rw [Res.bind_ok, q2] at h; exact h.elim
  | exc y lh1 => rw [q] at h; exact h.elim
  | stuck => rw [q] at h; exact h.elim
end
end Z
namespace Z
open PySem PySem.Spec PyProof.Rows L2
def rInT (K : PySem.W.Frag) (neg : Bool) : R2 := fun x y H Q => ∃ d ds, Dp K H x d ∧ (Dp K H y (.list ds) ∨ Dp K H y (.tuple ds)) ∧ SeqAt.shaped d = true ∧ SeqAt.shaped (.list ds) = true ∧ Q (.bl (xor neg (ds.any fun z => PyData.eqv z d))) H
section
variable {X : Cx}
theorem op_inX (hu : X.A.units + 65 < cLine) : OpR X (compareOp .In) (rInT X.K false) := by
  intro pins s σ H x y v u Q I rx ry h
  obtain ⟨d, ds, hd, he, sd, se, q⟩ := h
  have q : Q (.bl (ds.any fun z => PyData.eqv z d)) H := by simpa using q
  obtain ⟨as, r1⟩ := Dp.reads I d x v hd rx
  rcases he with he | he
  · obtain ⟨bs, r2⟩ := Dp.reads I (.list ds) y u he ry
    exact SeqAt.in_list_reads r2 r1 (SeqAt.canLay_of_shaped se) (SeqAt.canLay_of_shaped sd) (room_in_shaped sd hu) ⟨.bl _, H, I, rfl, q⟩
  · obtain ⟨bs, r2⟩ := Dp.reads I (.tuple ds) y u he ry
    exact SeqAt.in_tuple_reads r2 r1 (SeqAt.canLay_of_shaped se) (SeqAt.canLay_of_shaped sd) (room_in_shaped sd hu) ⟨.bl _, H, I, rfl, q⟩
theorem op_notInX (hu : X.A.units + 65 < cLine) : OpR X (compareOp .NotIn) (rInT X.K true) := by
  intro pins s σ H x y v u Q I rx ry h
  obtain ⟨d, ds, hd, he, sd, se, q⟩ := h
  have q : Q (.bl (!ds.any fun z => PyData.eqv z d)) H := by simpa using q
  obtain ⟨as, r1⟩ := Dp.reads I d x v hd rx
  rcases he with he | he
  · obtain ⟨bs, r2⟩ := Dp.reads I (.list ds) y u he ry
    exact SeqAt.notIn_list_reads r2 r1 (SeqAt.canLay_of_shaped se) (SeqAt.canLay_of_shaped sd) (room_in_shaped sd hu) ⟨.bl _, H, I, rfl, q⟩
  · obtain ⟨bs, r2⟩ := Dp.reads I (.tuple ds) y u he ry
    exact SeqAt.notIn_tuple_reads r2 r1 (SeqAt.canLay_of_shaped se) (SeqAt.canLay_of_shaped sd) (room_in_shaped sd hu) ⟨.bl _, H, I, rfl, q⟩
def rDIn (neg : Bool) : R2 := fun y x H Q => ∃ a o, x = .ref a ∧ DGet H a y o ∧ Q (.bl (xor neg o.isSome)) H
theorem op_inDct (hu : X.A.units + 1 < cLine) : OpR X (compareOp .In) (rDIn false) := by
  intro pins s σ H x y v u Q I rx ry h
  obtain ⟨a, o, rfl, g, q⟩ := h
  have q : Q (.bl o.isSome) H := by simpa using q
  cases ry
  exact d_in hu I g rx fun s' I' => ⟨.bl o.isSome, H, I', rfl, q⟩
theorem op_notInDct (hu : X.A.units + 1 < cLine) : OpR X (compareOp .NotIn) (rDIn true) := by
  intro pins s σ H x y v u Q I rx ry h
  obtain ⟨a, o, rfl, g, q⟩ := h
  have q : Q (.bl (!o.isSome)) H := by simpa using q
  cases ry
  exact d_notIn hu I g rx fun s' I' => ⟨.bl (!o.isSome), H, I', rfl, q⟩
def rInS (neg : Bool) : R2 := fun x y H Q => ∃ (c : Nat) (z : Str), x = .str ⟨#[c]⟩ ∧ y = .str z ∧ Q (.bl (xor neg (decide (c ∈ z.cps.toList)))) H
theorem op_inS : OpR X (compareOp .In) (rInS false) := fun pins s σ H x y v u Q I rx ry ⟨c, z, h1, h2, q⟩ => op_in_sign pins s σ H x y v u Q I rx ry ⟨c, z, h1, h2, by simpa using q⟩
theorem op_notInS : OpR X (compareOp .NotIn) (rInS true) := fun pins s σ H x y v u Q I rx ry ⟨c, z, h1, h2, q⟩ => op_notIn_sign pins s σ H x y v u Q I rx ry ⟨c, z, h1, h2, by simpa using q⟩
/-- the items of a list, a tuple, as data -/
def dsOf (y : LV) (lh : LH) : Option (List PyData) := match y with
  | .pv (.tup xs) => pds xs
  | _ => (match lstOf y lh with
    | some xs => (pvs xs).bind pds
    | none => none)
def zInQ (neg : Bool) (x y : LV) (lh : LH) : Res LV := match pdL x lh, dsOf y lh with
  | some d, some ds => if SeqAt.shaped d = true ∧ SeqAt.shaped (.list ds) = true then .ok (.pv (.bl (xor neg (ds.any fun z => PyData.eqv z d)))) lh else .stuck
  | _, _ => .stuck
def zInD (neg : Bool) (x y : LV) (lh : LH) : Res LV := match x, dctOf y lh with
  | .pv k, some kvs => if isKey k = true then .ok (.pv (.bl (xor neg (getD kvs k).isSome))) lh else .stuck
  | _, _ => .stuck
def zInS (neg : Bool) (x y : LV) (lh : LH) : Res LV := match x, y with
  | .pv (.str ⟨⟨[c]⟩⟩), .pv (.str z) => .ok (.pv (.bl (xor neg (decide (c ∈ z.cps.toList))))) lh
  | _, _ => .stuck
def zIn (neg : Bool) (x y : LV) (lh : LH) : Res LV := match y with
  | .pv (.str _) => zInS neg x y lh
  | _ => (match dctOf y lh with
    | some _ => zInD neg x y lh
    | none => zInQ neg x y lh)
theorem zInQ_end [L : LamC] [S : Susp] {neg : Bool} {W : Wd} {E : XK} {x y : LV} {lh : LH} {v w : V} {Q : VK} (l : LhR X.K X.mg W lh) (rx : LRep X.K X.mg W x v) (ry : LRep X.K X.mg W y w) (q : tR X.K X.mg (LRep X.K X.mg) W E (zInQ neg x y lh) Q) : rInT X.K neg v w W.H Q := by
  unfold zInQ at q
  split at q
  · next d ds hd hds =>
    split at q
    · next hs =>
      refine ⟨d, ds, dpL_of l rx hd, ?_, hs.1, hs.2, fin q l Rep.bl⟩
      unfold dsOf at hds
      split at hds
      · next xs =>
        obtain ⟨a, vs, rfl, f, r⟩ := tup_inv ry
        exact .inr (.tup f.sq (dps_of r hds))
      · split at hds
        · next xs hx =>
          obtain ⟨ps, e1, e2⟩ := Option.bind_eq_some_iff.mp hds
          obtain ⟨a, vs, rfl, h1, r⟩ := lst_rd l ry hx
          have := pvs_some e1
          subst this
          exact .inl (.lst (sq_of h1) (dps_of r.p e2))
        · cases hds
    · exact q.elim
  · exact q.elim
theorem zInD_end [L : LamC] [S : Susp] {neg : Bool} {W : Wd} {E : XK} {x y : LV} {lh : LH} {v w : V} {Q : VK} (l : LhR X.K X.mg W lh) (rx : LRep X.K X.mg W x v) (ry : LRep X.K X.mg W y w) (q : tR X.K X.mg (LRep X.K X.mg) W E (zInD neg x y lh) Q) : rDIn neg v w W.H Q := by
  unfold zInD at q
  split at q
  · next k kvs hd =>
    split at q
    · next hk =>
      obtain ⟨kk, rfl⟩ := isKey_key hk
      obtain ⟨a, hs, rfl, f, r⟩ := dct_rd l ry hd
      have ek := kP_kV rx
      subst ek
      have := lrepD_get r kk
      refine ⟨a, valV hs kk, rfl, .inl ⟨hs, kk, f, rfl, rfl⟩, ?_⟩
      have e : (valV hs kk).isSome = (getD kvs (kP kk)).isSome := by
        cases e : getD kvs (kP kk) with
        | none =>
          rw [e] at this
          have this : valV hs kk = none := this
          rw [this]; rfl
        | some x => rw [e] at this; obtain ⟨v, hv, _⟩ := this; rw [hv]; rfl
      rw [e]
      exact fin q l Rep.bl
    · exact q.elim
  · exact q.elim
theorem zInS_end [L : LamC] [S : Susp] {neg : Bool} {W : Wd} {E : XK} {x y : LV} {lh : LH} {v w : V} {Q : VK} (l : LhR X.K X.mg W lh) (rx : LRep X.K X.mg W x v) (ry : LRep X.K X.mg W y w) (q : tR X.K X.mg (LRep X.K X.mg) W E (zInS neg x y lh) Q) : rInS neg v w W.H Q := by
  unfold zInS at q
  split at q
  · next c z => cases rx; cases ry; exact ⟨c, z, rfl, rfl, fin q l Rep.bl⟩
  · exact q.elim
theorem zIn_end [L : LamC] [S : Susp] {neg : Bool} {W : Wd} {E : XK} {x y : LV} {lh : LH} {v w : V} {Q : VK} (l : LhR X.K X.mg W lh) (rx : LRep X.K X.mg W x v) (ry : LRep X.K X.mg W y w) (q : tR X.K X.mg (LRep X.K X.mg) W E (zIn neg x y lh) Q) : (rInS neg v w W.H Q ∨ rDIn neg v w W.H Q) ∨ rInT X.K neg v w W.H Q := by
  unfold zIn at q
  split at q
  · exact .inl (.inl (zInS_end l rx ry q))
  · split at q
    · exact .inl (.inr (zInD_end l rx ry q))
    · exact .inr (zInQ_end l rx ry q)
theorem oz_in [L : LamC] [S : Susp] (hu : X.A.units + 65 < cLine) : OpZ X (compareOp .In) (zIn false) := .of ((op_inS.or (op_inDct (by omega))).or (op_inX hu)) fun W E x y lh v w Q l rx ry q => zIn_end l rx ry q
theorem oz_notIn [L : LamC] [S : Susp] (hu : X.A.units + 65 < cLine) : OpZ X (compareOp .NotIn) (zIn true) := .of ((op_notInS.or (op_notInDct (by omega))).or (op_notInX hu)) fun W E x y lh v w Q l rx ry q => zIn_end l rx ry q
def CallZ [L : LamC] [S : Susp] (X : Cx) (f : Value) (z : List LV → LH → Res LV) : Prop := ∃ r : List V → Hp → VK → Prop, CallR X f r ∧
  ∀ (W : Wd) (E : XK) (xs : List LV) (lh : LH) (vs : List V) (Q : VK), LhR X.K X.mg W lh → LReps X.K X.mg W xs vs → tR X.K X.mg (LRep X.K X.mg) W E (z xs lh) Q → r vs W.H Q
section
variable {Wx : WX} {x : Str} {p pos : Pos} {e : Expr} {es : List Expr} {fas : EN → LH → Res (List LV)} {id T : String} {z : List LV → LH → Res LV}
theorem fe_callB [L : LamC] [S : Susp] (hc : CallZ X (.builtin id) z) (hg : Gl X x) (hm : X.mg x = none) (hv : bootBuiltins x = some (.builtin id)) (ha : FA X Wx (e :: es) fas) (hn : x ≠ "__name__" := by decide) (hdb : (x == ("__debug__" : Str)) = false := by decide)
    (he : starEach (e :: es) X.env = (false, eval e X.env) :: starEach es X.env := by rfl) (hpl : (backTo pos (starEach es X.env)).any (·.1) = false := by rfl) : FE X Wx (.Call (.Name x p) (e :: es) [] pos) (fArgs z fas) := by
  obtain ⟨r, h1, h2⟩ := hc
  refine PE.imp (pe_callB h1 hg hm hv ha hn hdb he hpl) fun σ H Q ⟨W, env, lh, hH, sr, h⟩ => ?_
  subst hH
  exact go (k := z) sr h fun xs lh1 vs W1 e1 s1 r1 h3 => h2 W1 _ xs lh1 vs Q s1.lh r1 h3
theorem fe_callTy [L : LamC] [S : Susp] (hc : CallZ X (.type T) z) (hg : Gl X x) (hm : X.mg x = none) (hv : bootBuiltins x = some (.type T)) (ha : FA X Wx (e :: es) fas) (hn : x ≠ "__name__" := by decide) (hdb : (x == ("__debug__" : Str)) = false := by decide)
    (he : starEach (e :: es) X.env = (false, eval e X.env) :: starEach es X.env := by rfl) (hpl : (backTo pos (starEach es X.env)).any (·.1) = false := by rfl) : FE X Wx (.Call (.Name x p) (e :: es) [] pos) (fArgs z fas) := by
  obtain ⟨r, h1, h2⟩ := hc
  refine PE.imp (pe_callTy h1 hg hm hv ha hn hdb he hpl) fun σ H Q ⟨W, env, lh, hH, sr, h⟩ => ?_
  subst hH
  exact go (k := z) sr h fun xs lh1 vs W1 e1 s1 r1 h3 => h2 W1 _ xs lh1 vs Q s1.lh r1 h3
end
theorem CallZ.of [L : LamC] [S : Susp] {f : Value} {z : List LV → LH → Res LV} {r : List V → Hp → VK → Prop} (h : CallR X f r)
    (b : ∀ (W : Wd) (E : XK) (xs : List LV) (lh : LH) (vs : List V) (Q : VK), LhR X.K X.mg W lh → LReps X.K X.mg W xs vs → tR X.K X.mg (LRep X.K X.mg) W E (z xs lh) Q → r vs W.H Q) : CallZ X f z := ⟨r, h, b⟩
theorem reps1 [L : LamC] [S : Susp] {K : PySem.W.Frag} {mg : Str → Option Value} {W : Wd} {x : LV} {vs : List V} (r : LReps K mg W [x] vs) : ∃ v, vs = [v] ∧ LRep K mg W x v := by
  cases r with
  | cons r t => cases t; exact ⟨_, rfl, r⟩
theorem int_inv [L : LamC] [S : Susp] {K : PySem.W.Frag} {mg : Str → Option Value} {W : Wd} {i : Int} {v : V} (r : LRep K mg W (.pv (.int i)) v) : v = .int i := by cases r; rfl
theorem bl_inv [L : LamC] [S : Susp] {K : PySem.W.Frag} {mg : Str → Option Value} {W : Wd} {i : Bool} {v : V} (r : LRep K mg W (.pv (.bl i)) v) : v = .bl i := by cases r; rfl
theorem str_inv [L : LamC] [S : Susp] {K : PySem.W.Frag} {mg : Str → Option Value} {W : Wd} {i : Str} {v : V} (r : LRep K mg W (.pv (.str i)) v) : v = .str i := by cases r; rfl
def zInt (xs : List LV) (lh : LH) : Res LV := match xs with
  | [.pv (.int i)] => .ok (.pv (.int i)) lh
  | [.pv (.bl b)] => .ok (.pv (.int (if b then 1 else 0))) lh
  | _ => .stuck
def zAbs (xs : List LV) (lh : LH) : Res LV := match xs with
  | [.pv (.int i)] => .ok (.pv (.int (if i < 0 then -i else i))) lh
  | _ => .stuck
theorem cz_int [L : LamC] [S : Susp] : CallZ X (.type "int") zInt := .of call_int1 fun W E xs lh vs Q l r q => by
  unfold zInt at q
  split at q
  · obtain ⟨v, rfl, r1⟩ := reps1 r; exact .inl ⟨_, by rw [int_inv r1], fin q l Rep.int⟩
  · obtain ⟨v, rfl, r1⟩ := reps1 r; exact .inr ⟨_, by rw [bl_inv r1], fin q l Rep.int⟩
  · exact q.elim
theorem cz_abs [L : LamC] [S : Susp] : CallZ X (.builtin "abs") zAbs := .of call_abs fun W E xs lh vs Q l r q => by
  unfold zAbs at q
  split at q
  · obtain ⟨v, rfl, r1⟩ := reps1 r; exact ⟨_, by rw [int_inv r1], fin q l Rep.int⟩
  · exact q.elim
end
end Z
namespace Z
open PySem PySem.Spec PyProof.Rows L2
section
variable {X : Cx}
theorem cz_len [L : LamC] [S : Susp] : CallZ X (.builtin "len") (fun xs lh => match xs with
    | [x] => (match x with
      | .pv (.str z) => if z.length ≤ sizeLine then .ok (.pv (.int z.length)) lh else .stuck
      | .pv (.tup ys) => .ok (.pv (.int ys.length)) lh
      | _ => (match lstOf x lh with
        | some ys => .ok (.pv (.int ys.length)) lh
        | none => .stuck))
    | _ => .stuck) := .of call_len fun W E xs lh vs Q l r q => by
  split at q
  · next x =>
    obtain ⟨v, rfl, r1⟩ := reps1 r
    split at q
    · next z =>
      split at q
      · next hz => rw [str_inv r1]; exact ⟨_, z.length, rfl, ⟨hz, rfl⟩, fin q l Rep.int⟩
      · exact q.elim
    · next ys =>
      obtain ⟨a, us, rfl, f, r2⟩ := tup_inv r1
      exact ⟨_, ys.length, rfl, .inr ⟨us, f.sq, r2.length⟩, fin q l Rep.int⟩
    · split at q
      · next ys hy =>
        obtain ⟨a, us, rfl, h1, r2⟩ := lst_rd l r1 hy
        exact ⟨_, ys.length, rfl, .inl ⟨us, sq_of h1, r2.length⟩, fin q l Rep.int⟩
      · exact q.elim
  · exact q.elim
/-- list(x) of a list, a tuple: a frozen copy -/
def zListC (xs : List LV) (lh : LH) : Res LV := match xs with
  | [x] => (match x with
    | .pv (.tup ys) => .ok (.pv (.lst ys)) lh
    | .pv (.scr ys) => .ok (.pv (.lst (ys.map .int))) lh
    | _ => (match lstOf x lh with
      | some ys => (match pvs ys with
        | some ps => .ok (.pv (.lst ps)) lh
        | none => .stuck)
      | none => .stuck))
  | _ => .stuck
theorem cz_list [L : LamC] [S : Susp] : CallZ X (.type "list") zListC := .of call_list_of fun W E xs lh vs Q l r q => by
  unfold zListC at q
  split at q
  · next x =>
    obtain ⟨v, rfl, r1⟩ := reps1 r
    split at q
    · next ys =>
      obtain ⟨a, us, rfl, f, r2⟩ := tup_inv r1
      exact ⟨a, us, rfl, .inr f.sq, fun p hp => fin_lst q l r2 hp⟩
    · next ys =>
      cases r1 with
      | scr f => exact ⟨_, _, rfl, .inl f.sq, fun p hp => fin_lst q l (reps_ints _) hp⟩
    · split at q
      · next ys hy =>
        split at q
        · next ps hps =>
          obtain ⟨a, us, rfl, h1, r2⟩ := lst_rd l r1 hy
          have := pvs_some hps
          subst this
          exact ⟨a, us, rfl, .inl (sq_of h1), fun p hp => fin_lst q l r2.p hp⟩
        · exact q.elim
      · exact q.elim
  · exact q.elim
/-- a list of bools -/
def blsOf : List LV → Option (List Bool)
  | [] => some []
  | .pv (.bl b) :: r => (blsOf r).map (b :: ·)
  | _ :: _ => none
theorem blsOf_some : ∀ {xs : List LV} {bs : List Bool}, blsOf xs = some bs → xs = bs.map LV.b
  | [], bs, h => by cases h; rfl
  | .pv (.bl b) :: r, bs, h => by
    obtain ⟨l, e, rfl⟩ := Option.map_eq_some_iff.mp (show (blsOf r).map (b :: ·) = some bs from h)
    rw [blsOf_some e]; rfl
  | .ref _ :: _, _, h => by cases h
  | .pv .non :: _, _, h | .pv (.int _) :: _, _, h | .pv (.str _) :: _, _, h | .pv (.tup _) :: _, _, h | .pv (.lst _) :: _, _, h | .pv (.dct _) :: _, _, h | .pv (.obj _ _) :: _, _, h | .pv (.glob _) :: _, _, h | .pv (.scr _) :: _, _, h | .pv (.dcT _) :: _, _, h | .pv (.bt _) :: _, _, h => by cases h
@[simp] theorem blsOf_map (bs : List Bool) : blsOf (bs.map LV.b) = some bs := by
  induction bs with
  | nil => rfl
  | cons b bs ih => simp [blsOf, ih]
theorem bls_rep [L : LamC] [S : Susp] {K : PySem.W.Frag} {mg : Str → Option Value} {W : Wd} : ∀ {bs : List Bool} {vs : List V}, LReps K mg W (bs.map LV.b) vs → vs = bs.map V.bl
  | [], _, .nil => rfl
  | b :: bs, _, .cons r t => by rw [bl_inv r, bls_rep t]; rfl
def zAll (f : List Bool → Bool) (xs : List LV) (lh : LH) : Res LV := match xs with
  | [x] => (match lstOf x lh with
    | some ys => (match blsOf ys with
      | some bs => .ok (.pv (.bl (f bs))) lh
      | none => .stuck)
    | none => .stuck)
  | _ => .stuck
theorem zAll_end [L : LamC] [S : Susp] {f : List Bool → Bool} {W : Wd} {E : XK} {xs : List LV} {lh : LH} {vs : List V} {Q : VK} (l : LhR X.K X.mg W lh) (r : LReps X.K X.mg W xs vs) (q : tR X.K X.mg (LRep X.K X.mg) W E (zAll f xs lh) Q) :
    ∃ (a : Addr) (bs : List Bool), vs = [V.ref a] ∧ SqL X.K W.H a (bs.map V.bl) ∧ Q (.bl (f bs)) W.H := by
  unfold zAll at q
  split at q
  · next x =>
    obtain ⟨v, rfl, r1⟩ := reps1 r
    split at q
    · next ys hy =>
      split at q
      · next bs hb =>
        obtain ⟨a, us, rfl, h1, r2⟩ := lst_rd l r1 hy
        have := blsOf_some hb
        subst this
        have e := bls_rep r2
        subst e
        exact ⟨a, bs, rfl, sq_of h1, fin q l Rep.bl⟩
      · exact q.elim
    · exact q.elim
  · exact q.elim
theorem cz_all [L : LamC] [S : Susp] (hc : X.calm = true) : CallZ X (.builtin "all") (zAll fun bs => bs.all id) := .of (cr_all hc) fun W E xs lh vs Q l r q => zAll_end l r q
inductive Ty where
  | non | bool | int | str | tup | lst | dct | own (c : Str)
  deriving DecidableEq
def tyO (x : LV) (lh : LH) : Option Ty := match x with
  | .pv .non => some .non
  | .pv (.bl _) => some .bool
  | .pv (.int _) => some .int
  | .pv (.str _) => some .str
  | .pv (.tup _) => some .tup
  | .pv (.lst _) => some .lst
  | .pv (.dct _) => some .dct
  | .pv (.obj c _) => some (.own c)
  | .ref n => (match lh[n]? with
    | some (.lst _) => some .lst
    | some (.dct _) => some .dct
    | some (.dcT _) => some .dct
    | some (.ins c _) => some (.own c)
    | _ => none)
  | _ => none
def Ty.nm : Ty → String
  | .non => "NoneType" | .bool => "bool" | .int => "int" | .str => "str" | .tup => "tuple" | .lst => "list" | .dct => "dict" | .own _ => ""
def tyT : PV → Option Ty
  | .bt "int" => some .int
  | .bt "bool" => some .bool
  | .bt "str" => some .str
  | .bt "tuple" => some .tup
  | .bt "list" => some .lst
  | .bt "dict" => some .dct
  | .glob c => some (.own c)
  | _ => none
/-- is the type t under u; ks: the own classes that are known, oc: which stand under which -/
def subT (ks : List Str) (oc : Str → Str → Bool) : Ty → Ty → Option Bool
  | .own c, .own d => if c ∈ ks ∧ d ∈ ks then some (oc c d) else none
  | .own c, _ => if c ∈ ks then some false else none
  | _, .own d => if d ∈ ks then some false else none
  | .bool, .int => some true
  | t, u => some (decide (t = u))
def zIsi (ks : List Str) (oc : Str → Str → Bool) (xs : List LV) (lh : LH) : Res LV := match xs with
  | [x, .pv c] => (match tyO x lh, tyT c with
    | some t, some u => (match subT ks oc t u with
      | some b => .ok (.pv (.bl b)) lh
      | none => .stuck)
    | _, _ => .stuck)
  | _ => .stuck
/-- what the written part says of an own class at C -/
structure InsT (K : PySem.W.Frag) (C : Addr) : Prop where
  cl : Cls K C
  ha : PySem.W.findIn K (.ref C) "__class__" = some (some (.builtin "object.__class__"))
  hn : PySem.W.specialIn K (.builtin "object.__class__") "__get__" = some (some (.builtin "getset_descriptor.__get__"))
  htk : PySem.W.takesIn K (.builtin "object.__class__") = some true
  hm : PySem.W.mroIn K C (.type "object") = some true
structure OwnF (K : PySem.W.Frag) (mg : Str → Option Value) (ks : List Str) (oc : Str → Str → Bool) : Prop where
  ins : ∀ c ∈ ks, ∀ C, mg c = some (.ref C) → InsT K C
  sub : ∀ c ∈ ks, ∀ d ∈ ks, ∀ C D, mg c = some (.ref C) → mg d = some (.ref D) → PySem.W.kitOne K (.ref C) (.ref D) = some (oc c d)
  lo : ∀ c ∈ ks, ∀ n ∈ bNames, ∀ C, mg c = some (.ref C) → PySem.W.kitOne K (.ref C) (.type n) = some false
  hi : ∀ c ∈ ks, ∀ n ∈ bNames, ∀ C, mg c = some (.ref C) → PySem.W.kitOne K (.type n) (.ref C) = some false
inductive TyVal (mg : Str → Option Value) : Ty → Value → Prop
  | b {t : Ty} (h : ∀ c, t ≠ .own c) : TyVal mg t (.type t.nm)
  | o {c C} : mg c = some (.ref C) → TyVal mg (.own c) (.ref C)
theorem tyOf_rep [L : LamC] [S : Susp] {W : Wd} {lh : LH} {x : LV} {v : V} {t : Ty} (l : LhR X.K X.mg W lh) (r : LRep X.K X.mg W x v) (h : tyO x lh = some t) (hi : ∀ c, t = .own c → ∀ C, X.mg c = some (.ref C) → InsT X.K C) : ∃ u, TyX X.K W.H v u ∧ TyVal X.mg t u := by
  have own : ∀ {c : Str} {C a dx : Addr} {fs : List (Str × V)}, t = .own c → X.mg c = some (.ref C) → W.H a = some (.ins C dx fs) → v = .ref a → ∃ u, TyX X.K W.H v u ∧ TyVal X.mg t u := fun {c C a dx fs} e g hH ev => by
    subst e; subst ev
    have i := hi c rfl C g
    exact ⟨_, .base (.ins hH i.cl i.ha i.hn i.htk i.hm), .o g⟩
  cases x with
  | pv p =>
    cases p with
    | clo => cases h
    | exc => cases h
    | non => cases h; cases r; exact ⟨_, .base .non, .b (fun c z => by cases z)⟩
    | bl b => cases h; cases r; exact ⟨_, .base (.bl _), .b (fun c z => by cases z)⟩
    | int i => cases h; cases r; exact ⟨_, .base (.int _), .b (fun c z => by cases z)⟩
    | str i => cases h; cases r; exact ⟨_, .base (.str _), .b (fun c z => by cases z)⟩
    | tup xs =>
      cases h
      obtain ⟨a, vs, rfl, f, _⟩ := tup_inv r
      rcases f with ⟨f | ⟨o, f⟩, _⟩ | ⟨o, its, n, f, c, _⟩
      · exact ⟨_, .base (.tup f), .b (fun c z => by cases z)⟩
      · exact ⟨_, .fTuple f, .b (fun c z => by cases z)⟩
      · exact ⟨_, .kTuple f c, .b (fun c z => by cases z)⟩
    | lst xs =>
      cases h
      cases r with
      | lst f _ =>
        rcases f with ⟨f | ⟨o, f⟩, _⟩
        · exact ⟨_, .base (.lst f), .b (fun c z => by cases z)⟩
        · exact ⟨_, .base (.frz f), .b (fun c z => by cases z)⟩
    | dct xs =>
      cases h
      cases r with
      | dct f _ _ =>
        rcases f with f | ⟨o, f⟩
        · exact ⟨_, .base (.dK f), .b (fun c z => by cases z)⟩
        · exact ⟨_, .fDict f, .b (fun c z => by cases z)⟩
    | dcT xs => cases h
    | obj c fs =>
      cases h
      cases r with
      | obj hH n g _ => exact own rfl g hH rfl
    | glob c => cases h
    | scr c => cases h
    | bt c => cases h
  | ref n =>
    have h : (match lh[n]? with
      | some (.lst _) => some Ty.lst
      | some (.dct _) => some .dct
      | some (.dcT _) => some .dct
      | some (.ins c _) => some (.own c)
      | _ => none) = some t := h
    split at h
    · next xs e =>
      cases h
      obtain ⟨a, u, h1, h2, h3, _⟩ := io_at l e (by intro z; cases z)
      have := r.2 a h1
      subst this
      cases h3
      exact ⟨_, .base (.lst h2), .b (fun c z => by cases z)⟩
    · next xs e =>
      cases h
      obtain ⟨a, u, h1, h2, h3, _⟩ := io_at l e (by intro z; cases z)
      have := r.2 a h1
      subst this
      cases h3
      exact ⟨_, .base (.dK h2), .b (fun c z => by cases z)⟩
    · next xs e =>
      cases h
      obtain ⟨a, u, h1, h2, h3, _⟩ := io_at l e (by intro z; cases z)
      have := r.2 a h1
      subst this
      cases h3
      exact ⟨_, .base (.dT h2), .b (fun c z => by cases z)⟩
    · next c xs e =>
      obtain ⟨a, u, h1, h2, h3, _⟩ := io_at l e (by intro z; cases z)
      have := r.2 a h1
      cases h3 with
      | ins g _ => exact own (Option.some.inj h).symm g h2 this
    · cases h
theorem tyT_val [L : LamC] [S : Susp] {W : Wd} {p : PV} {v : V} {u : Ty} (r : Rep X.K X.mg W p v) (h : tyT p = some u) : ∃ w, ClsV v w ∧ TyVal X.mg u w := by
  unfold tyT at h
  split at h <;> first | (cases h; done) | skip
  all_goals (cases h; cases r)
  · exact ⟨_, .ty _, .b (t := .int) (fun c z => by cases z)⟩
  · exact ⟨_, .ty _, .b (t := .bool) (fun c z => by cases z)⟩
  · exact ⟨_, .ty _, .b (t := .str) (fun c z => by cases z)⟩
  · exact ⟨_, .ty _, .b (t := .tup) (fun c z => by cases z)⟩
  · exact ⟨_, .ty _, .b (t := .lst) (fun c z => by cases z)⟩
  · exact ⟨_, .ty _, .b (t := .dct) (fun c z => by cases z)⟩
  · next g => exact ⟨_, .own _, .o g⟩
theorem nm_mem {t : Ty} (n : ∀ c, t ≠ .own c) : t.nm ∈ bNames := by
  cases t with
  | own c => exact absurd rfl (n c)
  | _ => simp [Ty.nm, bNames]
theorem kit_bb : ∀ {t u : Ty}, (∀ c, t ≠ .own c) → (∀ c, u ≠ .own c) → kitB t.nm u.nm = some (decide (t = u) || (decide (t = .bool) && decide (u = .int))) := by
  intro t u ht hu
  cases t <;> first | exact absurd rfl (ht _) | skip
  all_goals (cases u <;> first | exact absurd rfl (hu _) | decide +kernel)
theorem subT_ok {K : PySem.W.Frag} {mg : Str → Option Value} {ks : List Str} {oc : Str → Str → Bool} (F : OwnF K mg ks oc) {t u : Ty} {b : Bool} {a c : Value} (ha : TyVal mg t a) (hc : TyVal mg u c) (h : subT ks oc t u = some b) : PySem.W.kitOne K a c = some b := by
  cases ha with
  | b nt =>
    cases hc with
    | b nu =>
      have e : some (decide (t = u) || (decide (t = .bool) && decide (u = .int))) = some b := by
        rw [← h]
        cases t <;> first | exact absurd rfl (nt _) | skip
        all_goals (cases u <;> first | exact absurd rfl (nu _) | rfl)
      rw [← e]
      exact kit_ty (kit_bb nt nu)
    | @o d D g =>
      have e : (if d ∈ ks then some false else none) = some b := by
        rw [← h]
        cases t <;> first | exact absurd rfl (nt _) | rfl
      split at e
      · next hd => cases e; exact F.hi d hd _ (nm_mem nt) D g
      · cases e
  | @o d D g =>
    cases hc with
    | b nu =>
      have e : (if d ∈ ks then some false else none) = some b := by
        rw [← h]
        cases u <;> first | exact absurd rfl (nu _) | rfl
      split at e
      · next hd => cases e; exact F.lo d hd _ (nm_mem nu) D g
      · cases e
    | @o d' D' g' =>
      have e : (if d ∈ ks ∧ d' ∈ ks then some (oc d d') else none) = some b := h
      split at e
      · next hd => cases e; exact F.sub d hd.1 d' hd.2 D D' g g'
      · cases e
theorem subT_own {ks : List Str} {oc : Str → Str → Bool} {c : Str} {u : Ty} {b : Bool} (h : subT ks oc (.own c) u = some b) : c ∈ ks := by
  cases u with
  | own d =>
    have e : (if c ∈ ks ∧ d ∈ ks then some (oc c d) else none) = some b := h
    split at e
    · next hd => exact hd.1
    · cases e
  | _ =>
    have e : (if c ∈ ks then some false else none) = some b := h
    split at e
    · next hd => exact hd
    · cases e
theorem cz_isi [L : LamC] [S : Susp] {ks : List Str} {oc : Str → Str → Bool} (F : OwnF X.K X.mg ks oc) : CallZ X (.builtin "isinstance") (zIsi ks oc) := .of call_isi fun W E xs lh vs Q l r q => by
  unfold zIsi at q
  split at q
  · next x c =>
    cases r with
    | cons r1 r2 =>
      obtain ⟨v2, rfl, r3⟩ := reps1 r2
      split at q
      · next t u ht hu =>
        split at q
        · next b hb =>
          obtain ⟨a, hx, ha⟩ := tyOf_rep l r1 ht fun c e C g => F.ins c (by subst e; exact subT_own hb) C g
          obtain ⟨w, hcv, hw⟩ := tyT_val r3 hu
          exact ⟨_, _, _, _, _, rfl, hcv, hx, subT_ok F ha hw hb, fin q l Rep.bl⟩
        · exact q.elim
      · exact q.elim
  · exact q.elim
/-- a built-in class, as an argument -/
theorem fe_bt [L : LamC] [S : Susp] {Wx : WX} {x : Str} {n : String} {pos : Pos} (hg : Gl X x) (hm : X.mg x = none) (hv : bootBuiltins x = some (.type n)) (hn : x ≠ "__name__" := by decide) (hd : (x == ("__debug__" : Str)) = false := by decide) : FE X Wx (.Name x pos) (fC (.bt n)) :=
  fe_c (pe_bltn (v := .ty n) hg hm hv rfl hn hd) fun _ => .bt
def fGet2 (fo fk fd : EN → LH → Res LV) (env : EN) (lh : LH) : Res LV := (fo env lh).bind fun o lh1 => match dctOf o lh1 with
  | none => .stuck
  | some _ => (fk env lh1).bind fun k lh2 => (fd env lh2).bind fun z lh3 => match k, dctOf o lh3 with
    | .pv k, some kvs => if isKey k = true then .ok ((getD kvs k).getD z) lh3 else .stuck
    | _, _ => .stuck
theorem fe_get2 [L : LamC] [S : Susp] {Wx : WX} {o e f : Expr} {fo fk fd : EN → LH → Res LV} {apos cpos : Pos} (hu : X.A.units + 1 < cLine) (ho : FE X Wx o fo) (hk : FE X Wx e fk) (hd : FE X Wx f fd) (m : M2 X o "get" apos e f cpos := by exact ⟨rfl, rfl, rfl, rfl⟩) :
    FE X Wx (.Call (.Attribute o "get" apos) [e, f] [] cpos) (fGet2 fo fk fd) := by
  refine PE.imp (pe_dget2 hu ho hk hd m) fun σ H Q ⟨W, env, lh, hH, sr, h⟩ => ?_
  subst hH
  unfold fGet2 at h
  refine go sr h fun o lh1 v W1 e1 s1 r1 h1 => ?_
  split at h1
  · exact h1.elim
  · next kvs0 hy =>
    obtain ⟨a, hs0, rfl, f0, _⟩ := dct_rd s1.lh r1 hy
    refine ⟨a, rfl, .inl ⟨hs0, f0⟩, ?_⟩
    refine go s1 h1 fun k lh2 vk W2 e2 s2 r2 h2 => ?_
    refine go s2 h2 fun z lh3 vz W3 e3 s3 r3 h3 => ?_
    split at h3
    · next k kvs hd3 =>
      split at h3
      · next hk =>
        obtain ⟨kk, rfl⟩ := isKey_key hk
        obtain ⟨a', hs, ea, f, r⟩ := dct_rd s3.lh ((r1.mono e2.toEx).mono e3.toEx) hd3
        cases ea
        have ek := kP_kV (LRep.mono e3.toEx r2)
        subst ek
        have hg := lrepD_get r kk
        refine ⟨valV hs kk, .inl ⟨hs, kk, f, rfl, rfl⟩, ?_⟩
        cases e : getD kvs (kP kk) with
        | none =>
          rw [e] at hg h3
          have hg : valV hs kk = none := hg
          rw [hg]
          exact fin h3 s3.lh r3
        | some x =>
          rw [e] at hg h3
          obtain ⟨v, hv, rv⟩ := hg
          rw [hv]
          exact fin h3 s3.lh rv
      · exact h3.elim
    · exact h3.elim
end
end Z
namespace Z
open PySem PySem.Spec PyProof.Rows L2
def wipeE (env : EN) : List Nat → EN
  | [] => env
  | v :: vs => (wipeE env vs).set v none
def noX {α : Type} : Res α → Res α
  | .ok a h => .ok a h
  | _ => .stuck
@[simp] theorem noX_ok {α : Type} (a : α) (h : LH) : noX (.ok a h) = .ok a h := rfl
/-- the turns of a comprehension -/
def lcL (chk : LH → Bool) (g : LV → EN → LH → Res EN) (t : EN → LH → Res Bool) (e : EN → LH → Res LV) (env0 : EN) : List LV → List LV → LH → Res (List LV)
  | [], acc, lh => if chk lh = true then .ok acc lh else .stuck
  | y :: r, acc, lh => if chk lh = true then
      ((g y env0 lh).bind fun env1 lh1 => (t env1 lh1).bind fun b lh2 => if b = true then (e env1 lh2).bind fun v lh3 => lcL chk g t e env0 r (acc ++ [v]) lh3 else lcL chk g t e env0 r acc lh2) else .stuck
def fLc (z : List LV → LH → Res LV) (vs : List Nat) (fi : EN → LH → Res Src) (g : LV → EN → LH → Res EN) (t : EN → LH → Res Bool) (e : EN → LH → Res LV) (env : EN) (lh : LH) : Res LV :=
  (fi env lh).bind fun s lh1 => if s.items.length ≤ sizeLine then (noX (lcL s.chk g t e (wipeE env vs) s.items [] lh1)).bind z else .stuck
def tYesZ (_ : EN) (lh : LH) : Res Bool := .ok true lh
theorem wipe_get {σ : L2.St} : ∀ {vs : List Nat} {j : Nat}, (wipe σ vs)[j]? = if j ∈ vs ∧ j < σ.length then some none else σ[j]?
  | [], j => by simp [wipe]
  | v :: vs, j => by
    unfold wipe
    by_cases e : v = j
    · subst e
      by_cases h : v < σ.length
      · rw [List.getElem?_set_self (by rw [wipe_length]; exact h), if_pos ⟨List.mem_cons_self .., h⟩]
      · rw [if_neg (fun z => h z.2), List.getElem?_eq_none (by rw [List.length_set, wipe_length]; omega), List.getElem?_eq_none (by omega)]
    · rw [List.getElem?_set_ne e, wipe_get]
      have : (j ∈ v :: vs) ↔ j ∈ vs := by
        rw [List.mem_cons]
        exact ⟨fun h => h.resolve_left (fun z => e z.symm), .inr⟩
      simp only [this]
theorem wipe_back {σ σ2 : L2.St} {ts vs : List Nat} (b : SlB ts (wipe σ vs) σ2) (h : ∀ t ∈ ts, t ∈ vs) : wipe σ2 vs = wipe σ vs := by
  have hl : σ2.length = σ.length := by rw [b.1, wipe_length]
  apply List.ext_getElem?
  intro j
  rw [wipe_get, wipe_get]
  by_cases hj : j ∈ vs
  · by_cases hn : j < σ.length
    · rw [if_pos ⟨hj, by omega⟩, if_pos ⟨hj, hn⟩]
    · rw [if_neg (fun z => hn (by omega)), if_neg (fun z => hn z.2), List.getElem?_eq_none (by omega), List.getElem?_eq_none (by omega)]
  · rw [if_neg (fun z => hj z.1), if_neg (fun z => hj z.1), b.2 j (fun z => hj (h j z)), wipe_get, if_neg (fun z => hj z.1)]
theorem wipeE_length (env : EN) : ∀ vs : List Nat, (wipeE env vs).length = env.length
  | [] => rfl
  | v :: vs => by unfold wipeE; rw [List.length_set, wipeE_length env vs]
theorem wipeE_some {env : EN} {i : Nat} {x : LV} : ∀ {vs : List Nat}, (wipeE env vs)[i]? = some (some x) → env[i]? = some (some x) ∧ i ∉ vs
  | [], h => ⟨h, by simp⟩
  | v :: vs, h => by
    unfold wipeE at h
    by_cases hi : v = i
    · subst hi
      by_cases hv : v < (wipeE env vs).length
      · rw [List.getElem?_set_self hv] at h; cases h
      · rw [List.getElem?_eq_none (by simpa using hv)] at h; cases h
    · rw [List.getElem?_set_ne hi] at h
      obtain ⟨h1, h2⟩ := wipeE_some h
      exact ⟨h1, by simp only [List.mem_cons, not_or]; exact ⟨fun e => hi e.symm, h2⟩⟩
theorem EnR.wipe [L : LamC] [S : Susp] {K : PySem.W.Frag} {mg : Str → Option Value} {W : Wd} {σ : L2.St} {env : EN} (s : EnR K mg W σ env) (vs : List Nat) : EnR K mg W (wipe σ vs) (wipeE env vs) :=
  ⟨by rw [wipeE_length, wipe_length]; exact s.len, fun i x h => by
    obtain ⟨h1, h2⟩ := wipeE_some h
    obtain ⟨v, hv, r⟩ := s.at_ i x h1
    exact ⟨v, by rw [wipe_get, if_neg (fun z => h2 z.1)]; exact hv, r⟩⟩
section
variable {K : PySem.W.Frag} {mg : Str → Option Value} {W : Wd} {lh : LH}
/-- what stands while D is in the making, W1 the world ahead of it -/
structure Mk [L : LamC] [S : Susp] (K : PySem.W.Frag) (mg : Str → Option Value) (W1 : Wd) (D : Addr) (W : Wd) (lh : LH) (u : HO) : Prop where
  ex : Ex W1 W
  hd : W.hd = D :: W1.hd
  old : ∀ a, a ∈ W1.hd → W.H a = W1.H a
  lh : LhR K mg W lh
  at_ : W.H D = some u
  pl : PlainO u
theorem Mk.start [L : LamC] [S : Susp] {D : Addr} (l : LhR K mg W lh) (hD : W.H D = none) (u : HO) (hpl : PlainO u := by constructor <;> intro _ z <;> cases z) : Mk K mg W D ⟨upd W.H D u, W.io, D :: W.hd⟩ lh u := by
  have ex : Ex W ⟨upd W.H D u, W.io, D :: W.hd⟩ := by
    refine ⟨⟨fun a h => ?_, fun a o h _ => ⟨o, by show upd W.H D u a = some o; rw [upd_ne (ne_of_none h hD)]; exact h, .inl rfl⟩⟩, fun a h => ?_, Nat.le_refl _, fun _ _ _ h => h⟩
    · rcases h with h | h
      · exact .inl (.inl h)
      · rcases List.mem_cons.mp h with e | h
        · exact .inr (e ▸ hD)
        · exact .inl (.inr h)
    · show upd W.H D u a ≠ none
      by_cases e : a = D
      · rw [e, upd_same]; simp
      · rw [upd_ne e]; exact h
  refine ⟨ex, rfl, fun a h => upd_ne fun z => l.mu a (.inr h) (z ▸ hD), ⟨l.len, l.inj, fun a h => ?_, fun n o q h1 h2 => ?_, fun P h => tabS_new (l.tab P h) hD, l.sus.mono ex, fun a v h hv => ?_⟩, upd_same, hpl⟩
  rotate_left 2
  · rcases List.mem_cons.mp h with e | h
    · subst e
      rw [← Option.some.inj (upd_same.symm.trans hv)]
      exact hpl
    · exact l.hdp a v h ((upd_ne (fun z => l.mu a (.inr h) (by rw [z]; exact hD))).symm.trans hv)
  · rcases List.mem_cons.mp h with e | h
    · subst e
      exact ⟨by show upd W.H a u a ≠ none; rw [upd_same]; simp, fun z => l.mu a (.inl z) hD⟩
    · exact ⟨ex.trk a (l.hid a h).1, (l.hid a h).2⟩
  · have := l.at_ n o q h1 h2
    cases q with
    | none => exact this
    | some a =>
      obtain ⟨w, h, r⟩ := this
      exact ⟨w, by show upd W.H D u a = some w; rw [upd_ne (ne_of_none h hD)]; exact h, r.mono ex⟩
theorem Mk.step [L : LamC] [S : Susp] {W1 W2 : Wd} {D : Addr} {u : HO} {lh2 : LH} (m : Mk K mg W1 D W lh u) (e : Ext W W2) (l : LhR K mg W2 lh2) : Mk K mg W1 D W2 lh2 u :=
  ⟨m.ex.trans e.toEx, by rw [e.hdE, m.hd], fun a h => (e.hdk a (by rw [m.hd]; exact List.mem_cons_of_mem _ h)).trans (m.old a h), l, (e.hdk D (by rw [m.hd]; exact List.mem_cons_self ..)).trans m.at_, m.pl⟩
theorem Mk.put_ex [L : LamC] [S : Susp] {W1 : Wd} {D : Addr} {u u' : HO} (m : Mk K mg W1 D W lh u) : Ex W ⟨upd W.H D u', W.io, W.hd⟩ := by
  have hDm : D ∈ W.hd := by rw [m.hd]; exact List.mem_cons_self ..
  refine ⟨⟨fun a h => .inl h, fun a o h nm => ⟨o, by show upd W.H D u' a = some o; rw [upd_ne (fun z => nm (.inr (by rw [z]; exact hDm)))]; exact h, .inl rfl⟩⟩, fun a h => ?_, Nat.le_refl _, fun _ _ _ h => h⟩
  show upd W.H D u' a ≠ none
  by_cases e : a = D
  · rw [e, upd_same]; simp
  · rw [upd_ne e]; exact h
theorem Mk.put [L : LamC] [S : Susp] {W1 : Wd} {D : Addr} {u : HO} (m : Mk K mg W1 D W lh u) (l1 : W1.H D = none) (t1 : ∀ a, a ∈ W1.hd → W1.H a ≠ none) (u' : HO) (hpl : PlainO u' := by constructor <;> intro _ z <;> cases z) : Mk K mg W1 D ⟨upd W.H D u', W.io, W.hd⟩ lh u' := by
  have hDm : D ∈ W.hd := by rw [m.hd]; exact List.mem_cons_self ..
  refine ⟨m.ex.trans m.put_ex, m.hd, fun a h => (upd_ne fun z => t1 a h (by rw [z]; exact l1)).trans (m.old a h), ⟨m.lh.len, m.lh.inj, fun a h => ⟨m.put_ex.trk a (m.lh.hid a h).1, (m.lh.hid a h).2⟩, fun n o q h1 h2 => ?_, fun P h => tabS_upd (m.lh.tab P h) fun v hv => ?_, m.lh.sus.mono m.put_ex, fun a v h hv => ?_⟩, upd_same, hpl⟩
  rotate_left
  · rw [m.at_] at hv
    cases hv
    exact m.pl
  · by_cases e : a = D
    · subst e
      rw [← Option.some.inj (upd_same.symm.trans hv)]
      exact hpl
    · exact m.lh.hdp a v h ((upd_ne e).symm.trans hv)
  have := m.lh.at_ n o q h1 h2
  cases q with
  | none => exact this
  | some a =>
    obtain ⟨w, h, r⟩ := this
    have h2 : W.io[n]? = some (some a) := h2
    exact ⟨w, by show upd W.H D u' a = some w; rw [upd_ne (fun z => (m.lh.hid D hDm).2 (by rw [← z]; exact List.mem_of_getElem? h2))]; exact h, r.mono m.put_ex⟩
/-- made: frozen -/
theorem Mk.froze [L : LamC] [S : Susp] {W1 : Wd} {D : Addr} {u : HO} (m : Mk K mg W1 D W lh u) (l1 : W1.H D = none) (t1 : ∀ a, a ∈ W1.hd → W1.H a ≠ none) :
    Ext W1 ⟨W.H, W.io, W1.hd⟩ ∧ LhR K mg ⟨W.H, W.io, W1.hd⟩ lh ∧ ¬ Wd.Mu ⟨W.H, W.io, W1.hd⟩ D ∧ Ex0 W ⟨W.H, W.io, W1.hd⟩ := by
  have hsub : ∀ a, a ∈ W1.hd → a ∈ W.hd := fun a h => by rw [m.hd]; exact List.mem_cons_of_mem _ h
  have hDm : D ∈ W.hd := by rw [m.hd]; exact List.mem_cons_self ..
  have ex : Ex W ⟨W.H, W.io, W1.hd⟩ := ⟨⟨fun a h => .inl (h.imp id (hsub a)), fun a o h _ => ⟨o, h, .inl rfl⟩⟩, fun _ h => h, Nat.le_refl _, fun _ _ _ h => h⟩
  refine ⟨⟨m.ex.trans ex, rfl, m.old⟩, ⟨m.lh.len, m.lh.inj, fun a h => m.lh.hid a (hsub a h), fun n o q h1 h2 => ?_, fun P h => m.lh.tab P h, m.lh.sus.mono ex, fun a φ h => m.lh.hdp a φ (hsub a h)⟩, fun z => ?_, ex.toEx0⟩
  · have := m.lh.at_ n o q h1 h2
    cases q with
    | none => exact this
    | some a =>
      obtain ⟨w, h, r⟩ := this
      exact ⟨w, h, r.mono ex⟩
  · rcases z with z | z
    · exact (m.lh.hid D hDm).2 z
    · exact t1 D z l1
end
abbrev WF : WX := fun _ _ _ _ => False
abbrev FTs [L : LamC] [S : Susp] (X : Cx) (Wx : WX) (ifs : List Expr) (t : EN → LH → Res Bool) : Prop := PTs X ifs (tFb X.K X.mg Wx t)
theorem PTs.imp {X : Cx} {e : List Expr} {t t' : TT} (h : PTs X e t) (i : ∀ σ H Q, t' σ H Q → t σ H Q) : PTs X e t' := ⟨fun pins s σ H Q I q => h.run pins s σ H Q I (i σ H Q q)⟩
theorem fts_nil [L : LamC] [S : Susp] {X : Cx} {Wx : WX} : FTs X Wx [] tYesZ := PTs.imp pts_nil fun σ H Q ⟨W, env, lh, hH, sr, h⟩ => hH ▸ h true W (Ext.refl W) sr.lh rfl
theorem fts_one [L : LamC] [S : Susp] {X : Cx} {Wx : WX} {c : Expr} {t : EN → LH → Res Bool} (h : FT X Wx c t) : FTs X Wx [c] t := pts_one h
/-- what is made of the gathered items -/
def ZEndL [L : LamC] [S : Susp] (K : PySem.W.Frag) (mg : Str → Option Value) (z : List LV → LH → Res LV) : Prop :=
  ∀ W1 W lh acc vs D E Q, Mk K mg W1 D W lh (.lst vs) → LhR K mg W1 lh ∨ True → W1.H D = none → (∀ a, a ∈ W1.hd → W1.H a ≠ none) → LReps K mg W acc vs → tR K mg (LRep K mg) W1 E (z acc lh) Q → Q (.ref D) W.H
theorem zLst_end [L : LamC] [S : Susp] {K : PySem.W.Frag} {mg : Str → Option Value} : ZEndL K mg zLst := fun W1 W lh acc vs D E Q m _ hD t1 r h => by
  unfold zLst at h
  split at h
  · next ps e =>
    have := pvs_some e
    subst this
    obtain ⟨e1, l1, nm, e0⟩ := m.froze hD t1
    exact h (.ref D) ⟨W.H, W.io, W1.hd⟩ e1 l1 (.lst ⟨.inl m.at_, nm⟩ (Reps.mono e0 r.p))
  · exact h.elim
theorem LReps.ex [L : LamC] [S : Susp] {K : PySem.W.Frag} {mg : Str → Option Value} {W W' : Wd} (e : Ex W W') {xs : List LV} {vs : List V} (h : LReps K mg W xs vs) : LReps K mg W' xs vs := h.mono e
section
variable {K : PySem.W.Frag} {mg : Str → Option Value}
theorem lc_turns [L : LamC] [S : Susp] {J : It} {s : Src} {g : LV → EN → LH → Res EN} {t : EN → LH → Res Bool} {fe : EN → LH → Res LV} {z : List LV → LH → Res LV} {σ : L2.St} {env : EN} {vs ts : List Nat} {W1 : Wd} {lh1 : LH} {E : XK} {Q : VK} (hz : ZEndL K mg z) (hts : ∀ t ∈ ts, t ∈ vs) (it : ItOk K mg J s W1) (s1 : SR K mg W1 σ env lh1) (hn : s.items.length ≤ sizeLine)
    (h : tR K mg (LRep K mg) W1 E ((noX (lcL s.chk g t fe (wipeE env vs) s.items [] lh1)).bind z) Q) :
    ∀ D, W1.H D = none → ∃ W : Nat → Nat → Hp → Prop, (∃ m, W 0 m (upd W1.H D (.lst []))) ∧ ∀ i m H, W i m H →
      (J.stop i H ∧ Q (.ref D) H) ∨ (J.go i H ∧ ∃ Nx : Hp → Prop, (∀ H', Nx H' → ∃ m', m' < m ∧ W (i + 1) m' H') ∧ ∀ x H', J.yld i H x H' → tT K mg ts g x (wipe σ vs) H' fun σ2 H2 => wipe σ2 vs = wipe σ vs ∧ tFb K mg WF t σ2 H2 fun b H3 =>
        if b = true then tF K mg WF fe σ2 H3 fun y H4 => ∃ acc, H4 D = some (.lst acc) ∧ acc.length < sizeLine ∧ Nx (upd H4 D (.lst (acc ++ [y]))) else Nx H3) := by
  intro D hD
  have t1 : ∀ a, a ∈ W1.hd → W1.H a ≠ none := fun a h => s1.lh.mu a (.inr h)
  refine ⟨fun i m H => m = s.items.length - i ∧ i ≤ s.items.length ∧ ∃ W lh acc us, W.H = H ∧ Mk K mg W1 D W lh (.lst us) ∧ LReps K mg W acc us ∧ us.length ≤ i ∧ tR K mg (LRep K mg) W1 E ((noX (lcL s.chk g t fe (wipeE env vs) (s.items.drop i) acc lh)).bind z) Q,
    ⟨s.items.length, by simp, Nat.zero_le _, _, lh1, [], [], rfl, Mk.start s1.lh hD _, .nil, Nat.zero_le _, h⟩, ?_⟩
  rintro i m H ⟨rfl, hi, W, lh, acc, us, rfl, mk, ra, hu, h⟩
  by_cases hlt : i < s.items.length
  · rw [List.drop_eq_getElem_cons hlt] at h
    unfold lcL at h
    split at h
    · next hc =>
      obtain ⟨h1, h2⟩ := it.go i W lh mk.ex mk.lh hc hlt
      refine .inr ⟨h1, fun H' => ∃ W lh acc us, W.H = H' ∧ Mk K mg W1 D W lh (.lst us) ∧ LReps K mg W acc us ∧ us.length ≤ i + 1 ∧ tR K mg (LRep K mg) W1 E ((noX (lcL s.chk g t fe (wipeE env vs) (s.items.drop (i + 1)) acc lh)).bind z) Q,
        fun H' q => ⟨s.items.length - (i + 1), by omega, rfl, hlt, q⟩, fun x H' hy => ?_⟩
      obtain ⟨W', y, rfl, e', l', hy', r'⟩ := h2 x H' hy
      have ey : s.items[i] = y := by
        rw [List.getElem?_eq_getElem hlt] at hy'
        exact Option.some.inj hy'
      rw [ey] at h
      have mk' := mk.step e' l'
      have sr' : SR K mg W' (wipe σ vs) (wipeE env vs) lh := ⟨l', (s1.sl.wipe vs).mono mk'.ex⟩
      have ra' := ra.mono e'.toEx
      refine ⟨W', wipeE env vs, lh, y, rfl, sr', r', ?_⟩
      cases q : g y (wipeE env vs) lh with
      | ok env1 lh2 =>
        rw [q] at h
        rw [Res.bind_ok] at h
        refine fun σ2 W2 e2 s2 b2 => ⟨wipe_back b2 hts, W2, env1, lh2, rfl, s2, ?_⟩
        have mk2 := mk'.step e2 s2.lh
        cases q2 : t env1 lh2 with
        | ok b lh3 =>
          rw [q2, Res.bind_ok] at h
          intro c W3 e3 l3 hb
          cases hb
          have mk3 := mk2.step e3 l3
          cases b with
          | true =>
            refine ⟨W3, env1, lh3, rfl, s2.mono e3 l3, ?_⟩
            rw [if_pos rfl] at h
            cases q3 : fe env1 lh3 with
            | ok v lh4 =>
              rw [q3, Res.bind_ok] at h
              intro w W4 e4 l4 rw4
              have mk4 := mk3.step e4 l4
              refine ⟨us, mk4.at_, by omega, ⟨upd W4.H D (.lst (us ++ [w])), W4.io, W4.hd⟩, lh4, acc ++ [v], us ++ [w], rfl, mk4.put hD t1 _, ?_, by simp; omega, h⟩
              have x4 := mk4.put_ex (u' := .lst (us ++ [w]))
              exact ((((ra'.mono e2.toEx).mono e3.toEx).mono e4.toEx).mono x4).append (.one (rw4.mono x4))
            | exc => rw [q3] at h; exact h.elim
            | stuck => rw [q3] at h; exact h.elim
          | false =>
            exact ⟨W3, lh3, acc, us, rfl, mk3, (ra'.mono e2.toEx).mono e3.toEx, by omega, h⟩
        | exc => rw [q2] at h; exact h.elim
        | stuck => rw [q2] at h; exact h.elim
      | exc => rw [q] at h; exact h.elim
      | stuck => rw [q] at h; exact h.elim
    · exact h.elim
  · have e : i = s.items.length := by omega
    subst e
    rw [List.drop_length] at h
    unfold lcL at h
    split at h
    · next hc => exact .inl ⟨it.stop _ W lh mk.ex mk.lh hc (Nat.le_refl _), hz W1 W lh acc us D E Q mk (.inr trivial) hD t1 ra h⟩
    · exact h.elim
end
section
variable {X : Cx} {Wx : WX} {elt tg iter : Expr} {ifs : List Expr} {scope : Scope} {own : List (Str × Nat)} {pos : Pos} {fi : EN → LH → Res Src} {g : LV → EN → LH → Res EN} {ts : List Nat} {t : EN → LH → Res Bool} {fe : EN → LH → Res LV} {z : List LV → LH → Res LV}
theorem fLc_of [L : LamC] [S : Susp] {vs : List Nat} (hz : ZEndL X.K X.mg z) (hts : ∀ t ∈ ts, t ∈ vs) {σ : L2.St} {H : Hp} {Q : VK} (h : tF X.K X.mg Wx (fLc z vs fi g t fe) σ H Q) : tLc (tI X.K X.mg Wx fi) (tT X.K X.mg ts g) (tFb X.K X.mg WF t) (tF X.K X.mg WF fe) vs σ H Q := by
  obtain ⟨W, env, lh, hH, sr, h⟩ := h
  subst hH
  refine go (k := fun (s : Src) lh1 => if s.items.length ≤ sizeLine then (noX (lcL s.chk g t fe (wipeE env vs) s.items [] lh1)).bind z else .stuck) sr h fun s lh1 J W1 e1 s1 it h1 => ?_
  split at h1
  · next hn => exact lc_turns hz hts it s1 hn h1
  · exact h1.elim
theorem fe_lc [L : LamC] [S : Susp] {vs : List Nat} (hz : ZEndL X.K X.mg z) (hc : X.calm = true) (hN : X.N.Nodup) (hi : FI X Wx tg iter fi) (ok : BlkOk X.N X.env.scope scope own) (hts : ∀ t ∈ ts, t ∈ vs)
    (hg : ∀ (s : Shared) (H : Hp) (C : Addr) (cl : List (Str × Addr)) (fp : List Addr), FG (X.blk s H scope (compEnvC scope cl C X.env) fp) tg ts g) (ht : ∀ (s : Shared) (H : Hp) (C : Addr) (cl : List (Str × Addr)) (fp : List Addr), FTs (X.blk s H scope (compEnvC scope cl C X.env) fp) WF ifs t)
    (he : ∀ (s : Shared) (H : Hp) (C : Addr) (cl : List (Str × Addr)) (fp : List Addr), FE (X.blk s H scope (compEnvC scope cl C X.env) fp) WF elt fe) (hs : ∀ x, foldedSetIterable iter X.env x = pure x := by intro _; rfl) (hvs : own.map (·.2) = vs := by rfl) :
    FE X Wx (.ListComp elt [⟨tg, iter, ifs, 0⟩] scope pos) (fLc z vs fi g t fe) := by
  subst hvs
  exact PE.imp (pe_lc hc hN hi ok hg ht he hs) fun σ H Q h => fLc_of hz hts h
theorem fs_setLc [L : LamC] [S : Susp] {vs : List Nat} {i : Nat} {y : Str} {py spos : Pos} (hz : ZEndL X.K X.mg z) (hc : X.calm = true) (hN : X.N.Nodup) (hy : X.N[i]? = some y) (hyl : X.env.scope.names.lookup y = some .local)
    (hsw : swapsWith (.ListComp elt [⟨tg, iter, ifs, 0⟩] scope pos) (some (.Name y py)) spos.line X.env = pure true) (hi : FI X Wx tg iter fi) (ok : BlkOk X.N X.env.scope scope own) (hts : ∀ t ∈ ts, t ∈ vs)
    (hg : ∀ (s : Shared) (H : Hp) (C : Addr) (cl : List (Str × Addr)) (fp : List Addr), FG (X.blk s H scope (compEnvC scope cl C X.env) fp) tg ts g) (ht : ∀ (s : Shared) (H : Hp) (C : Addr) (cl : List (Str × Addr)) (fp : List Addr), FTs (X.blk s H scope (compEnvC scope cl C X.env) fp) WF ifs t)
    (he : ∀ (s : Shared) (H : Hp) (C : Addr) (cl : List (Str × Addr)) (fp : List Addr), FE (X.blk s H scope (compEnvC scope cl C X.env) fp) WF elt fe) (hs : ∀ x, foldedSetIterable iter X.env x = pure x := by intro _; rfl) (hvs : own.map (·.2) = vs := by rfl) :
    FS X Wx (.Assign [.Name y py] (.ListComp elt [⟨tg, iter, ifs, 0⟩] scope pos) spos) (sAsg (fLc z vs fi g t fe) (gN i)) := by
  subst hvs
  refine PS.imp (ps_setLc (g := tT X.K X.mg ts g) (tt := tFb X.K X.mg WF t) (te := tF X.K X.mg WF fe) hc hN hy hyl hsw hi ok hg ht he hs) fun D σ H ⟨W, env, lh, hH, sr, h⟩ => ?_
  subst hH
  refine fLc_of hz hts ?_
  refine goS (k := fun x lh1 => gEnd (gN i x env lh1)) sr h fun x lh1 v W1 e1 s1 r1 h1 => ?_
  exact h1 _ W1 (Ext.refl W1) (s1.set r1 i)
end
end Z
namespace Z
open PySem PySem.Spec PyProof.Rows L2
def pvsD : List (PV × LV) → Option (List (PV × PV))
  | [] => some []
  | (k, .pv p) :: r => (pvsD r).map ((k, p) :: ·)
  | (_, .ref _) :: _ => none
def pvsF : List (Str × LV) → Option (List (Str × PV))
  | [] => some []
  | (k, .pv p) :: r => (pvsF r).map ((k, p) :: ·)
  | (_, .ref _) :: _ => none
@[simp] theorem pvsD_map (xs : List (PV × PV)) : pvsD (xs.map fun kv => (kv.1, .pv kv.2)) = some xs := by
  induction xs with
  | nil => rfl
  | cons x xs ih => simp [pvsD, ih]
@[simp] theorem pvsF_map (xs : List (Str × PV)) : pvsF (xs.map fun kv => (kv.1, .pv kv.2)) = some xs := by
  induction xs with
  | nil => rfl
  | cons x xs ih => simp [pvsF, ih]
def frzO : LO → Option PV
  | .lst xs => (pvs xs).map .lst
  | .dct kvs => (pvsD kvs).map .dct
  | .ins c fs => (pvsF fs).map (.obj c)
  | _ => none
def zFrz (x : LV) (lh : LH) : Res LV := match x with
  | .pv p => .ok (.pv p) lh
  | .ref n => (match lh[n]? with
    | some o => (match frzO o with
      | some p => .ok (.pv p) (lh.set n .dead)
      | none => .stuck)
    | none => .stuck)
def fFrz (f : EN → LH → Res LV) (env : EN) (lh : LH) : Res LV := (f env lh).bind zFrz
section
variable {K : PySem.W.Frag} {mg : Str → Option Value} {W : Wd} {lh : LH}
theorem frz_ok [L : LamC] [S : Susp] {n : Nat} {a : Addr} (l : LhR K mg W lh) (h : W.io[n]? = some (some a)) :
    Ext W ⟨W.H, W.io.set n none, W.hd⟩ ∧ LhR K mg ⟨W.H, W.io.set n none, W.hd⟩ (lh.set n .dead) ∧ ¬ Wd.Mu ⟨W.H, W.io.set n none, W.hd⟩ a := by
  have key : ∀ (i : Nat) (b : Addr), (W.io.set n none)[i]? = some (some b) → i ≠ n ∧ W.io[i]? = some (some b) := fun i b q => by
    by_cases e : i = n
    · subst e
      rw [List.getElem?_set_self (List.getElem?_eq_some_iff.mp h).1] at q
      cases q
    · rw [List.getElem?_set_ne (Ne.symm e)] at q
      exact ⟨e, q⟩
  have hm : ∀ b : Addr, some b ∈ W.io.set n none → some b ∈ W.io := fun b q => by
    obtain ⟨i, hi, e⟩ := List.mem_iff_getElem.mp q
    exact List.mem_of_getElem? (key i b (by rw [List.getElem?_eq_getElem hi, e])).2
  have ex : Ext W ⟨W.H, W.io.set n none, W.hd⟩ := ⟨⟨⟨fun b q => .inl (q.imp (hm b) id), fun b o q _ => ⟨o, q, .inl rfl⟩⟩, fun _ q => q, by simp, fun i b _ q => (key i b q).2⟩, rfl, fun _ _ => rfl⟩
  refine ⟨ex, ⟨by simp [l.len], fun i j b q1 q2 => l.inj i j b (key i b q1).2 (key j b q2).2, fun b q => ⟨(l.hid b q).1, fun z => (l.hid b q).2 (hm b z)⟩, fun i o q h1 h2 => ?_, fun P q => l.tab P q, l.sus.mono ex.toEx, l.hdp⟩, fun z => ?_⟩
  · have h2 : (W.io.set n none)[i]? = some q := h2
    by_cases e : i = n
    · subst e
      rw [List.getElem?_set_self (List.getElem?_eq_some_iff.mp h).1] at h2
      cases h2
      rw [List.getElem?_set_self (by rw [l.len]; exact (List.getElem?_eq_some_iff.mp h).1)] at h1
      cases h1; rfl
    · rw [List.getElem?_set_ne (Ne.symm e)] at h1 h2
      have := l.at_ i o q h1 h2
      cases q with
      | none => exact this
      | some b =>
        obtain ⟨u, hu, r⟩ := this
        exact ⟨u, hu, r.mono ex.toEx⟩
  · rcases z with z | z
    · obtain ⟨i, hi, e⟩ := List.mem_iff_getElem.mp (show some a ∈ W.io.set n none from z)
      have := key i a (by rw [List.getElem?_eq_getElem hi, e])
      exact this.1 (l.inj i n a this.2 h)
    · exact (l.hid a z).2 (List.mem_of_getElem? h)
theorem lrepD_p [L : LamC] [S : Susp] : ∀ {kvs : List (PV × LV)} {ys : List (PV × PV)} {hs : List (Key × V)}, LRepD K mg W kvs hs → pvsD kvs = some ys → RepD K mg W ys hs
  | _, _, _, .nil, h => by cases h; exact .nil
  | _, _, _, .cons (x := .pv p) r t, h => by
    obtain ⟨l, e, rfl⟩ := Option.map_eq_some_iff.mp h
    exact .cons r (lrepD_p t e)
  | _, _, _, .cons (x := .ref n) r t, h => by cases h
theorem lrepF_p [L : LamC] [S : Susp] : ∀ {kvs : List (Str × LV)} {ys : List (Str × PV)} {hs : List (Str × V)}, LRepF K mg W kvs hs → pvsF kvs = some ys → RepF K mg W ys hs
  | _, _, _, .nil, h => by cases h; exact .nil
  | _, _, _, .cons (x := .pv p) r t, h => by
    obtain ⟨l, e, rfl⟩ := Option.map_eq_some_iff.mp h
    exact .cons r (lrepF_p t e)
  | _, _, _, .cons (x := .ref n) r t, h => by cases h
theorem frzO_rep [L : LamC] [S : Susp] {o : LO} {u : HO} {p : PV} {a : Addr} (r : ORep K mg W o u) (h : frzO o = some p) (hH : W.H a = some u) (nm : ¬ W.Mu a) : Rep K mg W p (.ref a) := by
  cases r with
  | lst r =>
    obtain ⟨l, e, rfl⟩ := Option.map_eq_some_iff.mp h
    have := pvs_some e
    subst this
    exact .lst ⟨.inl hH, nm⟩ r.p
  | dct r =>
    obtain ⟨l, e, rfl⟩ := Option.map_eq_some_iff.mp h
    exact .dct (.inl hH) nm (lrepD_p r e)
  | dctT r => cases h
  | ins g r =>
    obtain ⟨l, e, rfl⟩ := Option.map_eq_some_iff.mp h
    exact .obj hH nm g (lrepF_p r e)
theorem frz_end [L : LamC] [S : Susp] {E : XK} {x : LV} {v : V} {Q : VK} (l : LhR K mg W lh) (r : LRep K mg W x v) (q : tR K mg (LRep K mg) W E (zFrz x lh) Q) : Q v W.H := by
  unfold zFrz at q
  split at q
  · exact fin q l r
  · next n =>
    split at q
    · next o ho =>
      split at q
      · next p hp =>
        obtain ⟨a, u, h1, h2, h3, hn⟩ := io_at l ho (by intro z; subst z; cases hp)
        obtain ⟨e, l', nm⟩ := frz_ok l h1
        have hv := r.2 a h1
        subst hv
        exact q (.ref a) ⟨W.H, W.io.set n none, W.hd⟩ e l' (frzO_rep (h3.mono e.toEx) hp h2 nm)
      · exact q.elim
    · exact q.elim
end
theorem fe_frz [L : LamC] [S : Susp] {X : Cx} {Wx : WX} {e : Expr} {f : EN → LH → Res LV} (h : FE X Wx e f) : FE X Wx e (fFrz f) := by
  refine PE.imp h fun σ H Q ⟨W, env, lh, hH, sr, h⟩ => ?_
  subst hH
  exact go sr h fun x lh1 v W1 e1 s1 r1 h1 => frz_end s1.lh r1 h1
section
variable {K : PySem.W.Frag} {mg : Str → Option Value} {W : Wd} {lh : LH}
theorem lock_ext [L : LamC] [S : Susp] {d : Addr} {hs : List (Key × V)} (o : Obj) (l : LhR K mg W lh) (hd : W.H d = some (.dK hs)) (nm : ¬ W.Mu d) :
    Ext W ⟨upd W.H d (.frz o (.dK hs)), W.io, W.hd⟩ ∧ LhR K mg ⟨upd W.H d (.frz o (.dK hs)), W.io, W.hd⟩ lh := by
  have ex : Ext W ⟨upd W.H d (.frz o (.dK hs)), W.io, W.hd⟩ := by
    refine ⟨⟨⟨fun a h => .inl h, fun a u h n => ?_⟩, fun a h => ?_, Nat.le_refl _, fun _ _ _ h => h⟩, rfl, fun a h => upd_ne fun z => nm (.inr (by rw [← z]; exact h))⟩
    · by_cases e : a = d
      · subst e
        rw [hd] at h
        cases h
        exact ⟨_, upd_same, .inr (.inl ⟨⟨o, rfl⟩, .inl ⟨hs, rfl⟩⟩)⟩
      · exact ⟨u, (upd_ne e).trans h, .inl rfl⟩
    · show upd W.H d _ a ≠ none
      by_cases e : a = d
      · rw [e, upd_same]; simp
      · rw [upd_ne e]; exact h
  refine ⟨ex, l.len, l.inj, fun a h => ⟨ex.trk a (l.hid a h).1, (l.hid a h).2⟩, fun n u q h1 h2 => ?_, fun P q => tabS_upd (l.tab P q) fun v hv => ?_, l.sus.mono ex.toEx, fun a v h hv => l.hdp a v h ((upd_ne (fun z => nm (.inr (by rw [← z]; exact h)))).symm.trans hv)⟩
  rotate_left
  · rw [hd] at hv
    cases hv
    exact ⟨fun _ z => (by cases z), fun _ z => (by cases z)⟩
  have := l.at_ n u q h1 h2
  cases q with
  | none => exact this
  | some a =>
    obtain ⟨w, h, r⟩ := this
    have h2 : W.io[n]? = some (some a) := h2
    exact ⟨w, by show upd W.H d _ a = some w; rw [upd_ne (fun z => nm (.inl (by rw [← z]; exact List.mem_of_getElem? h2)))]; exact h, r.mono ex.toEx⟩
end
/-- .. and locked -/
def tLockV (td : TE) : TE := fun σ H Q => td σ H fun x H1 => ∃ d kvs, x = .ref d ∧ ((H1 d = some (.dK kvs) ∧ ∀ o, Q x (upd H1 d (.frz o (.dK kvs)))) ∨ ∃ o, H1 d = some (.frz o (.dK kvs)) ∧ Q x H1)
theorem pe_lockV {X : Cx} {e : Expr} {td : TE} (h : PE X e td) : PE X e (tLockV td) := by
  refine ⟨fun pins s σ H Q I hw => thn (h.run pins s σ H _ I hw) fun u s1 ⟨x, H1, I1, rx, d, kvs, ex, q⟩ => ?_⟩
  rcases q with ⟨hd, q⟩ | ⟨o, hd, q⟩
  · obtain ⟨od, I2⟩ := I1.lock hd trivial
    exact ⟨x, _, I2, rx, q od⟩
  · exact ⟨x, H1, I1, rx, q⟩
/-- the dict stands locked -/
def pdOf (x : LV) : Option (List (PV × PV)) := match x with
  | .pv (.dct kvs) => some kvs
  | _ => none
section
variable {X : Cx} {Wx : WX} {e tg : Expr} {fe : EN → LH → Res LV} {apos cpos : Pos}
def RLk [L : LamC] [S : Susp] (K : PySem.W.Frag) (mg : Str → Option Value) (W : Wd) (x : LV) (v : V) : Prop := ∃ kvs d hs o, x = .pv (.dct kvs) ∧ v = .ref d ∧ W.H d = some (.frz o (.dK hs)) ∧ ¬ W.Mu d ∧ RepD K mg W kvs hs
/-- a value that is a frozen dict -/
def fPd (fe : EN → LH → Res LV) (env : EN) (lh : LH) : Res LV := (fe env lh).bind fun x lh1 => match pdOf x with
  | some kvs => .ok x lh1
  | none => .stuck
theorem pe_lk [L : LamC] [S : Susp] (he : FE X Wx e fe) : PE X e (tE X.K X.mg (RLk X.K X.mg) Wx (fPd fe)) := by
  refine PE.imp (pe_lockV he) fun σ H Q ⟨W, env, lh, hH, sr, h⟩ => ?_
  subst hH
  refine go sr h fun x lh1 v W1 e1 s1 r1 h1 => ?_
  split at h1
  · next kvs hx =>
    have hx' : x = .pv (.dct kvs) := by
      cases x with
      | pv q => cases q <;> first | (cases hx; done) | (cases hx; rfl)
      | ref n => cases hx
    subst hx'
    cases r1 with
    | @dct _ d hs f nm r =>
      rcases f with f | ⟨o, f⟩
      · refine ⟨d, hs, rfl, .inl ⟨f, fun o => ?_⟩⟩
        obtain ⟨e2, l2⟩ := lock_ext o s1.lh f nm
        exact h1 (.ref d) ⟨upd W1.H d (.frz o (.dK hs)), W1.io, W1.hd⟩ e2 l2 ⟨kvs, d, hs, o, rfl, rfl, upd_same, nm, RepD.mono e2.toEx.toEx0 r⟩
      · exact ⟨d, hs, rfl, .inr ⟨o, f, fin h1 s1.lh ⟨kvs, d, hs, o, rfl, rfl, f, nm, r⟩⟩⟩
  · exact h1.elim
theorem repD_at [L : LamC] [S : Susp] {K : PySem.W.Frag} {mg : Str → Option Value} {W : Wd} : ∀ {kvs : List (PV × PV)} {hs : List (Key × V)}, RepD K mg W kvs hs → kvs.length = hs.length ∧ ∀ (i : Nat) (k : Key) (v : V), hs[i]? = some (k, v) → ∃ p, kvs[i]? = some (kP k, p) ∧ Rep K mg W p v
  | _, _, .nil => ⟨rfl, fun i k v h => by simp at h⟩
  | _, _, .cons r t => by
    obtain ⟨h1, h2⟩ := repD_at t
    refine ⟨by simp [h1], fun i k v h => ?_⟩
    cases i with
    | zero => simp at h; obtain ⟨rfl, rfl⟩ := h; exact ⟨_, rfl, r⟩
    | succ i => simpa using h2 i k v (by simpa using h)
theorem kP_rep [L : LamC] [S : Susp] {K : PySem.W.Frag} {mg : Str → Option Value} {W : Wd} : ∀ (k : Key), Rep K mg W (kP k) (kV k)
  | .inl _ => .int
  | .inr _ => .str
def fSrcD (f : List (PV × PV) → List LV) (fe : EN → LH → Res LV) (env : EN) (lh : LH) : Res Src := (fPd fe env lh).bind fun x lh1 => match pdOf x with
  | some kvs => .ok ⟨yes, f kvs⟩ lh1
  | none => .stuck
def kyD (kvs : List (PV × PV)) : List LV := kvs.map fun kv => .pv kv.1
theorem src_of [L : LamC] [S : Susp] {f : List (PV × PV) → List LV} {W : Wd} {σ : L2.St} {env : EN} {lh : LH} {R : It → Hp → Prop} (sr : SR X.K X.mg W σ env lh) (h : tR X.K X.mg (fun W s J => ItOk X.K X.mg J s W) W (WE Wx σ) (fSrcD f fe env lh) R)
    (hf : ∀ kvs, (f kvs).length = kvs.length) : tE X.K X.mg (RLk X.K X.mg) Wx (fPd fe) σ W.H fun x H1 => ∃ d o hs kvs W1 lh1, x = .ref d ∧ W1.H = H1 ∧ H1 d = some (.frz o (.dK hs)) ∧ ¬ W1.Mu d ∧ RepD X.K X.mg W1 kvs hs ∧ LhR X.K X.mg W1 lh1 ∧ ∀ J, ItOk X.K X.mg J ⟨yes, f kvs⟩ W1 → R J H1 := by
  refine go (k := fun (x : LV) lh1 => match pdOf x with | some kvs => .ok (Src.mk yes (f kvs)) lh1 | none => .stuck) sr h fun x lh1 v W1 e1 s1 r1 h1 => ?_
  obtain ⟨kvs, d, hs, o, rfl, rfl, h2, nm, r⟩ := r1
  exact ⟨d, o, hs, kvs, W1, lh1, rfl, rfl, h2, nm, r, s1.lh, fun J it => h1 J W1 (Ext.refl W1) s1.lh it⟩
theorem fi_keys [L : LamC] [S : Susp] (he : FE X Wx e fe) : FI X Wx tg e (fSrcD kyD fe) := by
  refine PI.imp (pi_keys (pe_lk he)) fun σ H R ⟨W, env, lh, hH, sr, h⟩ => ?_
  subst hH
  obtain ⟨W', env', lh', hH', sr', h'⟩ := src_of (f := kyD) sr h fun kvs => by simp [kyD]
  refine ⟨W', env', lh', hH', sr', ?_⟩
  have key : ∀ (x : V) (H1 : Hp), (∃ d o hs kvs W1 lh1, x = .ref d ∧ W1.H = H1 ∧ H1 d = some (.frz o (.dK hs)) ∧ ¬ W1.Mu d ∧ RepD X.K X.mg W1 kvs hs ∧ LhR X.K X.mg W1 lh1 ∧ ∀ J, ItOk X.K X.mg J ⟨yes, kyD kvs⟩ W1 → R J H1) →
      ∃ d o, x = .ref d ∧ ((∃ kvs, H1 d = some (.frz o (.dK kvs)) ∧ R (Itk d o kvs) H1) ∨ ∃ kvs, H1 d = some (.frz o (.dT kvs)) ∧ R (Itkt d o kvs) H1) := by
    rintro x H1 ⟨d, o, hs, kvs, W1, lh1, rfl, rfl, h2, nm, r, l1, q⟩
    obtain ⟨hl, hat⟩ := repD_at r
    have hl' : (kyD kvs).length = hs.length := by unfold kyD; rw [List.length_map, hl]
    refine ⟨d, o, rfl, .inl ⟨hs, h2, q _ ⟨fun i W lh ex l hc hi => ⟨⟨ex.lk h2 nm, by rw [← hl']; exact hi⟩, fun x H' ⟨e2, k, v, hk, ex'⟩ => ?_⟩, fun i W lh ex l hc hi => ⟨ex.lk h2 nm, by rw [← hl']; exact hi⟩⟩⟩⟩
    subst ex'
    obtain ⟨p, hp, _⟩ := hat i k v hk
    refine ⟨W, .pv (kP k), e2.symm, Ext.refl W, l, ?_, kP_rep k⟩
    show (kyD kvs)[i]? = _
    unfold kyD
    rw [List.getElem?_map, hp]; rfl
  cases q : fPd fe env' lh' with
  | ok x lh => rw [q] at h'; exact fun v W'' f l r => key v W''.H (h' v W'' f l r)
  | exc x lh => rw [q] at h'; exact h'
  | stuck => rw [q] at h'; exact h'
end
end Z
namespace Z
open PySem PySem.Spec PyProof.Rows L2
def dcL (chk : LH → Bool) (g : LV → EN → LH → Res EN) (t : EN → LH → Res Bool) (fk fv : EN → LH → Res LV) (env0 : EN) : List LV → List (PV × LV) → LH → Res (List (PV × LV))
  | [], acc, lh => if chk lh = true then .ok acc lh else .stuck
  | y :: r, acc, lh => if chk lh = true then
      ((g y env0 lh).bind fun env1 lh1 => (t env1 lh1).bind fun b lh2 => if b = true then (fk env1 lh2).bind fun k lh3 => (fv env1 lh3).bind fun v lh4 => (match k with
        | .pv p => if isKey p = true then dcL chk g t fk fv env0 r (putD acc p v) lh4 else .stuck
        | .ref _ => .stuck) else dcL chk g t fk fv env0 r acc lh2) else .stuck
def fDc (z : List (PV × LV) → LH → Res LV) (vs : List Nat) (fi : EN → LH → Res Src) (g : LV → EN → LH → Res EN) (t : EN → LH → Res Bool) (fk fv : EN → LH → Res LV) (env : EN) (lh : LH) : Res LV :=
  (fi env lh).bind fun s lh1 => if s.items.length ≤ sizeLine then (noX (dcL s.chk g t fk fv (wipeE env vs) s.items [] lh1)).bind z else .stuck
def zDc (acc : List (PV × LV)) (lh : LH) : Res LV := match pvsD acc with
  | some ps => .ok (.pv (.dct ps)) lh
  | none => .stuck
def ZEndD [L : LamC] [S : Susp] (K : PySem.W.Frag) (mg : Str → Option Value) (z : List (PV × LV) → LH → Res LV) : Prop :=
  ∀ W1 W lh acc hs D E Q, Z.Mk K mg W1 D W lh (.dK hs) → W1.H D = none → (∀ a, a ∈ W1.hd → W1.H a ≠ none) → LRepD K mg W acc hs → tR K mg (LRep K mg) W1 E (z acc lh) Q → Q (.ref D) W.H
theorem zDc_end [L : LamC] [S : Susp] {K : PySem.W.Frag} {mg : Str → Option Value} : ZEndD K mg zDc := fun W1 W lh acc vs D E Q m hD t1 r h => by
  unfold zDc at h
  split at h
  · next ps e =>
    obtain ⟨e1, l1, nm, e0⟩ := m.froze hD t1
    exact h (.ref D) ⟨W.H, W.io, W1.hd⟩ e1 l1 (.dct (.inl m.at_) nm (RepD.mono e0 (lrepD_p r e)))
  · exact h.elim
theorem putD_len (kvs : List (PV × LV)) (k : PV) (v : LV) : (putD kvs k v).length ≤ kvs.length + 1 := by
  unfold putD
  split
  · simp
  · simp
section
variable {K : PySem.W.Frag} {mg : Str → Option Value}
theorem dc_turns [L : LamC] [S : Susp] {J : It} {s : Src} {g : LV → EN → LH → Res EN} {t : EN → LH → Res Bool} {fk fv : EN → LH → Res LV} {z : List (PV × LV) → LH → Res LV} {σ : L2.St} {env : EN} {vs ts : List Nat} {W1 : Wd} {lh1 : LH} {E : XK} {Q : VK} (hz : ZEndD K mg z) (hts : ∀ t ∈ ts, t ∈ vs) (it : ItOk K mg J s W1) (s1 : SR K mg W1 σ env lh1) (hn : s.items.length ≤ sizeLine)
    (h : tR K mg (LRep K mg) W1 E ((noX (dcL s.chk g t fk fv (wipeE env vs) s.items [] lh1)).bind z) Q) :
    ∀ D, W1.H D = none → ∃ W : Nat → Nat → Hp → Prop, (∃ m, W 0 m (upd W1.H D (.dK []))) ∧ ∀ i m H, W i m H →
      (J.stop i H ∧ Q (.ref D) H) ∨ (J.go i H ∧ ∃ Nx : Hp → Prop, (∀ H', Nx H' → ∃ m', m' < m ∧ W (i + 1) m' H') ∧ ∀ x H', J.yld i H x H' → tT K mg ts g x (wipe σ vs) H' fun σ2 H2 => wipe σ2 vs = wipe σ vs ∧ tFb K mg WF t σ2 H2 fun b H3 =>
        if b = true then tF K mg WF fk σ2 H3 fun y H4 => tF K mg WF fv σ2 H4 fun w H5 => ∃ kvs k, y = kV k ∧ H5 D = some (.dK kvs) ∧ kvs.length < sizeLine ∧ Nx (upd H5 D (.dK (putK kvs k w))) else Nx H3) := by
  intro D hD
  have t1 : ∀ a, a ∈ W1.hd → W1.H a ≠ none := fun a h => s1.lh.mu a (.inr h)
  refine ⟨fun i m H => m = s.items.length - i ∧ i ≤ s.items.length ∧ ∃ W lh acc us, W.H = H ∧ Z.Mk K mg W1 D W lh (.dK us) ∧ LRepD K mg W acc us ∧ acc.length ≤ i ∧ tR K mg (LRep K mg) W1 E ((noX (dcL s.chk g t fk fv (wipeE env vs) (s.items.drop i) acc lh)).bind z) Q,
    ⟨s.items.length, by simp, Nat.zero_le _, _, lh1, [], [], rfl, Z.Mk.start s1.lh hD _, .nil, Nat.zero_le _, h⟩, ?_⟩
  rintro i m H ⟨rfl, hi, W, lh, acc, us, rfl, mk, ra, hu, h⟩
  by_cases hlt : i < s.items.length
  · rw [List.drop_eq_getElem_cons hlt] at h
    unfold dcL at h
    split at h
    · next hc =>
      obtain ⟨h1, h2⟩ := it.go i W lh mk.ex mk.lh hc hlt
      refine .inr ⟨h1, fun H' => ∃ W lh acc us, W.H = H' ∧ Z.Mk K mg W1 D W lh (.dK us) ∧ LRepD K mg W acc us ∧ acc.length ≤ i + 1 ∧ tR K mg (LRep K mg) W1 E ((noX (dcL s.chk g t fk fv (wipeE env vs) (s.items.drop (i + 1)) acc lh)).bind z) Q,
        fun H' q => ⟨s.items.length - (i + 1), by omega, rfl, hlt, q⟩, fun x H' hy => ?_⟩
      obtain ⟨W', y, rfl, e', l', hy', r'⟩ := h2 x H' hy
      have ey : s.items[i] = y := by
        rw [List.getElem?_eq_getElem hlt] at hy'
        exact Option.some.inj hy'
      rw [ey] at h
      have mk' := mk.step e' l'
      have sr' : SR K mg W' (wipe σ vs) (wipeE env vs) lh := ⟨l', (s1.sl.wipe vs).mono mk'.ex⟩
      have ra' := ra.mono e'.toEx
      refine ⟨W', wipeE env vs, lh, y, rfl, sr', r', ?_⟩
      cases q : g y (wipeE env vs) lh with
      | ok env1 lh2 =>
        rw [q] at h
        rw [Res.bind_ok] at h
        refine fun σ2 W2 e2 s2 b2 => ⟨wipe_back b2 hts, W2, env1, lh2, rfl, s2, ?_⟩
        have mk2 := mk'.step e2 s2.lh
        cases q2 : t env1 lh2 with
        | ok b lh3 =>
          rw [q2, Res.bind_ok] at h
          intro c W3 e3 l3 hb
          cases hb
          have mk3 := mk2.step e3 l3
          cases b with
          | true =>
            refine ⟨W3, env1, lh3, rfl, s2.mono e3 l3, ?_⟩
            rw [if_pos rfl] at h
            cases q3 : fk env1 lh3 with
            | ok k lh4 =>
              rw [q3, Res.bind_ok] at h
              intro w W4 e4 l4 rw4
              have mk4 := mk3.step e4 l4
              refine ⟨W4, env1, lh4, rfl, (s2.mono e3 l3).mono e4 l4, ?_⟩
              cases q4 : fv env1 lh4 with
              | ok v lh5 =>
                rw [q4, Res.bind_ok] at h
                intro w5 W5 e5 l5 rw5
                have mk5 := mk4.step e5 l5
                have ra5 := (((ra'.mono e2.toEx).mono e3.toEx).mono e4.toEx).mono e5.toEx
                cases k with
                | pv p =>
                  have h : tR K mg (LRep K mg) W1 E ((noX (if isKey p = true then dcL s.chk g t fk fv (wipeE env vs) (s.items.drop (i + 1)) (putD acc p v) lh5 else .stuck)).bind z) Q := h
                  split at h
                  · next hk =>
                    obtain ⟨kk, rfl⟩ := isKey_key hk
                    have ek := kP_kV rw4
                    subst ek
                    have x5 := mk5.put_ex (u' := .dK (putK us kk w5))
                    refine ⟨us, kk, rfl, mk5.at_, by rw [← lrepD_len ra5]; omega, ⟨upd W5.H D (.dK (putK us kk w5)), W5.io, W5.hd⟩, lh5, putD acc (kP kk) v, putK us kk w5, rfl, mk5.put hD t1 _, ?_, ?_, h⟩
                    · exact lrepD_put (ra5.mono x5) kk (rw5.mono x5)
                    · have := putD_len acc (kP kk) v; omega
                  · exact h.elim
                | ref n => exact h.elim
              | exc => rw [q4] at h; exact h.elim
              | stuck => rw [q4] at h; exact h.elim
            | exc => rw [q3] at h; exact h.elim
            | stuck => rw [q3] at h; exact h.elim
          | false =>
            exact ⟨W3, lh3, acc, us, rfl, mk3, (ra'.mono e2.toEx).mono e3.toEx, by omega, h⟩
        | exc => rw [q2] at h; exact h.elim
        | stuck => rw [q2] at h; exact h.elim
      | exc => rw [q] at h; exact h.elim
      | stuck => rw [q] at h; exact h.elim
    · exact h.elim
  · have e : i = s.items.length := by omega
    subst e
    rw [List.drop_length] at h
    unfold dcL at h
    split at h
    · next hc => exact .inl ⟨it.stop _ W lh mk.ex mk.lh hc (Nat.le_refl _), hz W1 W lh acc us D E Q mk hD t1 ra h⟩
    · exact h.elim
end
section
variable {X : Cx} {Wx : WX} {kx vx tg iter : Expr} {ifs : List Expr} {scope : Scope} {own : List (Str × Nat)} {pos : Pos} {fi : EN → LH → Res Src} {g : LV → EN → LH → Res EN} {ts : List Nat} {t : EN → LH → Res Bool} {fk fv : EN → LH → Res LV} {z : List (PV × LV) → LH → Res LV}
theorem fe_dc [L : LamC] [S : Susp] {vs : List Nat} (hz : ZEndD X.K X.mg z) (hc : X.calm = true) (hN : X.N.Nodup) (hi : FI X Wx tg iter fi) (ok : BlkOk X.N X.env.scope scope own) (hts : ∀ t ∈ ts, t ∈ vs)
    (hg : ∀ (s : Shared) (H : Hp) (C : Addr) (cl : List (Str × Addr)) (fp : List Addr), FG (X.blk s H scope (compEnvC scope cl C X.env) fp) tg ts g) (ht : ∀ (s : Shared) (H : Hp) (C : Addr) (cl : List (Str × Addr)) (fp : List Addr), FTs (X.blk s H scope (compEnvC scope cl C X.env) fp) WF ifs t)
    (hk : ∀ (s : Shared) (H : Hp) (C : Addr) (cl : List (Str × Addr)) (fp : List Addr), FE (X.blk s H scope (compEnvC scope cl C X.env) fp) WF kx fk)
    (he : ∀ (s : Shared) (H : Hp) (C : Addr) (cl : List (Str × Addr)) (fp : List Addr), FE (X.blk s H scope (compEnvC scope cl C X.env) fp) WF vx fv) (hs : ∀ x, foldedSetIterable iter X.env x = pure x := by intro _; rfl) (hvs : own.map (·.2) = vs := by rfl) :
    FE X Wx (.DictComp kx vx [⟨tg, iter, ifs, 0⟩] scope pos) (fDc z vs fi g t fk fv) := by
  subst hvs
  refine PE.imp (pe_dc (g := tT X.K X.mg ts g) (tt := tFb X.K X.mg WF t) (tk := tF X.K X.mg WF fk) (tv := tF X.K X.mg WF fv) hc hN hi ok hg ht hk he hs) fun σ H Q ⟨W, env, lh, hH, sr, h⟩ => ?_
  subst hH
  refine go (k := fun (s : Src) lh1 => if s.items.length ≤ sizeLine then (noX (dcL s.chk g t fk fv (wipeE env (own.map (·.2))) s.items [] lh1)).bind z else .stuck) sr h fun s lh1 J W1 e1 s1 it h1 => ?_
  split at h1
  · next hn => exact dc_turns hz hts it s1 hn h1
  · exact h1.elim
end
end Z
namespace Z
open PySem PySem.Spec PyProof.Rows L2
def set0 (w : World) : Obj := { cls := .type "set", dict := none, data := .set #[] 0 (.fresh 0 0 (!w.params.followText "set-order")) }
section
variable {P : Program} {w : World} {A : Around} {E : Value → Shared → Prop} {s : Shared}
theorem setI_list {li : Addr} {its : Array Value} (ms : List Int) {Q : Value → Shared → Prop} (calm : A.handled = none) (isl : s.heap.IsList li its) (izs : IntsAre its.toList ms) (few : ms.length + 1 < scanBound)
    (fin : ∀ (hp : Heap) (tk c : Nat), SetR w hp s.heap.objs.size (fun j => decide (j ∈ ms)) c → c ≤ ms.length → (∀ b o, s.heap.get? b = some o → hp.get? b = some o) → Q (.ref s.heap.objs.size) { s with heap := hp, toks := tk }) :
    wpAny (model P w) A (call (.type "set") [.ref li]) Q E s := by
  have lenE : its.size = ms.length := by rw [← Array.length_toList]; exact IntsAre.length izs
  obtain ⟨c0, tl0, mroE⟩ := F.called_set.mro
  have madeE := F.called_set.made
  have subE := F.called_set.sub
  refine wpAny_call (codeAny_of_tree ?_)
  show wpAny _ _ (callAny (.type "set") _) _ _ _
  refine wpAny_pure ⟨Code.quiet_builtin _ (by decide +kernel), codeAny_builtin F.entry_type_call ?_⟩
  rw [Around.under_plain (weight_type_call_type "set" [.ref li] []) rfl]
  have e1 := F.called_set.notType
  have e2 := F.called_set.canCreate
  have e3 := F.typeCall_set_1 (.ref li)
  repeat (any_goals (first | assumption | wp_step))
  refine codeAny_mono (code_set_led1 (.ref li) (E := E) (Q₁ := fun ob t1 => ob = .ref s.heap.objs.size ∧ t1 = { s with heap := s.heap.push (set0 w) }) ⟨rfl, rfl⟩) fun res t1 hres => ?_
  cases res with
  | error er => exact hres
  | ok flow =>
    cases flow with
    | ret ob =>
      obtain ⟨rfl, rfl⟩ := hres
      have atS : (s.heap.push (set0 w)).get? s.heap.objs.size = some (set0 w) := Heap.get?_push_size _ rfl
      have tyS : Shared.TypeIs { s with heap := s.heap.push (set0 w) } (.ref s.heap.objs.size) "set" := ⟨_, atS, rfl⟩
      have lookE := F.called_set.init.lookup
      have bindE := F.called_set.init.bind (.ref s.heap.objs.size)
      repeat (any_goals (first | assumption | wp_step))
      refine codeAny_mono (codeAny_call_builtin (R := wants (fun u t2 => u = .none ∧ ∃ hp tk c, t2 = { s with heap := hp, toks := tk } ∧ SetR w hp s.heap.objs.size (fun j => decide (j ∈ ms)) c ∧ c ≤ ms.length ∧
          (∀ b o, s.heap.get? b = some o → hp.get? b = some o)) E) F.called_set.init.plain F.entry_set_init (check_set_init_1 tyS ?_)) fun u2 t2 hu2 => ?_
      · obtain ⟨ol, hol, cE, nl, dE⟩ := isl
        obtain ⟨c1, d1, x1, sl1⟩ := ol
        simp only at cE dE
        subst cE; subst dE
        have hol' : (s.heap.push (set0 w)).get? li = some { cls := .type "list", dict := d1, data := .seq its nl, slots := sl1 } := Heap.get?_push_of_some _ hol
        have s1 := F.sub_list_set
        have s2 := F.sub_list_frozenset
        have ne1 : (Value.type "list" == Value.type "dict") = false := by decide
        have isl1 : (s.heap.push (set0 w)).IsList li its := ⟨_, hol', rfl, nl, rfl⟩
        unfold Builtin.«set.__init__» noKeywords Builtin.Frozenset.updateFrom
        generalize pE : pyIter = PI
        wp_walk
        subst pE
        refine wpAny_pyIter_list isl1 ?_
        refine wpAny_bind (wpAny_runValue ?_)
        have liS : li < s.heap.objs.size := Heap.lt_size hol
        have calm3 : A.in1.in1.in1.handled = none := by simp [calm]
        have szE : (s.heap.push (set0 w)).objs.size = s.heap.objs.size + 1 := Heap.size_push ..
        have neI : li ≠ (s.heap.push (set0 w)).objs.size := by rw [szE]; exact Nat.ne_of_lt (Nat.lt_succ_of_lt liS)
        have notI : s.heap.objs.size ∉ [(s.heap.push (set0 w)).objs.size, li] := by
          rw [szE]
          intro z
          rcases List.mem_cons.mp z with z | z
          · exact absurd z (Nat.ne_of_lt (Nat.lt_succ_self _))
          · have z : s.heap.objs.size = li := by simpa using z
            exact absurd z (Nat.ne_of_gt liS)
        have vals : ∀ (i : Nat) (v : Value), its[i]? = some v → ∃ k t, ms[i]? = some k ∧ v = .int k t := fun i v q => by
          have hi : i < ms.length := by rw [← lenE]; exact (Array.getElem?_eq_some_iff.mp q).1
          obtain ⟨t, e⟩ := PyProof.Rows.IntsAre.int_at izs i v (by rw [Array.getElem?_toList]; exact q)
          refine ⟨ms[i], t, List.getElem?_eq_getElem hi, ?_⟩
          rw [e, List.getD_eq_getElem?_getD, List.getElem?_eq_getElem hi] <;> rfl
        refine set_update_ints ((Walks.list calm3 _ li neI its).toS) s.heap.objs.size notI ms lenE few vals (its.size - 0) 0 _ (by omega) (Nat.zero_le _) ⟨⟨_, Heap.get?_push_size _ rfl, rfl, rfl⟩, (isl1.push _)⟩ ?first ?last
        case first =>
          have got : ((s.heap.push (set0 w)).push { cls := .type "list_iterator", data := .fields #[.ref li, .int 0 0] }).get? s.heap.objs.size = some (set0 w) := Heap.get?_push_of_some _ atS
          exact ⟨0, Nat.le_refl 0, setR_new_at got⟩
        case last =>
          intro t3 c3 mv hc3 R3
          obtain ⟨hp, g3, d3, tk3, os3⟩ := t3
          have eg : g3 = s.gens := mv.gens
          have ed : d3 = s.drawn := mv.drawn
          have eo : os3 = s.os := mv.os
          subst eg; subst ed; subst eo
          show wpAny _ _ _ _ _ _
          refine wpAny_pure ?_
          show wpAny _ _ (ret Value.none) _ _ _
          rw [lenE] at hc3
          refine wpAny_pure ⟨rfl, hp, tk3, c3, rfl, R3, hc3, fun b o e => ?_⟩
          have b0 : b < s.heap.objs.size := Heap.lt_size e
          refine mv.heap b o (fun z => ?_) (Heap.get?_push_of_some _ (Heap.get?_push_of_some _ e))
          rcases List.mem_cons.mp z with z | z
          · exact absurd z (Nat.ne_of_lt b0)
          · have z : b = (s.heap.push (set0 w)).objs.size := by simpa using z
            rw [szE] at z
            exact absurd z (Nat.ne_of_lt (Nat.lt_succ_of_lt b0))
      · cases u2 with
        | error er => exact hu2
        | ok flow2 =>
          cases flow2 with
          | ret r2 =>
            obtain ⟨rfl, hp, tk, c3, rfl, R3, hc3, keep⟩ := hu2
            repeat (any_goals (first | assumption | wp_step))
            exact fin _ _ _ R3 hc3 keep
          | _ => exact hu2.elim
    | _ => exact hres.elim
end
section
variable {X : Cx}
/-- set(xs), xs a list of izs -/
def rSetOfI (K : PySem.W.Frag) (w : World) : List V → Hp → VK → Prop := fun xs H Q => ∃ (l : Addr) (ns : List Int), xs = [V.ref l] ∧ SqL K H l (ns.map V.int) ∧ ns.length + 1 < scanBound ∧
  ∀ a c, c ≤ ns.length → H a = none → Q (.ref a) (upd H a (SetO w a (fun j => decide (j ∈ ns)) c))
theorem cr_setOfI (hc : X.calm = true) : CallR X (.type "set") (rSetOfI X.K X.w) := by
  intro pins s σ H xs us Q I r h
  obtain ⟨l, ns, rfl, hl, hf, q⟩ := h
  rw [Vals.ref1 r]
  obtain ⟨its, rv, pl, hz⟩ := I.list hl
  have hn : H s.heap.objs.size = none := I.hok.fresh (Nat.le_refl _)
  refine setI_list (P := X.prog) (w := X.w) ns (I.ok.hd hc) pl.isList (by simpa using rv.ints) hf fun h' tk c R hcl k => ?_
  exact ⟨.ref s.heap.objs.size, upd H s.heap.objs.size (SetO X.w s.heap.objs.size (fun j => decide (j ∈ ns)) c), I.laid (t' := tk) k (Nat.le_refl _) (setO_new R), rfl, q _ c hcl hn⟩
end
end Z
namespace Z
open PySem PySem.Spec PyProof.Rows L2
structure SO {α : Type} (lt : α → α → Bool) : Prop where
  irr : ∀ a, lt a a = false
  tr : ∀ a b c, lt a b = true → lt b c = true → lt a c = true
  tri : ∀ a b, lt a b = false → lt b a = false → a = b
section
variable {α : Type} {lt : α → α → Bool}
def insU (lt : α → α → Bool) (x : α) : List α → List α
  | [] => [x]
  | y :: r => if lt x y = true then x :: y :: r else if lt y x = true then y :: insU lt x r else y :: r
/-- sorted, each once -/
def srtU (lt : α → α → Bool) : List α → List α
  | [] => []
  | x :: r => insU lt x (srtU lt r)
def insD (lt : α → α → Bool) (x : α) : List α → List α
  | [] => [x]
  | y :: r => if lt y x = true then y :: insD lt x r else x :: y :: r
/-- sorted -/
def srtD (lt : α → α → Bool) : List α → List α
  | [] => []
  | x :: r => insD lt x (srtD lt r)
theorem mem_insU (o : SO lt) {x y : α} : ∀ {l : List α}, y ∈ insU lt x l ↔ y = x ∨ y ∈ l
  | [] => by simp [insU]
  | z :: r => by
    unfold insU
    split
    · simp
    · split
      · rw [List.mem_cons, mem_insU o, List.mem_cons]
        constructor
        · rintro (h | h | h)
          · exact .inr (.inl h)
          · exact .inl h
          · exact .inr (.inr h)
        · rintro (h | h | h)
          · exact .inr (.inl h)
          · exact .inl h
          · exact .inr (.inr h)
      · next h1 h2 =>
        have : x = z := o.tri x z (by simpa using h1) (by simpa using h2)
        subst this
        rw [List.mem_cons]
        constructor
        · exact fun h => .inr h
        · rintro (h | h)
          · exact .inl h
          · exact h
theorem mem_srtU (o : SO lt) {y : α} : ∀ {l : List α}, y ∈ srtU lt l ↔ y ∈ l
  | [] => by simp [srtU]
  | x :: r => by unfold srtU; rw [mem_insU o, mem_srtU o, List.mem_cons]
theorem pw_insU (o : SO lt) {x : α} : ∀ {l : List α}, l.Pairwise (fun a b => lt a b = true) → (insU lt x l).Pairwise (fun a b => lt a b = true)
  | [], _ => by simp [insU]
  | z :: r, h => by
    obtain ⟨h1, h2⟩ := List.pairwise_cons.mp h
    unfold insU
    split
    · next hx => exact List.pairwise_cons.mpr ⟨fun a ha => by
        rcases List.mem_cons.mp ha with e | e
        · rw [e]; exact hx
        · exact o.tr _ _ _ hx (h1 a e), h⟩
    · split
      · next hx => exact List.pairwise_cons.mpr ⟨fun a ha => by
          rcases (mem_insU o).mp ha with e | e
          · rw [e]; exact hx
          · exact h1 a e, pw_insU o h2⟩
      · exact h
theorem pw_srtU (o : SO lt) : ∀ {l : List α}, (srtU lt l).Pairwise (fun a b => lt a b = true)
  | [] => .nil
  | x :: r => pw_insU o (pw_srtU o)
theorem strict_ext (o : SO lt) : ∀ {a b : List α}, a.Pairwise (fun a b => lt a b = true) → b.Pairwise (fun a b => lt a b = true) → (∀ x, x ∈ a ↔ x ∈ b) → a = b
  | [], [], _, _, _ => rfl
  | [], y :: t, _, _, h => by have := (h y).mpr (List.mem_cons_self ..); cases this
  | x :: r, [], _, _, h => by have := (h x).mp (List.mem_cons_self ..); cases this
  | x :: r, y :: t, p, q, h => by
    obtain ⟨p1, p2⟩ := List.pairwise_cons.mp p
    obtain ⟨q1, q2⟩ := List.pairwise_cons.mp q
    have e : x = y := by
      rcases List.mem_cons.mp ((h x).mp (List.mem_cons_self ..)) with e | e
      · exact e
      · rcases List.mem_cons.mp ((h y).mpr (List.mem_cons_self ..)) with e' | e'
        · exact e'.symm
        · have := o.tr _ _ _ (p1 y e') (q1 x e)
          rw [o.irr] at this; cases this
    subst e
    congr 1
    refine strict_ext o p2 q2 fun z => ⟨fun hz => ?_, fun hz => ?_⟩
    · rcases List.mem_cons.mp ((h z).mp (List.mem_cons_of_mem _ hz)) with e | e
      · have := p1 z hz
        rw [e, o.irr] at this; cases this
      · exact e
    · rcases List.mem_cons.mp ((h z).mpr (List.mem_cons_of_mem _ hz)) with e | e
      · have := q1 z hz
        rw [e, o.irr] at this; cases this
      · exact e
theorem perm_insD {x : α} : ∀ {l : List α}, (insD lt x l).Perm (x :: l)
  | [] => .refl _
  | y :: r => by
    unfold insD
    split
    · exact (List.Perm.cons y perm_insD).trans (.swap x y r)
    · exact .refl _
theorem perm_srtD : ∀ {l : List α}, (srtD lt l).Perm l
  | [] => .refl _
  | x :: r => by unfold srtD; exact perm_insD.trans (.cons x perm_srtD)
theorem pw_insD (o : SO lt) {x : α} : ∀ {l : List α}, l.Pairwise (fun a b => lt b a = false) → (insD lt x l).Pairwise (fun a b => lt b a = false)
  | [], _ => by simp [insD]
  | z :: r, h => by
    obtain ⟨h1, h2⟩ := List.pairwise_cons.mp h
    unfold insD
    split
    · next hx => exact List.pairwise_cons.mpr ⟨fun a ha => by
        rcases List.mem_cons.mp (perm_insD.mem_iff.mp ha) with e | e
        · subst e
          cases q : lt a z with
          | false => rfl
          | true => have := o.tr _ _ _ hx q; rw [o.irr] at this; cases this
        · exact h1 a e, pw_insD o h2⟩
    · next hx =>
      have hx : lt z x = false := by simpa using hx
      refine List.pairwise_cons.mpr ⟨fun a ha => ?_, h⟩
      rcases List.mem_cons.mp ha with e | e
      · rw [e]; exact hx
      · have ha2 := h1 a e
        cases q : lt a x with
        | false => rfl
        | true =>
          cases q2 : lt z a with
          | true => have := o.tr _ _ _ q2 q; rw [this] at hx; cases hx
          | false => have := o.tri _ _ q2 ha2; subst this; rw [q] at hx; cases hx
theorem pw_srtD (o : SO lt) : ∀ {l : List α}, (srtD lt l).Pairwise (fun a b => lt b a = false)
  | [] => .nil
  | x :: r => pw_insD o (pw_srtD o)
theorem sorted_ext (o : SO lt) {a b : List α} (p : a.Pairwise (fun a b => lt b a = false)) (q : b.Pairwise (fun a b => lt b a = false)) (h : a.Perm b) : a = b :=
  List.Perm.eq_of_pairwise (fun x y _ _ h1 h2 => o.tri x y h2 h1) p q h
end
def ltZ (a b : Int) : Bool := decide (a < b)
theorem so_ltZ : SO ltZ := ⟨fun a => by simp [ltZ], fun a b c h1 h2 => by simp [ltZ] at *; omega, fun a b h1 h2 => by simp [ltZ] at *; omega⟩
/-- lists of ints, as Python orders tuples -/
def ltL : List Int → List Int → Bool
  | [], [] => false
  | [], _ :: _ => true
  | _ :: _, [] => false
  | a :: r, b :: t => decide (a < b) || (decide (a = b) && ltL r t)
theorem ltL_irr : ∀ a, ltL a a = false
  | [] => rfl
  | a :: r => by simp [ltL, ltL_irr r]
theorem ltL_tr : ∀ a b c, ltL a b = true → ltL b c = true → ltL a c = true
  | [], [], _, h, _ => by simp [ltL] at h
  | [], _ :: _, [], _, h => by simp [ltL] at h
  | [], _ :: _, _ :: _, _, _ => rfl
  | _ :: _, [], _, h, _ => by simp [ltL] at h
  | _ :: _, _ :: _, [], _, h => by simp [ltL] at h
  | a :: r, b :: t, c :: q, h1, h2 => by
    simp only [ltL, Bool.or_eq_true, Bool.and_eq_true, decide_eq_true_eq] at h1 h2 ⊢
    rcases h1 with h1 | ⟨h1, h1'⟩ <;> rcases h2 with h2 | ⟨h2, h2'⟩
    · left; omega
    · left; omega
    · left; omega
    · right; exact ⟨by omega, ltL_tr r t q h1' h2'⟩
theorem ltL_tri : ∀ a b, ltL a b = false → ltL b a = false → a = b
  | [], [], _, _ => rfl
  | [], _ :: _, h, _ => by simp [ltL] at h
  | _ :: _, [], _, h => by simp [ltL] at h
  | a :: r, b :: t, h1, h2 => by
    simp only [ltL, Bool.or_eq_false_iff, Bool.and_eq_false_iff, decide_eq_false_iff_not] at h1 h2
    have e : a = b := by omega
    subst e
    rw [ltL_tri r t (by simpa using h1.2) (by simpa using h2.2)]
theorem so_ltL : SO ltL := ⟨ltL_irr, ltL_tr, ltL_tri⟩
theorem ltL_code {B : Int} : ∀ {a b : List Int}, a.length = b.length → TS.Bd B a → TS.Bd B b → ltL a b = true → TS.code B a < TS.code B b
  | [], [], _, _, _, h => by simp [ltL] at h
  | [], _ :: _, h, _, _, _ => by simp at h
  | _ :: _, [], h, _, _, _ => by simp at h
  | a :: r, b :: t, hl, ha, hb, h => by
    simp only [ltL, Bool.or_eq_true, Bool.and_eq_true, decide_eq_true_eq] at h
    have hl' : r.length = t.length := by simpa using hl
    rcases h with h | ⟨h, h'⟩
    · exact TS.code_lt hl' ha.tail hb.tail h
    · subst h
      have := ltL_code hl' ha.tail hb.tail h'
      show a * B ^ r.length + TS.code B r < a * B ^ t.length + TS.code B t
      rw [hl']
      omega
def ltS (a b : Str) : Bool := ltCps a.cps.toList b.cps.toList
theorem ltC_irr : ∀ a : List Nat, ltCps a a = false
  | [] => rfl
  | a :: r => by simp [ltCps, ltC_irr r]
theorem ltC_tr : ∀ a b c : List Nat, ltCps a b = true → ltCps b c = true → ltCps a c = true
  | [], [], _, h, _ => by simp [ltCps] at h
  | [], _ :: _, [], _, h => by simp [ltCps] at h
  | [], _ :: _, _ :: _, _, _ => rfl
  | _ :: _, [], _, h, _ => by simp [ltCps] at h
  | _ :: _, _ :: _, [], _, h => by simp [ltCps] at h
  | a :: r, b :: t, c :: q, h1, h2 => by
    simp only [ltCps, Bool.or_eq_true, Bool.and_eq_true, decide_eq_true_eq, beq_iff_eq] at h1 h2 ⊢
    rcases h1 with h1 | ⟨h1, h1'⟩ <;> rcases h2 with h2 | ⟨h2, h2'⟩
    · left; omega
    · left; omega
    · left; omega
    · right; exact ⟨by omega, ltC_tr r t q h1' h2'⟩
theorem ltC_tri : ∀ a b : List Nat, ltCps a b = false → ltCps b a = false → a = b
  | [], [], _, _ => rfl
  | [], _ :: _, h, _ => by simp [ltCps] at h
  | _ :: _, [], _, h => by simp [ltCps] at h
  | a :: r, b :: t, h1, h2 => by
    simp only [ltCps, Bool.or_eq_false_iff, Bool.and_eq_false_iff, decide_eq_false_iff_not, beq_eq_false_iff_ne] at h1 h2
    have e : a = b := by omega
    subst e
    rw [ltC_tri r t (by simpa using h1.2) (by simpa using h2.2)]
theorem so_ltS : SO ltS := ⟨fun a => ltC_irr _, fun a b c => ltC_tr _ _ _, fun a b h1 h2 => by
  have := ltC_tri _ _ h1 h2
  cases a; cases b
  have this := Array.toList_inj.mp this
  simpa using this⟩
theorem rising_le : ∀ {p : Str} {r : List Str}, risingS p r = true → (p :: r).Pairwise (fun a b => ltS b a = false)
  | p, [], _ => by simp
  | p, x :: r, h => by
    unfold risingS at h
    obtain ⟨h1, h2⟩ := Bool.and_eq_true_iff.mp h
    have ih := rising_le h2
    have h1 : ltS x p = false := by simpa [ltS] using h1
    refine List.pairwise_cons.mpr ⟨fun a ha => ?_, ih⟩
    rcases List.mem_cons.mp ha with e | e
    · rw [e]; exact h1
    · have h3 := (List.pairwise_cons.mp ih).1 a e
      cases q : ltS a p with
      | false => rfl
      | true =>
        cases q2 : ltS x a with
        | true => have := so_ltS.tr _ _ _ q2 q; rw [this] at h1; cases h1
        | false => have := so_ltS.tri _ _ q2 h3; subst this; rw [q] at h1; cases h1
theorem sortedS_pw {l : List Str} (h : sortedS l = true) : l.Pairwise (fun a b => ltS b a = false) := by
  cases l with
  | nil => exact .nil
  | cons x r => exact rising_le h
end Z
namespace Z
open PySem PySem.Spec PyProof.Rows L2
def izP : List PV → Option (List Int)
  | [] => some []
  | .int i :: r => (izP r).map (i :: ·)
  | _ :: _ => none
def izOf (xs : List LV) : Option (List Int) := (pvs xs).bind izP
def szP : List PV → Option (List Str)
  | [] => some []
  | .str i :: r => (szP r).map (i :: ·)
  | _ :: _ => none
def szOf (xs : List LV) : Option (List Str) := (pvs xs).bind szP
def tupP (k : List Int) : PV := .tup (k.map .int)
def tzP : List PV → Option (List (List Int))
  | [] => some []
  | .tup ps :: r => (match izP ps with
    | some k => (tzP r).map (k :: ·)
    | none => none)
  | _ :: _ => none
theorem izP_some : ∀ {xs : List PV} {ns : List Int}, izP xs = some ns → xs = ns.map .int
  | [], _, h => by cases h; rfl
  | .int i :: r, _, h => by
    obtain ⟨l, e, rfl⟩ := Option.map_eq_some_iff.mp (show (izP r).map (i :: ·) = some _ from h)
    rw [izP_some e]; rfl
  | .non :: _, _, h | .bl _ :: _, _, h | .str _ :: _, _, h | .tup _ :: _, _, h | .lst _ :: _, _, h | .dct _ :: _, _, h | .obj _ _ :: _, _, h | .glob _ :: _, _, h | .scr _ :: _, _, h | .dcT _ :: _, _, h | .bt _ :: _, _, h => by cases h
theorem szP_some : ∀ {xs : List PV} {ns : List Str}, szP xs = some ns → xs = ns.map .str
  | [], _, h => by cases h; rfl
  | .str i :: r, _, h => by
    obtain ⟨l, e, rfl⟩ := Option.map_eq_some_iff.mp (show (szP r).map (i :: ·) = some _ from h)
    rw [szP_some e]; rfl
  | .non :: _, _, h | .bl _ :: _, _, h | .int _ :: _, _, h | .tup _ :: _, _, h | .lst _ :: _, _, h | .dct _ :: _, _, h | .obj _ _ :: _, _, h | .glob _ :: _, _, h | .scr _ :: _, _, h | .dcT _ :: _, _, h | .bt _ :: _, _, h => by cases h
theorem tzP_some : ∀ {xs : List PV} {ns : List (List Int)}, tzP xs = some ns → xs = ns.map tupP
  | [], _, h => by cases h; rfl
  | .tup ps :: r, _, h => by
    unfold tzP at h
    cases q : izP ps with
    | none => rw [q] at h; cases h
    | some k =>
      rw [q] at h
      obtain ⟨l, e, rfl⟩ := Option.map_eq_some_iff.mp (show (tzP r).map (k :: ·) = some _ from h)
      rw [tzP_some e, izP_some q]; rfl
  | .non :: _, _, h | .bl _ :: _, _, h | .int _ :: _, _, h | .str _ :: _, _, h | .lst _ :: _, _, h | .dct _ :: _, _, h | .obj _ _ :: _, _, h | .glob _ :: _, _, h | .scr _ :: _, _, h | .dcT _ :: _, _, h | .bt _ :: _, _, h => by cases h
@[simp] theorem izP_map (ns : List Int) : izP (ns.map .int) = some ns := by
  induction ns with
  | nil => rfl
  | cons n ns ih => simp [izP, ih]
@[simp] theorem szP_map (ns : List Str) : szP (ns.map .str) = some ns := by
  induction ns with
  | nil => rfl
  | cons n ns ih => simp [szP, ih]
@[simp] theorem tzP_map (ns : List (List Int)) : tzP (ns.map tupP) = some ns := by
  induction ns with
  | nil => rfl
  | cons n ns ih => simp [tzP, tupP, ih]
@[simp] theorem izOf_map (ns : List Int) : izOf ((ns.map PV.int).map .pv) = some ns := by unfold izOf; rw [pvs_map]; exact izP_map ns
@[simp] theorem szOf_map (ns : List Str) : szOf ((ns.map PV.str).map .pv) = some ns := by unfold szOf; rw [pvs_map]; exact szP_map ns
def okT (ts : List (List Int)) : Bool := match ts with
  | [] => true
  | t :: _ => decide (1 ≤ t.length) && ts.all fun u => decide (u.length = t.length) && u.all fun i => decide (0 ≤ i)
theorem okT_d {ts : List (List Int)} (h : okT ts = true) : ∃ d, 1 ≤ d ∧ ∀ u ∈ ts, u.length = d ∧ ∀ i ∈ u, 0 ≤ i := by
  cases ts with
  | nil => exact ⟨1, Nat.le_refl _, fun u hu => by cases hu⟩
  | cons t r =>
    obtain ⟨h1, h2⟩ := Bool.and_eq_true_iff.mp h
    refine ⟨t.length, by simpa using h1, fun u hu => ?_⟩
    have := List.all_eq_true.mp h2 u hu
    obtain ⟨h3, h4⟩ := Bool.and_eq_true_iff.mp this
    exact ⟨by simpa using h3, fun i hi => by simpa using List.all_eq_true.mp h4 i hi⟩
theorem bd1 : ∀ (u : List Int), (∀ i ∈ u, 0 ≤ i) → ∃ B : Int, ∀ i ∈ u, 0 ≤ i ∧ i < B
  | [], _ => ⟨1, fun i hi => by cases hi⟩
  | a :: r, h => by
    obtain ⟨B, hB⟩ := bd1 r fun i hi => h i (List.mem_cons_of_mem _ hi)
    refine ⟨max B (a + 1), fun i hi => ?_⟩
    rcases List.mem_cons.mp hi with e | e
    · subst e; exact ⟨h i (List.mem_cons_self ..), by omega⟩
    · have := hB i e; exact ⟨this.1, by omega⟩
theorem bd2 : ∀ (ts : List (List Int)), (∀ u ∈ ts, ∀ i ∈ u, 0 ≤ i) → ∃ B : Int, ∀ u ∈ ts, TS.Bd B u
  | [], _ => ⟨1, fun i hi => by cases hi⟩
  | a :: r, h => by
    obtain ⟨B, hB⟩ := bd2 r fun i hi => h i (List.mem_cons_of_mem _ hi)
    obtain ⟨C, hC⟩ := bd1 a (h a (List.mem_cons_self ..))
    refine ⟨max B C, fun u hu m hm => ?_⟩
    rcases List.mem_cons.mp hu with e | e
    · subst e; have := hC m hm; exact ⟨this.1, by omega⟩
    · have := hB u e m hm; exact ⟨this.1, by omega⟩
def lI (ns : List Int) : LV := .pv (.lst (ns.map .int))
def lS (ns : List Str) : LV := .pv (.lst (ns.map .str))
def lT (ns : List (List Int)) : LV := .pv (.lst (ns.map tupP))
def srtSet (ys : List LV) (lh : LH) : Res LV := match pvs ys with
  | some ps => (match izP ps with
    | some ns => if ns.length < 64 then .ok (lI (srtU ltZ ns)) lh else .stuck
    | none => (match tzP ps with
      | some ts => if ts.length < 64 ∧ okT ts = true then .ok (lT (srtU ltL ts)) lh else .stuck
      | none => .stuck))
  | none => .stuck
/-- sorted(set(x)) -/
def zSortSet (xs : List LV) (lh : LH) : Res LV := match xs with
  | [x] => (match lstOf x lh with
    | some ys => srtSet ys lh
    | none => .stuck)
  | _ => .stuck
theorem CallR.or {X : Cx} {f : Value} {r r' : List V → Hp → VK → Prop} (h : CallR X f r) (g : CallR X f r') : CallR X f fun xs H Q => r xs H Q ∨ r' xs H Q :=
  fun pins s σ H xs us Q I rv q => q.elim (h pins s σ H xs us Q I rv) (g pins s σ H xs us Q I rv)
section
variable {K : PySem.W.Frag} {mg : Str → Option Value} {W : Wd}
theorem reps_int [L : LamC] [S : Susp] : ∀ {ns : List Int} {vs : List V}, Reps K mg W (ns.map .int) vs → vs = ns.map V.int
  | [], _, .nil => rfl
  | n :: ns, _, .cons r t => by cases r; rw [reps_int t]; rfl
theorem reps_str [L : LamC] [S : Susp] : ∀ {ns : List Str} {vs : List V}, Reps K mg W (ns.map .str) vs → vs = ns.map V.str
  | [], _, .nil => rfl
  | n :: ns, _, .cons r t => by cases r; rw [reps_str t]; rfl
theorem reps_strs [L : LamC] [S : Susp] : ∀ (ns : List Str), Reps K mg W (ns.map .str) (ns.map V.str)
  | [] => .nil
  | n :: ns => .cons .str (reps_strs ns)
theorem reps_tups [L : LamC] [S : Susp] : ∀ {ts : List (List Int)} {vs : List V}, Reps K mg W (ts.map tupP) vs → ∃ ks : List (Addr × List Int), ts = ks.map (·.2) ∧ vs = ks.map (fun p => V.ref p.1) ∧ ∀ p ∈ ks, Rep K mg W (tupP p.2) (.ref p.1)
  | [], _, .nil => ⟨[], rfl, rfl, fun p hp => by cases hp⟩
  | t :: ts, _, .cons r q => by
    obtain ⟨ks, h1, h2, h3⟩ := reps_tups q
    obtain ⟨a, us, rfl, f, r'⟩ := tup_inv r
    refine ⟨(a, t) :: ks, by rw [h1]; rfl, by rw [h2]; rfl, fun p hp => ?_⟩
    rcases List.mem_cons.mp hp with e | e
    · subst e; exact r
    · exact h3 p e
theorem rep_tupP [L : LamC] [S : Susp] {k : List Int} {a : Addr} (r : Rep K mg W (tupP k) (.ref a)) : SqT K W.H a (k.map V.int) := by
  obtain ⟨b, us, e, f, r'⟩ := tup_inv r
  cases e
  rw [← reps_int r']
  exact f.sq
theorem reps_of_pairs [L : LamC] [S : Susp] {W : Wd} : ∀ {L : List (Addr × List Int)}, (∀ p ∈ L, Rep K mg W (tupP p.2) (.ref p.1)) → Reps K mg W ((L.map (·.2)).map tupP) (L.map fun p => V.ref p.1)
  | [], _ => .nil
  | p :: L, h => .cons (h p (List.mem_cons_self ..)) (reps_of_pairs fun q hq => h q (List.mem_cons_of_mem _ hq))
end
section
variable {X : Cx} {Wx : WX} {e : Expr} {fas : EN → LH → Res (List LV)} {p p2 q pos : Pos}
theorem fe_sortSet [L : LamC] [S : Susp] (hu : X.A.units + 64 < cLine) (hc : X.calm = true) (hg : Gl X "sorted") (hm : X.mg "sorted" = none) (hg2 : Gl X "set") (hm2 : X.mg "set" = none) (ha : FA X Wx [e] fas)
    (hs : starEach [e] X.env = [(false, eval e X.env)] := by rfl) (hpl : (backTo q (starEach [] X.env)).any (·.1) = false := by rfl)
    (hs2 : starEach [.Call (.Name "set" p2) [e] [] q] X.env = [(false, eval (.Call (.Name "set" p2) [e] [] q) X.env)] := by rfl) (hpl2 : (backTo pos (starEach [] X.env)).any (·.1) = false := by rfl) :
    FE X Wx (.Call (.Name "sorted" p) [.Call (.Name "set" p2) [e] [] q] [] pos) (fArgs zSortSet fas) := by
  refine PE.imp (pe_callB ((cr_sortedSet hc).or (cr_sortedT hc)) hg hm (by decide +kernel) (pa_cons (pe_callTy ((cr_setOfI hc).or (cr_setOfT hc hu)) hg2 hm2 (by decide +kernel) ha (by decide) (by decide) hs hpl) pa_nil hs2) (by decide) (by decide) hs2 hpl2) fun σ H Q ⟨W, env, lh, hH, sr, h⟩ => ?_
  subst hH
  refine go (k := zSortSet) sr h fun xs lh1 vs W1 e1 s1 r1 h1 => ?_
  unfold zSortSet at h1
  split at h1
  · next x =>
    obtain ⟨v, rfl, r2⟩ := reps1 r1
    split at h1
    · next ys hy =>
      obtain ⟨a, us, rfl, f, r3⟩ := lst_rd s1.lh r2 hy
      unfold srtSet at h1
      split at h1
      · next ps hps =>
        have := pvs_some hps
        subst this
        have r4 := r3.p
        split at h1
        · next ns hn =>
          have := izP_some hn
          subst this
          have := reps_int r4
          subst this
          split at h1
          · next h64 =>
            refine .inl ⟨a, ns, rfl, .inl f, by unfold scanBound; omega, fun b c hcl hb => .inl ⟨b, _, c, rfl, upd_same, by omega, fun ns' p h2 h3 h4 h5 => ?_⟩⟩
            have e2 := Ext.new (o := SetO X.w b (fun j => decide (j ∈ ns)) c) s1.lh hb
            have l2 := s1.lh.new (o := SetO X.w b (fun j => decide (j ∈ ns)) c) hb
            have en : ns' = srtU ltZ ns := strict_ext so_ltZ (h2.imp fun h => by simpa [ltZ] using h) (pw_srtU so_ltZ) fun x => by rw [mem_srtU so_ltZ, h3]; simp
            subst en
            exact fin_lst (h1.mono e2) l2 (reps_ints _) h5
          · exact h1.elim
        · split at h1
          · next ts ht =>
            have := tzP_some ht
            subst this
            split at h1
            · next h64 =>
              obtain ⟨ks, rfl, rfl, hk⟩ := reps_tups r4
              obtain ⟨d, hd, hd2⟩ := okT_d h64.2
              obtain ⟨B, hB⟩ := bd2 _ fun u hu i hi => (hd2 u hu).2 i hi
              refine .inr ⟨a, ks, rfl, .inl f, fun p hp => rep_tupP (hk p hp), by simpa using h64.1, fun b L hb hL1 hL2 => ?_⟩
              have e2 := Ext.new (o := SetTO X.prog X.w b L) s1.lh hb
              have l2 := s1.lh.new (o := SetTO X.prog X.w b L) hb
              have hmk : ∀ p ∈ L, p.2 ∈ ks.map (·.2) := fun p hp => List.mem_map.mpr ⟨p, hL1 p hp, rfl⟩
              have hrep : ∀ p ∈ L, Rep X.K X.mg ⟨upd W1.H b (SetTO X.prog X.w b L), W1.io, W1.hd⟩ (tupP p.2) (.ref p.1) := fun p hp => Rep.mono e2.toEx.toEx0 (hk p (hL1 p hp))
              refine .inr ⟨b, L, d, B, rfl, upd_same, fun p hp => rep_tupP (hrep p hp), hd, fun p hp => ⟨(hd2 _ (hmk p hp)).1, hB _ (hmk p hp)⟩, fun L' c h2 h3 h4 h5 h6 => ?_⟩
              have hl' : ∀ p ∈ L', p ∈ L := fun p hp => h2.mem_iff.mp hp
              have en : L'.map (·.2) = srtU ltL (ks.map (·.2)) := by
                refine strict_ext so_ltL ?_ (pw_srtU so_ltL) fun x => ?_
                · rw [List.pairwise_map]
                  have h3' := List.pairwise_map.mp h3
                  refine ((h5.and h3').imp_of_mem fun {u v} hu hv ⟨c1, c2⟩ => ?_)
                  have ku := hmk u (hl' u hu)
                  have kv := hmk v (hl' v hv)
                  cases q1 : ltL u.2 v.2 with
                  | true => rfl
                  | false =>
                    cases q2 : ltL v.2 u.2 with
                    | true =>
                      have := ltL_code (by rw [(hd2 _ ku).1, (hd2 _ kv).1]) (hB _ kv) (hB _ ku) q2
                      omega
                    | false => exact absurd (ltL_tri _ _ q1 q2) c2
                · rw [mem_srtU so_ltL]
                  constructor
                  · intro hx
                    obtain ⟨p, hp, rfl⟩ := List.mem_map.mp hx
                    exact hmk p (hl' p hp)
                  · intro hx
                    obtain ⟨p, hp, rfl⟩ := List.mem_map.mp hx
                    obtain ⟨p', hp', e⟩ := List.mem_map.mp (hL2 p hp)
                    exact List.mem_map.mpr ⟨p', h2.mem_iff.mpr hp', e⟩
              have r5 := reps_of_pairs fun p hp => hrep p (hl' p hp)
              have h1' := h1.mono e2
              rw [← en] at h1'
              exact fin_lst h1' l2 r5 h6
            · exact h1.elim
          · exact h1.elim
      · exact h1.elim
    · exact h1.elim
  · exact h1.elim
/-- sorted(x): ints, texts (fewer than 64), a dict of text keys (fewer than 64) -/
def szK : List (PV × LV) → Option (List Str)
  | [] => some []
  | (.str s, _) :: r => (szK r).map (s :: ·)
  | _ :: _ => none
def zSorted (xs : List LV) (lh : LH) : Res LV := match xs with
  | [x] => (match dctOf x lh with
    | some kvs => (match szK kvs with
      | some ks => if ks.length < 64 then .ok (lS (srtD ltS ks)) lh else .stuck
      | none => .stuck)
    | none => (match lstOf x lh with
      | some ys => (match pvs ys with
        | some ps => (match izP ps with
          | some ns => .ok (lI (srtD ltZ ns)) lh
          | none => (match szP ps with
            | some ss => if ss.length < 64 then .ok (lS (srtD ltS ss)) lh else .stuck
            | none => .stuck))
        | none => .stuck)
      | none => .stuck))
  | _ => .stuck
theorem szK_some [L : LamC] [S : Susp] {K : PySem.W.Frag} {mg : Str → Option Value} {W : Wd} : ∀ {kvs : List (PV × LV)} {hs : List (Key × V)} {ks : List Str}, LRepD K mg W kvs hs → szK kvs = some ks → hs.map (·.1) = ks.map Sum.inr
  | _, _, _, .nil, h => by cases h; rfl
  | _, _, _, .cons (k := .inr s) r t, h => by
    obtain ⟨l, e, rfl⟩ := Option.map_eq_some_iff.mp (show (szK _).map (s :: ·) = some _ from h)
    rw [List.map_cons, szK_some t e]; rfl
  | _, _, _, .cons (k := .inl i) r t, h => by cases h
theorem cz_sorted [L : LamC] [S : Susp] (hc : X.calm = true) : CallZ X (.builtin "sorted") zSorted := .of (((call_sortedD hc).or cr_sortedI).or cr_sortedS) fun W E xs lh vs Q l r q => by
  unfold zSorted at q
  split at q
  · next x =>
    obtain ⟨v, rfl, r1⟩ := reps1 r
    split at q
    · next kvs hk =>
      obtain ⟨a, hs, rfl, f, r2⟩ := dct_rd l r1 hk
      split at q
      · next ks hks =>
        split at q
        · next h64 =>
          refine .inl (.inl ⟨a, hs, ks, rfl, f, szK_some r2 hks, h64, fun ys p h2 h3 h4 => ?_⟩)
          have : ys = srtD ltS ks := sorted_ext so_ltS (sortedS_pw h3) (pw_srtD so_ltS) (h2.trans perm_srtD.symm)
          subst this
          exact fin_lst q l (reps_strs _) h4
        · exact q.elim
      · exact q.elim
    · split at q
      · next ys hy =>
        obtain ⟨a, us, rfl, f, r3⟩ := lst_rd l r1 hy
        split at q
        · next ps hps =>
          have := pvs_some hps
          subst this
          split at q
          · next ns hn =>
            have := izP_some hn
            subst this
            have := reps_int r3.p
            subst this
            refine .inl (.inr ⟨a, ns, rfl, .inl f, fun ns' p h2 h3 h4 => ?_⟩)
            have : ns' = srtD ltZ ns := sorted_ext so_ltZ (h3.imp fun h => by simpa [ltZ] using h) (pw_srtD so_ltZ) (h2.trans perm_srtD.symm)
            subst this
            exact fin_lst q l (reps_ints _) h4
          · split at q
            · next ss hn =>
              have := szP_some hn
              subst this
              have := reps_str r3.p
              subst this
              split at q
              · next h64 =>
                refine .inr ⟨a, ss, rfl, .inl f, h64, fun ys p h2 h3 h4 => ?_⟩
                have : ys = srtD ltS ss := sorted_ext so_ltS (sortedS_pw h3) (pw_srtD so_ltS) (h2.trans perm_srtD.symm)
                subst this
                exact fin_lst q l (reps_strs _) h4
              · exact q.elim
            · exact q.elim
        · exact q.elim
      · exact q.elim
  · exact q.elim
def zListCD (xs : List LV) (lh : LH) : Res LV := match xs with
  | [x] => (match dctOf x lh with
    | some kvs => .ok (.pv (.lst (kvs.map (·.1)))) lh
    | none => zListC xs lh)
  | _ => .stuck
theorem lrepD_keys [L : LamC] [S : Susp] {K : PySem.W.Frag} {mg : Str → Option Value} {W : Wd} {kvs : List (PV × LV)} {hs : List (Key × V)} (r : LRepD K mg W kvs hs) : Reps K mg W (kvs.map (·.1)) (hs.map fun kv => kV kv.1) := by
  induction r with
  | nil => exact .nil
  | cons r _ ih => exact .cons (kP_rep _) ih
theorem cz_listA [L : LamC] [S : Susp] (hc : X.calm = true) : CallZ X (.type "list") zListCD := by
  obtain ⟨r2, c2, b2⟩ := cz_list (X := X)
  refine .of ((call_listD hc).or c2) fun W E xs lh vs Q l r q => ?_
  unfold zListCD at q
  split at q
  · next x =>
    split at q
    · next kvs hk =>
      obtain ⟨v, rfl, r1⟩ := reps1 r
      obtain ⟨a, hs, rfl, f, r2⟩ := dct_rd l r1 hk
      exact .inl ⟨a, hs, rfl, f, fun p hp => fin_lst q l (lrepD_keys r2) hp⟩
    · exact .inr (b2 W E _ lh vs Q l r q)
  · exact q.elim
end
end Z
namespace Z
open PySem PySem.Spec PyProof.Rows L2
def insOf (x : LV) (lh : LH) : Option (Str × List (Str × LV)) := match x with
  | .pv (.obj c fs) => some (c, fs.map fun p => (p.1, .pv p.2))
  | .ref n => (match lh[n]? with
    | some (.ins c fs) => some (c, fs)
    | _ => none)
  | _ => none
section
variable {K : PySem.W.Frag} {mg : Str → Option Value} {W : Wd} {lh : LH}
theorem RepF.l [L : LamC] [S : Susp] : ∀ {fs : List (Str × PV)} {vs : List (Str × V)}, RepF K mg W fs vs → LRepF K mg W (fs.map fun p => (p.1, .pv p.2)) vs
  | _, _, .nil => .nil
  | _, _, .cons r t => .cons r (RepF.l t)
theorem ins_rd [L : LamC] [S : Susp] {x : LV} {v : V} {c : Str} {fs : List (Str × LV)} (l : LhR K mg W lh) (r : LRep K mg W x v) (h : insOf x lh = some (c, fs)) : ∃ a C dx vfs, v = .ref a ∧ W.H a = some (.ins C dx vfs) ∧ mg c = some (.ref C) ∧ LRepF K mg W fs vfs := by
  cases x with
  | pv p =>
    cases p with
    | obj c' ys =>
      cases h
      cases r with
      | obj hH n g q => exact ⟨_, _, _, _, rfl, hH, g, q.l⟩
    | _ => cases h
  | ref n =>
    have h : (match lh[n]? with | some (.ins c fs) => some (c, fs) | _ => none) = some (c, fs) := h
    split at h
    · next c' ys e2 =>
      cases h
      obtain ⟨a, u, h1, h2, h3, hn⟩ := io_at l e2 (by intro z; cases z)
      cases h3 with
      | ins g q => exact ⟨a, _, _, _, r.2 a h1, h2, g, q⟩
    · cases h
theorem lrepF_get [L : LamC] [S : Susp] {fs : List (Str × LV)} {vs : List (Str × V)} (r : LRepF K mg W fs vs) {f : Str} {x : LV} (h : fs.lookup f = some x) : ∃ v, vs.lookup f = some v ∧ LRep K mg W x v := by
  induction r with
  | nil => cases h
  | @cons g y v xs vs r _ ih =>
    rw [List.lookup_cons] at h ⊢
    split at h
    · next e => cases h; exact ⟨v, rfl, r⟩
    · next e => exact ih h
theorem lrepF_none [L : LamC] [S : Susp] {fs : List (Str × LV)} {vs : List (Str × V)} (r : LRepF K mg W fs vs) {f : Str} (h : fs.lookup f = none) : vs.lookup f = none := by
  induction r with
  | nil => rfl
  | @cons g y v xs vs r _ ih =>
    rw [List.lookup_cons] at h ⊢
    split at h
    · cases h
    · exact ih h
theorem lrepF_len [L : LamC] [S : Susp] {fs : List (Str × LV)} {vs : List (Str × V)} (r : LRepF K mg W fs vs) : fs.length = vs.length := by
  induction r with
  | nil => rfl
  | cons _ _ ih => simp [ih]
def putL (f : Str) (v : LV) : List (Str × LV) → List (Str × LV)
  | [] => [(f, v)]
  | (g, x) :: r => if g = f then (g, v) :: r else (g, x) :: putL f v r
theorem lrepF_put [L : LamC] [S : Susp] {fs : List (Str × LV)} {vs : List (Str × V)} (r : LRepF K mg W fs vs) {x : LV} {v : V} (f : Str) (rx : LRep K mg W x v) : LRepF K mg W (putL f x fs) (putF f v vs) := by
  induction r with
  | nil => exact .cons rx .nil
  | @cons g y w xs vs r t ih =>
    unfold putL putF
    by_cases e : g = f
    · rw [if_pos e, if_pos e]; exact .cons rx t
    · rw [if_neg e, if_neg e]; exact .cons r ih
end
/-- e.f -/
def fFld (cs : List Str) (f : Str) (fe : EN → LH → Res LV) (env : EN) (lh : LH) : Res LV := (fe env lh).bind fun x lh1 => match insOf x lh1 with
  | some (c, fs) => if c ∈ cs then (match fs.lookup f with
    | some v => .ok v lh1
    | none => .stuck) else .stuck
  | none => .stuck
/-- o.f = e -/
def sFldZ (cs : List Str) (f : Str) (fo fv : EN → LH → Res LV) (env : EN) (lh : LH) : SRes := sBind env (fv env lh) fun y lh1 => sBind env (fo env lh1) fun x lh2 => match x with
  | .ref n => (match lh2[n]? with
    | some (.ins c fs) => if c ∈ cs ∧ fs.length < 1000 then .next env (lh2.set n (.ins c (putL f y fs))) else .stuck
    | _ => .stuck)
  | _ => .stuck
/-- what the written part says of the fields f of the classes cs -/
def FldF (K : PySem.W.Frag) (mg : Str → Option Value) (cs : List Str) (f : Str) : Prop := ∀ c ∈ cs, ∀ C, mg c = some (.ref C) → Cls K C ∧ NoAttr K C f
section
variable {X : Cx} {Wx : WX} {e o : Expr} {fe fo fv : EN → LH → Res LV} {cs : List Str} {f : Str} {pos pos' : Pos}
theorem fe_fld [L : LamC] [S : Susp] (hf : FldF X.K X.mg cs f) (he : FE X Wx e fe) (hb : attributeBase e f X.env (eval e X.env) = eval e X.env := by rfl) : FE X Wx (.Attribute e f pos) (fFld cs f fe) := by
  refine PE.imp (pe_fld he hb) fun σ H Q ⟨W, env, lh, hH, sr, h⟩ => ?_
  subst hH
  refine go (k := fun x lh1 => match insOf x lh1 with | some (c, fs) => if c ∈ cs then (match fs.lookup f with | some v => .ok v lh1 | none => .stuck) else .stuck | none => .stuck) sr h fun x lh1 v W1 e1 s1 r1 h1 => ?_
  split at h1
  · next c fs hx =>
    obtain ⟨a, C, dx, vfs, rfl, hH, g, r⟩ := ins_rd s1.lh r1 hx
    split at h1
    · next hc =>
      split at h1
      · next y hy =>
        obtain ⟨v, hv, rv⟩ := lrepF_get r hy
        obtain ⟨c1, c2⟩ := hf c hc C g
        exact ⟨a, C, dx, vfs, v, rfl, hH, c1, c2, hv, fin h1 s1.lh rv⟩
      · exact h1.elim
    · exact h1.elim
  · exact h1.elim
theorem fs_fld [L : LamC] [S : Susp] (hf : FldF X.K X.mg cs f) (ho : FE X Wx o fo) (hv : FE X Wx e fv) (hs : swapsWith e (some (.Attribute o f pos')) pos.line X.env = pure false := by rfl) : FS X Wx (.Assign [.Attribute o f pos'] e pos) (sFldZ cs f fo fv) := by
  refine PS.imp (ps_fld ho hv hs) fun D σ H ⟨W, env, lh, hH, sr, h⟩ => ?_
  subst hH
  refine goS sr h fun y lh1 vy W1 e1 s1 r1 h1 => ?_
  refine goS s1 h1 fun x lh2 vx W2 e2 s2 r2 h2 => ?_
  split at h2
  · next n =>
    split at h2
    · next c fs hx =>
      obtain ⟨a, u, q1, q2, q3, hn⟩ := io_at s2.lh hx (by intro z; cases z)
      have := r2.2 a q1
      subst this
      split at h2
      · next hc =>
        cases q3 with
        | @ins _ _ C dx vfs g r =>
          obtain ⟨c1, c2⟩ := hf c hc.1 C g
          refine ⟨a, C, dx, vfs, rfl, q2, c1, c2, by rw [← lrepF_len r]; exact hc.2, ?_⟩
          have hne : W2.H a ≠ none := by rw [q2]; simp
          exact h2 σ ⟨upd W2.H a (.ins C dx (putF f vy vfs)), W2.io, W2.hd⟩ (Ext.write s2.lh q1 hne) ⟨s2.lh.write q1 hne (.ins g (lrepF_put r f (r1.mono e2.toEx))), s2.sl.mono (Ext.write s2.lh q1 hne).toEx⟩
      · exact h2.elim
    · exact h2.elim
  · exact h2.elim
end
def fMethD (c m : Str) (z : List LV → LH → Res LV) (ds : List LV) (fo : EN → LH → Res LV) (fas : EN → LH → Res (List LV)) (env : EN) (lh : LH) : Res LV :=
  (fo env lh).bind fun x lh1 => match insOf x lh1 with
    | some (c', fs) => if c' = c ∧ fs.lookup m = none then (fas env lh1).bind fun xs lh2 => z (x :: (xs ++ ds)) lh2 else .stuck
    | none => .stuck
/-- what the written part says of the method m of the class c -/
def MthF (K : PySem.W.Frag) (mg : Str → Option Value) (c m : Str) (g : Addr) : Prop := ∀ C, mg c = some (.ref C) → Cls K C ∧ Meth K C m g
section
variable {X : Cx} {Wx : WX} {k : Nat} {g : Addr} {fd : FuncData} {ps : List Str} {z : List LV → LH → Res LV} {dvs : List V} {ds : List Value} {dls : List LV} {c m : Str} {p pos apos : Pos} {o e : Expr} {es : List Expr} {fo : EN → LH → Res LV} {fas : EN → LH → Res (List LV)}
def tMethSD (cl : V → Hp → Prop) (sp : Sp) (dvs : List V) (E : L2.St → XK) (ta : TE) (t : TA) : TE := fun σ H Q => ta σ H fun x H1 => cl x H1 ∧ t σ H1 fun vs H2 => sp (x :: (vs ++ dvs)) H2 Q (E σ)
def IsC (K : PySem.W.Frag) (m : Str) (g : Addr) (x : V) (H : Hp) : Prop := ∃ a C dx fs, x = .ref a ∧ H a = some (.ins C dx fs) ∧ fs.lookup m = none ∧ Cls K C ∧ Meth K C m g
theorem pe_methSD {pl : Sem Bool} {sp : Sp} {E : L2.St → XK} {CX : CXT} {ta : TE} {t : TA} (he : PE X o ta) (F : FnOk X.prog X.w X.K X.mg X.base CX k g fd ps sp) (hr : Room k X.A) (hb : Binds X.K fd ps ds) (hd : Vals dvs ds) (hx : ∀ σ, PassesAt CX X σ (E σ)) (ha : PA X (e :: es) t)
    (hst : starEach (e :: es) X.env = (false, eval e X.env) :: starEach es X.env) (hpl : (backTo pos (starEach es X.env)).any (·.1) = false)
    (ht : eval (.Call (.Attribute o m apos) (e :: es) [] pos) X.env = (do
      let ov ← eval o X.env
      standAt apos.atName
      let (f, first) ← holding [ov] (getMethod ov m pl)
      callWith pos f first (backTo pos (starEach (e :: es) X.env)) (backToKw pos (keywordEach [] X.env)))) :
    PE X (.Call (.Attribute o m apos) (e :: es) [] pos) (tMethSD (IsC X.K m g) sp dvs E ta t) := by
  refine ⟨fun pins s σ H Q J hh => PySem.W.methodCall_KW (pl := pl) (thn (he.run pins s σ H _ J hh) fun u1 t1 ⟨x, H1, J1, rx, ⟨a, C, dx, fs, ex, ea, l, cl, mt⟩, q⟩ => ?_) ht⟩
  subst ex
  cases rx
  refine getmeth_ok J1 ea cl mt l (PySem.W.callWith_K (first := [.ref a]) (h₀ := X.base) J1.ok.mod.kin mt.kp (thn (ha.run pos pins t1 σ H1 _ J1 q) fun us t2 ⟨vs, H2, J2, r, q2⟩ => ⟨J2.kIn, ?_⟩) hst hpl)
  exact run_fnSD (us := .ref a :: us) (vs := .ref a :: vs) F hr hb hd (hx σ) J2 (.cons rfl r) q2
theorem meth_of [L : LamC] [S : Susp] {W : Wd} {σ : L2.St} {env : EN} {lh : LH} {Q : VK} (hm : MthF X.K X.mg c m g) (hdl : ∀ W, LReps X.K X.mg W dls dvs) (hn : ∀ env lh xs lh', fas env lh = .ok xs lh' → xs.length + 1 + dls.length = ps.length) (sr : SR X.K X.mg W σ env lh)
    (h : tR X.K X.mg (LRep X.K X.mg) W (WE Wx σ) (fMethD c m z dls fo fas env lh) Q) : tMethSD (IsC X.K m g) (SpZ X.K X.mg ps.length z) dvs (WE Wx) (tF X.K X.mg Wx fo) (tFs X.K X.mg Wx fas) σ W.H Q := by
  refine go (k := fun x lh1 => match insOf x lh1 with
    | some (c', fs) => if c' = c ∧ fs.lookup m = none then (fas env lh1).bind fun xs lh2 => z (x :: (xs ++ dls)) lh2 else .stuck
    | none => .stuck) sr h fun x lh1 v W1 e1 s1 r1 h1 => ?_
  split at h1
  · next c' fs hx =>
    split at h1
    · next hc =>
      obtain ⟨a, C, dx, vfs, rfl, hH, gC, r⟩ := ins_rd s1.lh r1 hx
      obtain ⟨cl, mt⟩ := hm C (hc.1 ▸ gC)
      refine ⟨⟨a, C, dx, vfs, rfl, hH, lrepF_none r hc.2, cl, mt⟩, ?_⟩
      cases q : fas env lh1 with
      | ok xs lh2 =>
        refine ⟨W1, env, lh1, rfl, s1, ?_⟩
        rw [q] at h1 ⊢
        intro vs W2 e2 l2 r2
        have r3 := LReps.cons (r1.mono e2.toEx) (r2.append (hdl W2))
        exact ⟨by rw [← r3.length]; simp; have := hn _ _ _ _ q; omega, W2, x :: (xs ++ dls), lh2, rfl, l2, r3, h1.mono e2⟩
      | exc y lh2 => refine ⟨W1, env, lh1, rfl, s1, ?_⟩; rw [q] at h1 ⊢; exact h1
      | stuck => rw [q] at h1; exact h1.elim
    · exact h1.elim
  · exact h1.elim
theorem fe_meth [L : LamC] [S : Susp] {pl : Sem Bool} (tk : Takes X Wx) (hm : MthF X.K X.mg c m g) (F : FnOk X.prog X.w X.K X.mg X.base (L2.CX X.prog X.w) k g fd ps (SpZ X.K X.mg ps.length z)) (hr : Room k X.A) (hb : Binds X.K fd ps ds) (hd : Vals dvs ds) (hdl : ∀ W, LReps X.K X.mg W dls dvs)
    (ho : FE X Wx o fo) (ha : FA X Wx (e :: es) fas) (hn : ∀ env lh xs lh', fas env lh = .ok xs lh' → xs.length + 1 + dls.length = ps.length)
    (hst : starEach (e :: es) X.env = (false, eval e X.env) :: starEach es X.env := by rfl) (hpl : (backTo pos (starEach es X.env)).any (·.1) = false := by rfl)
    (ht : eval (.Call (.Attribute o m apos) (e :: es) [] pos) X.env = (do
      let ov ← eval o X.env
      standAt apos.atName
      let (f, first) ← holding [ov] (getMethod ov m pl)
      callWith pos f first (backTo pos (starEach (e :: es) X.env)) (backToKw pos (keywordEach [] X.env))) := by rfl) :
    FE X Wx (.Call (.Attribute o m apos) (e :: es) [] pos) (fMethD c m z dls fo fas) :=
  PE.imp (pe_methSD ho F hr hb hd (fun σ => passAt tk σ) ha hst hpl ht) fun σ H Q ⟨W, env, lh, hH, sr, h⟩ => by
    subst hH
    exact meth_of hm hdl hn sr h
end
end Z
namespace Z
open PySem PySem.Spec PyProof.Rows L2
/-- frozen as it is made -/
def zMakeF (c : Str) (z : List LV → LH → Res LV) (xs : List LV) (lh : LH) : Res LV := match z (.ref lh.length :: xs) (lh ++ [.ins c []]) with
  | .ok (.pv .non) lh' => (match lh'[lh.length]? with
    | some o => (match frzO o with
      | some p => .ok (.pv p) (clean lh (lh'.set lh.length .dead))
      | none => .stuck)
    | none => .stuck)
  | .exc e lh' => .exc e (clean lh lh')
  | _ => .stuck
/-- what is made is what z says -/
def ZMk [L : LamC] [S : Susp] (K : PySem.W.Frag) (mg : Str → Option Value) (n : Nat) (c : Str) (z y : List LV → LH → Res LV) : Prop :=
  ∀ (W : Wd) (lh : LH) (xs : List LV) (vs : List V) (C x dx : Addr) (E : XK) (Q : VK), LhR K mg W lh → LReps K mg W xs vs → xs.length + 1 = n → mg c = some (.ref C) → W.H x = none → W.H dx = none → dx ≠ x → tR K mg (LRep K mg) W E (y xs lh) Q →
    SpZ K mg n z (.ref x :: vs) (upd (upd W.H dx (.own x)) x (.ins C dx [])) (fun v H2 => v = .non ∧ Q (.ref x) H2) E
section
variable {K : PySem.W.Frag} {mg : Str → Option Value}
theorem made_world [L : LamC] [S : Susp] {W : Wd} {lh : LH} {c : Str} {C x dx : Addr} (l : LhR K mg W lh) (g : mg c = some (.ref C)) (hx : W.H x = none) (hdx : W.H dx = none) (ne : dx ≠ x) :
    Ext W ⟨upd (upd W.H dx (.own x)) x (.ins C dx []), W.io ++ [some x], W.hd⟩ ∧ LhR K mg ⟨upd (upd W.H dx (.own x)) x (.ins C dx []), W.io ++ [some x], W.hd⟩ (lh ++ [.ins c []]) := by
  have e1 := Ext.new (o := .own x) l hdx
  have l1 := l.new (o := .own x) hdx
  have hx1 : upd W.H dx (.own x) x = none := by rw [upd_ne (Ne.symm ne)]; exact hx
  exact ⟨e1.trans (Ext.newM (W := ⟨upd W.H dx (.own x), W.io, W.hd⟩) l1 hx1), LhR.newM (W := ⟨upd W.H dx (.own x), W.io, W.hd⟩) l1 hx1 (.ins g .nil)⟩
theorem ref_new [L : LamC] [S : Susp] {W : Wd} {lh : LH} {x : Addr} {H : Hp} {hd : List Addr} (l : LhR K mg W lh) : LRep K mg ⟨H, W.io ++ [some x], hd⟩ (.ref lh.length) (.ref x) :=
  ⟨by simp [l.len], fun a h => by
    have h : (W.io ++ [some x])[lh.length]? = some (some a) := h
    rw [l.len, List.getElem?_append_right (Nat.le_refl _)] at h
    have : x = a := by simpa using h
    rw [this]⟩
theorem zMk_F [L : LamC] [S : Susp] {n : Nat} {c : Str} {z : List LV → LH → Res LV} : ZMk K mg n c z (zMakeF c z) := by
  intro W lh xs vs C x dx E Q l r hn g hx hdx ne h
  obtain ⟨e1, l1⟩ := made_world l g hx hdx ne
  refine ⟨by rw [List.length_cons, ← r.length]; exact hn, _, .ref lh.length :: xs, lh ++ [.ins c []], rfl, l1, .cons (ref_new l) (r.mono e1.toEx), ?_⟩
  unfold zMakeF at h
  split at h
  · next lh' q =>
    rw [q]
    intro v W2 e2 l2 r2
    cases r2
    refine ⟨rfl, ?_⟩
    split at h
    · next o ho =>
      split at h
      · next p hp =>
        obtain ⟨a, u, h1, h2, h3, hlt⟩ := io_at l2 ho (by intro z; subst z; cases hp)
        have hv := (LRep.mono e2.toEx (ref_new (x := x) (H := upd (upd W.H dx (.own x)) x (.ins C dx [])) (hd := W.hd) l)).2 a h1
        cases hv
        obtain ⟨e3, l3, nm⟩ := frz_ok l2 h1
        obtain ⟨W4, hH, x0, e4, l4⟩ := clean_ok l ((e1.trans e2).trans e3) l3
        have := h (.ref x) W4 e4 l4 (Rep.mono x0 (frzO_rep (h3.mono e3.toEx) hp h2 nm))
        rw [hH] at this
        exact this
      · exact h.elim
    · exact h.elim
  · next y lh' q =>
    rw [q]
    intro cc d W2 e2 l2 xr
    obtain ⟨W4, hH, x0, e4, l4⟩ := clean_ok l (e1.trans e2) l2
    have := h cc d W4 e4 l4 (xr.ex0 hH x0)
    rw [hH] at this
    exact this
  · exact h.elim
end
section
variable {X : Cx} {CX : CXT} {k n : Nat} {g C : Addr} {fd : FuncData} {ps ks : List Str} {sp : Sp} {E : L2.St → XK} {x : Str} {p pos : Pos} {e : Expr} {es : List Expr} {kws : List Keyword} {t tk : TA} {bnd : List Value → List Value → List Value} {bV : List V → List V → List V} {dvs : List V} {ds : List Value}
def tMkKSD (C : Addr) (n m : Nat) (sp : Sp) (bV : List V → List V → List V) (E : L2.St → XK) (t tk : TA) : TE := fun σ H Q => t σ H fun vs H1 => tk σ H1 fun zs H2 => vs.length = n ∧ zs.length = m ∧ ∀ x dx, H2 x = none → H2 dx = none → dx ≠ x →
  sp (bV (.ref x :: vs) zs) (upd (upd H2 dx (.own x)) x (.ins C dx [])) (fun v H3 => v = .non ∧ Q (.ref x) H3) (E σ)
theorem end_make {pins : List (Addr × Obj)} {σ : L2.St} {s : Shared} {Q : VK} {u : Value} {s' : Shared} (q : ∃ v H', Inv X pins σ H' s' ∧ RelV v u ∧ (v = .non ∧ Q (.ref (s.heap.objs.size + 1)) H')) : u = .none ∧ EP X pins σ Q (.ref (s.heap.objs.size + 1)) s' := by
  obtain ⟨v, H', I3, rv, ev, q3⟩ := q
  subst ev
  exact ⟨rv, ⟨V.ref (s.heap.objs.size + 1), H', I3, rfl, q3⟩⟩
theorem run_mkKSD {pins : List (Addr × Obj)} {σ : L2.St} {H : Hp} {s : Shared} {Q : VK} {us ws : List Value} {vs zs : List V} (M : L2.Mk X.K C g) (F : FnOk X.prog X.w X.K X.mg X.base CX k g fd ps sp) (hr : Room (k + 1) X.A) (hb : KBn X.K fd ps (n + 1) ks bnd bV)
    (hx : PassesAt CX X σ (E σ)) (J : Inv X pins σ H s) (r : Vals vs us) (rz : Vals zs ws) (l1 : vs.length = n) (l2 : zs.length = ks.length)
    (hh : ∀ x dx, H x = none → H dx = none → dx ≠ x → sp (bV (.ref x :: vs) zs) (upd (upd H dx (.own x)) x (.ins C dx [])) (fun v H2 => v = .non ∧ Q (.ref x) H2) (E σ)) :
    wpAny (model X.prog X.w) X.A (call (.ref C) us (ks.zip ws)) (EP X pins σ Q) X.xe s := by
  have q0 := hh (s.heap.objs.size + 1) s.heap.objs.size (J.hok.fresh (Nat.le_succ _)) (J.hok.fresh (Nat.le_refl _)) (Nat.ne_of_lt (Nat.lt_succ_self _))
  have J2 := Inv.made (C := C) J
  have rr : Vals (V.ref (s.heap.objs.size + 1) :: vs) (Value.ref (s.heap.objs.size + 1) :: us) := .cons rfl r
  have len : (Value.ref (s.heap.objs.size + 1) :: us).length = n + 1 := by simp [← r.length, l1]
  have run := F.run (X.A.under (.builtin "type.__call__" ⟨.ref C :: us, ks.zip ws⟩)) X.stack _ _ ⟨Value.ref (s.heap.objs.size + 1) :: us, ks.zip ws⟩ (bnd (Value.ref (s.heap.objs.size + 1) :: us) ws) _ _ (E σ) (hr.make C us (ks.zip ws)) (J2.env0.make C us (ks.zip ws))
    (hb.to _ (Value.ref (s.heap.objs.size + 1) :: us) ws J2.kIn len (rz.length.symm.trans l2)) (hb.rel rr rz) q0
  refine wpAny_call (make_map (f := g) J.kIn M.makes M.init (beq_iff_eq.mp M.fn) (codeAny_mono run fun r1 s1 q1 => ?_))
  cases r1 with
  | error er => exact hx pins _ _ er s1 J2 q1
  | ok flow =>
    cases flow with
    | ret u => exact end_make (J2.after q1)
    | next => exact q1.elim
    | brk => exact q1.elim
    | cont => exact q1.elim
theorem pe_mkKSD (M : L2.Mk X.K C g) (F : FnOk X.prog X.w X.K X.mg X.base CX k g fd ps sp) (hr : Room (k + 1) X.A) (hg : Gl X x) (hm : X.mg x = some (.ref C)) (hb : KBn X.K fd ps (n + 1) ks bnd bV) (hx : ∀ σ, PassesAt CX X σ (E σ)) (ha : PA X (e :: es) t) (hkw : PK X kws tk)
    (hall : (backToKw pos (keywordEach kws X.env)).all (·.1.isSome) = true) (hks : (backToKw pos (keywordEach kws X.env)).filterMap (·.1) = ks) (hdb : (x == ("__debug__" : Str)) = false)
    (hst : starEach (e :: es) X.env = (false, eval e X.env) :: starEach es X.env) (hpl : ((backTo pos (starEach (e :: es) X.env)).any (·.1) || (backToKw pos (keywordEach kws X.env)).any (·.1.isNone)) = false) :
    PE X (.Call (.Name x p) (e :: es) kws pos) (tMkKSD C n ks.length sp bV E t tk) := by
  refine ⟨fun pins s σ H Q J hh => wpAny_Call_Name_kw (ld_glob J hg hm (PySem.W.callWith_KW (h₀ := X.base) J.ok.mod.kin M.kp hall (thn (ha.run pos pins s σ H _ J hh) fun us t1 ⟨vs, H1, J1, r, q⟩ => ?_) hpl hst) hdb)⟩
  refine thn (hkw.run pos pins t1 σ H1 _ J1 q) fun ws t2 ⟨zs, H2, J2, rz, l1, l2, q2⟩ => ⟨J2.kIn, ?_⟩
  rw [hks]
  exact run_mkKSD M F hr hb (hx σ) J2 r rz l1 l2 q2
end
abbrev FK [L : LamC] [S : Susp] (X : Cx) (Wx : WX) (kws : List Keyword) (f : EN → LH → Res (List LV)) : Prop := PK X kws (tFs X.K X.mg Wx f)
theorem PK.imp {X : Cx} {e : List Keyword} {t t' : TA} (h : PK X e t) (i : ∀ σ H Q, t' σ H Q → t σ H Q) : PK X e t' := ⟨fun pos pins s σ H Q I q => h.run pos pins s σ H Q I (i σ H Q q)⟩
section
variable {X : Cx} {Wx : WX} {a : Expr} {fa : EN → LH → Res LV} {kpos : Pos} {nm : Option Str}
theorem fk_nil [L : LamC] [S : Susp] : FK X Wx [] fNil := PK.imp pk_nil fun σ H Q ⟨W, env, lh, hH, sr, h⟩ => hH ▸ fin h sr.lh .nil
theorem fk_cons [L : LamC] [S : Susp] {kws : List Keyword} {fr : EN → LH → Res (List LV)} (ha : FE X Wx a fa) (hr : FK X Wx kws fr) : FK X Wx (⟨nm, a, kpos⟩ :: kws) (fCons fa fr) := by
  refine PK.imp (pk_cons ha hr) fun σ H Q ⟨W, env, lh, hH, sr, h⟩ => ?_
  subst hH
  refine go (k := fun x lh1 => (fr env lh1).bind fun xs lh2 => .ok (x :: xs) lh2) sr h fun x lh1 v W1 e1 s1 r1 h1 => ?_
  refine go (k := fun xs lh2 => .ok (x :: xs) lh2) s1 h1 fun xs lh2 vs W2 e2 s2 r2 h2 => ?_
  exact fin h2 s2.lh (.cons (r1.mono e2.toEx) r2)
end
def fMakeD (y : List LV → LH → Res LV) (ds : List LV) (fas : EN → LH → Res (List LV)) (env : EN) (lh : LH) : Res LV := (fas env lh).bind fun xs lh1 => y (xs ++ ds) lh1
/-- what is bound: positional xs, keywords zs -/
def fMakeK (y : List LV → LH → Res LV) (b : List LV → List LV → List LV) (fas fks : EN → LH → Res (List LV)) (env : EN) (lh : LH) : Res LV := (fas env lh).bind fun xs lh1 => (fks env lh1).bind fun zs lh2 => y (b xs zs) lh2
section
variable {X : Cx} {Wx : WX} {k n : Nat} {g C : Addr} {fd : FuncData} {ps ks : List Str} {z y : List LV → LH → Res LV} {x c : Str} {p pos : Pos} {e : Expr} {es : List Expr} {kws : List Keyword} {fas fks : EN → LH → Res (List LV)} {bnd : List Value → List Value → List Value} {bV : List V → List V → List V} {b : List LV → List LV → List LV} {dvs : List V} {ds : List Value} {dls : List LV}
theorem fe_makeK [L : LamC] [S : Susp] (hz : ZMk X.K X.mg ps.length x z y) (tk : Takes X Wx) (M : L2.Mk X.K C g) (F : FnOk X.prog X.w X.K X.mg X.base (L2.CX X.prog X.w) k g fd ps (SpZ X.K X.mg ps.length z)) (hr : Room (k + 1) X.A) (hg : Gl X x) (hm : X.mg x = some (.ref C)) (hb : KBn X.K fd ps (n + 1) ks bnd bV)
    (hbl : ∀ W xs vs zs us (a : V), LReps X.K X.mg W xs vs → LReps X.K X.mg W zs us → xs.length = n → zs.length = ks.length → (b xs zs).length + 1 = ps.length ∧ ∃ vs', bV (a :: vs) us = a :: vs' ∧ LReps X.K X.mg W (b xs zs) vs')
    (ha : FA X Wx (e :: es) fas) (hk : FK X Wx kws fks) (hn : ∀ env lh xs lh', fas env lh = .ok xs lh' → xs.length = n) (hn2 : ∀ env lh xs lh', fks env lh = .ok xs lh' → xs.length = ks.length)
    (hall : (backToKw pos (keywordEach kws X.env)).all (·.1.isSome) = true := by rfl) (hks : (backToKw pos (keywordEach kws X.env)).filterMap (·.1) = ks := by rfl) (hdb : (x == ("__debug__" : Str)) = false := by decide)
    (hst : starEach (e :: es) X.env = (false, eval e X.env) :: starEach es X.env := by rfl) (hpl : ((backTo pos (starEach (e :: es) X.env)).any (·.1) || (backToKw pos (keywordEach kws X.env)).any (·.1.isNone)) = false := by rfl) :
    FE X Wx (.Call (.Name x p) (e :: es) kws pos) (fMakeK y b fas fks) := by
  refine PE.imp (pe_mkKSD (E := WE Wx) M F hr hg hm hb (fun σ => passAt tk σ) ha hk hall hks hdb hst hpl) fun σ H Q ⟨W, env, lh, hH, sr, h⟩ => ?_
  subst hH
  cases q : fas env lh with
  | ok xs lh1 =>
    refine ⟨W, env, lh, rfl, sr, ?_⟩
    unfold fMakeK at h
    rw [q] at h ⊢
    intro vs W1 e1 l1 r1
    have h := h.mono e1
    rw [Res.bind_ok] at h
    cases q2 : fks env lh1 with
    | ok zs lh2 =>
      refine ⟨W1, env, lh1, rfl, sr.mono e1 l1, ?_⟩
      rw [q2] at h ⊢
      intro us W2 e2 l2 r2
      have h := h.mono e2
      have n1 := hn _ _ _ _ q
      have n2 := hn2 _ _ _ _ q2
      refine ⟨by rw [← r1.length]; exact n1, by rw [← r2.length]; exact n2, fun a dx ha hdx ne => ?_⟩
      obtain ⟨n3, vs', e3, r3⟩ := hbl W2 xs vs zs us (.ref a) (r1.mono e2.toEx) r2 n1 n2
      rw [e3]
      exact hz W2 lh2 (b xs zs) vs' C a dx _ Q l2 r3 n3 hm ha hdx ne h
    | exc er lh2 => refine ⟨W1, env, lh1, rfl, sr.mono e1 l1, ?_⟩; rw [q2] at h ⊢; exact h
    | stuck => rw [q2] at h; exact h.elim
  | exc er lh1 => refine ⟨W, env, lh, rfl, sr, ?_⟩; unfold fMakeK at h; rw [q] at h ⊢; exact h
  | stuck => unfold fMakeK at h; rw [q] at h; exact h.elim
end
end Z
namespace Z
open PySem PySem.Spec PyProof.Rows L2
section
variable {X : Cx} {k : Nat} {g : Addr} {fd : FuncData} {ps : List Str} {z : List LV → LH → Res LV} {c : Str}
theorem inst_at {pins : List (Addr × Obj)} {σ : L2.St} {H : Hp} {s : Shared} {a C dx : Addr} {fs : List (Str × V)} (J : Inv X pins σ H s) (e : H a = some (.ins C dx fs)) : ∃ od, PySem.W.InstAt s.heap a (PySem.W.instObj C dx) C od := by
  obtain ⟨mA, O, _⟩ := ins_get J.hok e
  obtain ⟨od, I, _⟩ := O.look
  exact ⟨_, I⟩
def blNeg (neg : Bool) (r : Res LV) : Res LV := match r with
  | .ok (.pv (.bl b)) lh => .ok (.pv (.bl (xor neg b))) lh
  | _ => .stuck
end
def fChain (z z' : LV → LV → LH → Res LV) (fa fb fc : EN → LH → Res LV) (env : EN) (lh : LH) : Res LV := (fa env lh).bind fun x lh1 => (fb env lh1).bind fun y lh2 => (z x y lh2).bind fun r lh3 => (asB r lh3).bind fun b lh4 =>
  if b = true then (fc env lh4).bind fun w lh5 => z' y w lh5 else .ok (.pv (.bl false)) lh4
section
variable {X : Cx} {Wx : WX} {a b c : Expr} {fa fb fc : EN → LH → Res LV} {z z' : LV → LV → LH → Res LV} {op op' : CmpOp} {pos : Pos}
def tbl (r : R2) : R2 := fun x y H Q => r x y H Q
theorem chain_of [L : LamC] [S : Susp] {r r' : R2} {W : Wd} {σ : L2.St} {env : EN} {lh : LH} {Q : VK}
    (h2 : ∀ (W : Wd) (E : XK) (x y : LV) (lh : LH) (v w : V) (Q : VK), LhR X.K X.mg W lh → LRep X.K X.mg W x v → LRep X.K X.mg W y w → tR X.K X.mg (LRep X.K X.mg) W E (z x y lh) Q → r v w W.H Q)
    (h2' : ∀ (W : Wd) (E : XK) (x y : LV) (lh : LH) (v w : V) (Q : VK), LhR X.K X.mg W lh → LRep X.K X.mg W x v → LRep X.K X.mg W y w → tR X.K X.mg (LRep X.K X.mg) W E (z' x y lh) Q → r' v w W.H Q)
    (hx : ∀ x y lh e lh', z x y lh ≠ .exc e lh') (sr : SR X.K X.mg W σ env lh) (h : tR X.K X.mg (LRep X.K X.mg) W (WE Wx σ) (fChain z z' fa fb fc env lh) Q) :
    tChain r r' (tF X.K X.mg Wx fa) (tF X.K X.mg Wx fb) (tF X.K X.mg Wx fc) σ W.H Q := by
  refine go (k := fun x lh1 => (fb env lh1).bind fun y lh2 => (z x y lh2).bind fun r lh3 => (asB r lh3).bind fun b lh4 => if b = true then (fc env lh4).bind fun w lh5 => z' y w lh5 else .ok (.pv (.bl false)) lh4) sr h fun x lh1 v W1 e1 s1 r1 h1 => ?_
  refine go (k := fun y lh2 => (z x y lh2).bind fun r lh3 => (asB r lh3).bind fun b lh4 => if b = true then (fc env lh4).bind fun w lh5 => z' y w lh5 else .ok (.pv (.bl false)) lh4) s1 h1 fun y lh2 w W2 e2 s2 r2 h3 => ?_
  refine h2 W2 (fun _ _ _ => False) x y lh2 v w _ s2.lh (r1.mono e2.toEx) r2 ?_
  cases q : z x y lh2 with
  | ok t lh3 =>
    rw [q] at h3
    intro u W3 e3 l3 r3
    have h3 := h3.mono e3
    rw [Res.bind_ok] at h3
    obtain ⟨bb, rfl, rfl, h4⟩ := asB_of r3 h3
    refine ⟨bb, rfl, ?_⟩
    cases bb with
    | true =>
      rw [if_pos rfl]
      have s3 := s2.mono e3 l3
      refine go (k := fun w lh5 => z' y w lh5) s3 h4 fun w' lh5 u' W4 e4 s4 r4 h5 => ?_
      exact h2' W4 _ y w' lh5 w u' Q s4.lh ((r2.mono e3.toEx).mono e4.toEx) r4 h5
    | false =>
      rw [if_neg (by simp)]
      exact fin h4 l3 Rep.bl
  | exc er lh3 => exact absurd q (hx x y lh2 er lh3)
  | stuck => rw [q] at h3; exact h3.elim
theorem fe_chain [L : LamC] [S : Susp] (ho : OpZ X (compareOp op) z) (ho' : OpZ X (compareOp op') z') (hx : ∀ x y lh e lh', z x y lh ≠ .exc e lh') (ha : FE X Wx a fa) (hb : FE X Wx b fb) (hc : FE X Wx c fc) (hm : lastMarks [op, op'] [b, c] = false := by with_unfolding_all rfl) :
    FE X Wx (.Compare a [op, op'] [b, c] pos) (fChain z z' fa fb fc) := by
  obtain ⟨r, h1, h2⟩ := ho
  obtain ⟨r', h1', h2'⟩ := ho'
  refine PE.imp (pe_chain h1 h1' ha hb hc hm) fun σ H Q ⟨W, env, lh, hH, sr, h⟩ => ?_
  subst hH
  exact chain_of h2 h2' hx sr h
theorem ft_chain [L : LamC] [S : Susp] (ho : OpZ X (compareOp op) z) (ho' : OpZ X (compareOp op') z') (hx : ∀ x y lh e lh', z x y lh ≠ .exc e lh') (ha : FE X Wx a fa) (hb : FE X Wx b fb) (hc : FE X Wx c fc) (hm : lastMarks [op, op'] [b, c] = false := by with_unfolding_all rfl) :
    FT X Wx (.Compare a [op, op'] [b, c] pos) (tV (fChain z z' fa fb fc)) := by
  obtain ⟨r, h1, h2⟩ := ho
  obtain ⟨r', h1', h2'⟩ := ho'
  refine PT.imp (pt_chain h1 h1' ha hb hc hm) fun σ H Q ⟨W, env, lh, hH, sr, h⟩ => ?_
  subst hH
  refine chain_of h2 h2' hx sr ?_
  unfold tV at h
  cases q : fChain z z' fa fb fc env lh with
  | ok x lh1 =>
    rw [q] at h
    intro v W1 e1 l1 r1
    exact bl_of l1 r1 (h.mono e1)
  | exc er lh1 => rw [q] at h; exact h
  | stuck => rw [q] at h; exact h.elim
def sPar (i j : Nat) (fas : EN → LH → Res (List LV)) (env : EN) (lh : LH) : SRes := sBind env (fas env lh) fun xs lh1 => match xs with
  | [x, y] => .next ((env.set i (some x)).set j (some y)) lh1
  | _ => .stuck
theorem fs_par [L : LamC] [S : Susp] {i j : Nat} {x y : Str} {fas : EN → LH → Res (List LV)} {px py pt : Pos} {kt k2 pt2} (hc : X.calm = true) (hN : X.N.Nodup) (hi : X.N[i]? = some x) (hj : X.N[j]? = some y) (hij : i ≠ j) (hx : X.env.scope.names.lookup x = some .local) (hy : X.env.scope.names.lookup y = some .local) (ha : FA X Wx [a, b] fas)
    (hw : swappedStores [.Tuple [.Name x px, .Name y py] kt pt] (.Tuple [a, b] k2 pt2) X.env = pure (some [x, y]) := by rfl) (hs : swapsWithSole [.Tuple [.Name x px, .Name y py] kt pt] (.Tuple [a, b] k2 pt2) pos.line X.env = pure false := by rfl) :
    FS X Wx (.Assign [.Tuple [.Name x px, .Name y py] kt pt] (.Tuple [a, b] k2 pt2) pos) (sPar i j fas) := by
  refine PS.imp (ps_par hc hN hi hj hij hx hy ha hw hs) fun D σ H ⟨W, env, lh, hH, sr, h⟩ => ?_
  subst hH
  refine goS sr h fun xs lh1 vs W1 e1 s1 r1 h1 => ?_
  split at h1
  · cases r1 with
    | cons r r' => cases r' with
      | cons r2 r' => cases r'; exact ⟨_, _, rfl, h1 _ W1 (Ext.refl W1) ((s1.set r i).set r2 j)⟩
  · exact h1.elim
end
def sNoX (b : EN → LH → SRes) (env : EN) (lh : LH) : SRes := match b env lh with
  | .exc _ _ _ => .stuck
  | r => r
theorem fss_noX [L : LamC] [S : Susp] {X : Cx} {Wx : WX} {sts : List Stmt} {b : EN → LH → SRes} (h : FSs X WF sts b) : FSs X Wx sts (sNoX b) := PSs.imp h fun D σ H ⟨W, env, lh, hH, sr, h⟩ => by
  refine ⟨W, env, lh, hH, sr, ?_⟩
  unfold sNoX at h
  cases q : b env lh <;> rw [q] at h <;> first | exact h | exact (show False from h).elim
end Z
namespace Z
open PySem PySem.Spec PyProof.Rows L2
abbrev FPr : Type := (EN → LH → Res LV) × (EN → LH → Res LV)
def fPairs : List FPr → EN → LH → Res (List (LV × LV))
  | [], _, lh => .ok [] lh
  | (fk, fv) :: r, env, lh => (fk env lh).bind fun k lh1 => (fv env lh1).bind fun v lh2 => (fPairs r env lh2).bind fun xs lh3 => .ok ((k, v) :: xs) lh3
def keysOf : List (LV × LV) → Option (List (PV × LV))
  | [] => some []
  | (.pv k, v) :: r => if isKey k = true then (keysOf r).map ((k, v) :: ·) else none
  | (.ref _, _) :: _ => none
def mergeD (acc more : List (PV × LV)) : List (PV × LV) := more.foldl (fun a kv => putD a kv.1 kv.2) acc
section
variable (K : PySem.W.Frag) (mg : Str → Option Value)
inductive LRepP [L : LamC] [S : Susp] (W : Wd) : List (LV × LV) → List (V × V) → Prop
  | nil : LRepP W [] []
  | cons {k x v u xs vs} : LRep K mg W k v → LRep K mg W x u → LRepP W xs vs → LRepP W ((k, x) :: xs) ((v, u) :: vs)
end
section
variable {K : PySem.W.Frag} {mg : Str → Option Value} {Wx : WX}
abbrev trsOf [L : LamC] [S : Susp] (K : PySem.W.Frag) (mg : Str → Option Value) (Wx : WX) (ps : List FPr) : List (TE × TE) := ps.map fun p => (tF K mg Wx p.1, tF K mg Wx p.2)
theorem LRepP.mono [L : LamC] [S : Susp] {W W' : Wd} (e : Ex W W') {xs : List (LV × LV)} {vs : List (V × V)} (h : LRepP K mg W xs vs) : LRepP K mg W' xs vs := by
  induction h with
  | nil => exact .nil
  | cons r1 r2 _ ih => exact .cons (r1.mono e) (r2.mono e) ih
theorem bind_ok_of {α β : Type} {r : Res α} {k : α → LH → Res β} {b : β} {lh : LH} (h : r.bind k = .ok b lh) : ∃ a lh1, r = .ok a lh1 ∧ k a lh1 = .ok b lh := by
  cases r with
  | ok a lh1 => exact ⟨a, lh1, rfl, h⟩
  | exc => cases h
  | stuck => cases h
theorem tPairs_of [L : LamC] [S : Susp] {σ : L2.St} {env : EN} : ∀ (ps : List FPr) {W : Wd} {lh lh1 : LH} {xs : List (LV × LV)} {Q : List (V × V) → Hp → Prop}, SR K mg W σ env lh → fPairs ps env lh = .ok xs lh1 →
    (∀ W' vs, Ext W W' → LhR K mg W' lh1 → LRepP K mg W' xs vs → Q vs W'.H) → tPairs (trsOf K mg Wx ps) σ W.H Q
  | [], W, lh, lh1, xs, Q, sr, h, q => by
    cases h
    exact q W [] (Ext.refl W) sr.lh .nil
  | (fk, fv) :: r, W, lh, lh1, xs, Q, sr, h, q => by
    obtain ⟨k, l1, e1, h⟩ := bind_ok_of h
    obtain ⟨v, l2, e2, h⟩ := bind_ok_of h
    obtain ⟨ys, l3, e3, h⟩ := bind_ok_of h
    cases h
    refine ⟨W, env, lh, rfl, sr, ?_⟩
    show tR K mg (LRep K mg) W (WE Wx σ) (fk env lh) _
    rw [e1]
    intro vk W1 x1 h1 r1
    refine ⟨W1, env, l1, rfl, sr.mono x1 h1, ?_⟩
    show tR K mg (LRep K mg) W1 (WE Wx σ) (fv env l1) _
    rw [e2]
    intro vv W2 x2 h2 r2
    refine tPairs_of r ((sr.mono x1 h1).mono x2 h2) e3 fun W' vs x3 h3 r3 => ?_
    exact q W' ((vk, vv) :: vs) ((x1.trans x2).trans x3) h3 (.cons ((r1.mono x2.toEx).mono x3.toEx) (r2.mono x3.toEx) r3)
theorem keysOf_rep [L : LamC] [S : Susp] {W : Wd} : ∀ {xs : List (LV × LV)} {vs : List (V × V)} {kvs : List (PV × LV)}, LRepP K mg W xs vs → keysOf xs = some kvs → ∃ hs : List (Key × V), vs = hs.map (fun kv => (kV kv.1, kv.2)) ∧ LRepD K mg W kvs hs ∧ hs.length = xs.length
  | [], _, _, .nil, h => by cases h; exact ⟨[], rfl, .nil, rfl⟩
  | (.pv k, x) :: xs, _, _, .cons r1 r2 t, h => by
    unfold keysOf at h
    split at h
    · next hk =>
      obtain ⟨l, e, rfl⟩ := Option.map_eq_some_iff.mp h
      obtain ⟨hs, e1, e2, e3⟩ := keysOf_rep t e
      obtain ⟨kk, rfl⟩ := isKey_key hk
      have ek := kP_kV r1
      subst ek
      exact ⟨(kk, _) :: hs, by rw [e1]; rfl, .cons r2 e2, by simp [e3]⟩
    · cases h
  | (.ref n, x) :: xs, _, _, .cons r1 r2 t, h => by cases h
theorem merge_rep [L : LamC] [S : Susp] {W : Wd} {more : List (PV × LV)} {ms : List (Key × V)} (t : LRepD K mg W more ms) : ∀ {acc : List (PV × LV)} {hs : List (Key × V)}, LRepD K mg W acc hs → LRepD K mg W (mergeD acc more) (mergeK hs ms) := by
  induction t with
  | nil => exact fun r => r
  | @cons k x v xs vs r1 _ ih => exact fun r => ih (lrepD_put r k r1)
end
/-- f's name, its level, what it reckons; ds: the defaults that are put behind the arguments -/
def DefF [L : LamC] [S : Susp] (P : Program) (w : World) (K : PySem.W.Frag) (mg : Str → Option Value) (base : Heap) (x : Str) (ps : List Str) (k : Nat) (m : List LV → LH → Res LV) : Prop :=
  ∃ (f : Addr) (fd : FuncData), mg x = some (.ref f) ∧ PySem.W.keepIn K (.ref f) = true ∧ L2.Binds K fd ps [] ∧ FnOk P w K mg base (L2.CX P w) k f fd ps (SpZ K mg ps.length m)
def MthD [L : LamC] [S : Susp] (P : Program) (w : World) (K : PySem.W.Frag) (mg : Str → Option Value) (base : Heap) (c m : Str) (ps : List Str) (k : Nat) (z : List LV → LH → Res LV) : Prop :=
  ∃ (f : Addr) (fd : FuncData), MthF K mg c m f ∧ L2.Binds K fd ps [] ∧ FnOk P w K mg base (L2.CX P w) k f fd ps (SpZ K mg ps.length z)
/-- .. with keywords ks behind n arguments -/
def MkK [L : LamC] [S : Susp] (P : Program) (w : World) (K : PySem.W.Frag) (mg : Str → Option Value) (base : Heap) (c : Str) (ps : List Str) (n : Nat) (ks : List Str) (b : List LV → List LV → List LV) (k : Nat) (z : List LV → LH → Res LV) : Prop :=
  ∃ (C f : Addr) (fd : FuncData) (bnd : List Value → List Value → List Value) (bV : List V → List V → List V), mg c = some (.ref C) ∧ L2.Mk K C f ∧ KBn K fd ps (n + 1) ks bnd bV ∧
    (∀ W xs vs zs us (a : V), LReps K mg W xs vs → LReps K mg W zs us → xs.length = n → zs.length = ks.length → (b xs zs).length + 1 = ps.length ∧ ∃ vs', bV (a :: vs) us = a :: vs' ∧ LReps K mg W (b xs zs) vs') ∧
    FnOk P w K mg base (L2.CX P w) k f fd ps (SpZ K mg ps.length z)
section
variable {P : Program} {w : World} {K : PySem.W.Frag} {mg : Str → Option Value} {base : Heap} {x qual : Str} {params : Arguments} {body : List Stmt} {scope : Scope} {dvs : List V} {kws : List (Str × V)} {f : Addr} {fd : FuncData}
theorem fn_zD [L : LamC] [S : Susp] {N ps : List Str} {k : Nat} {b : EN → LH → SRes} (F : FunD K x qual params body scope dvs kws f fd) (S : FnScope N ps scope)
    (hbody : ∀ (cdv : Value) (A : Around) (outer : List Env) (s : Shared) (H : Hp) (E : XK), Room k (A.deeper (envOfC qual scope s.heap.objs.size f cdv)) →
      FSs (cxOf (L2.CX P w) P w K mg base N qual scope f cdv A outer s H E) WF body b) :
    FnOk P w K mg base (L2.CX P w) (k + 1) f fd ps (SpZ K mg ps.length (mOf N.length (sNoX b))) := by
  refine F.ok S (fun vs H Q E h => h.1) fun cdv A outer s H vs Q E hr h => ⟨_, fss_noX (Wx := fun c d _ H => E c d H) (hbody cdv A outer s H E hr), ?_⟩
  obtain ⟨_, W, xs, lh, rfl, l, r, h⟩ := h
  exact z_body l r h
end
end Z
namespace Z
open PySem PySem.Spec PyProof.Rows L2
section
variable {X : Cx} {k n n2 : Nat} {ps ks : List Str} {m z : List LV → LH → Res LV} {x c mn : Str} {p pos apos : Pos} {e o : Expr} {es : List Expr} {kws : List Keyword} {fo : EN → LH → Res LV} {fas fks : EN → LH → Res (List LV)} {b : List LV → List LV → List LV}
theorem fe_call [L : LamC] [S : Susp] (D : DefF X.prog X.w X.K X.mg X.base x ps k m) (hr : Room k X.A) (hg : Gl X x) (hl : FL fas n) (hn : n = ps.length) (h1 : n = es.length + 1) (ha : FA X WF (e :: es) fas) (hdb : (x == ("__debug__" : Str)) = false := by decide) (he : starEach (e :: es) X.env = (false, eval e X.env) :: starEach es X.env := by rfl) (hpl : (backTo pos (starEach es X.env)).any (·.1) = false := by rfl) :
    FE X WF (.Call (.Name x p) (e :: es) [] pos) (fCallD m [] fas) := by
  obtain ⟨f, fd, hm, hk, hb, F⟩ := D
  exact fe_callD takes0 F hr hg hm hk hb .nil (fun _ => .nil) (by simp; omega) (fun env lh xs lh' h => by rw [hl env lh xs lh' h, h1]) ha hdb he hpl
theorem fe_mth [L : LamC] [S : Susp] {pl : Sem Bool} (D : MthD X.prog X.w X.K X.mg X.base c mn ps k z) (hr : Room k X.A) (hl : FL fas n) (hn : n + 1 = ps.length) (ho : FE X WF o fo) (ha : FA X WF (e :: es) fas)
    (hst : starEach (e :: es) X.env = (false, eval e X.env) :: starEach es X.env := by rfl) (hpl : (backTo pos (starEach es X.env)).any (·.1) = false := by rfl)
    (ht : eval (.Call (.Attribute o mn apos) (e :: es) [] pos) X.env = (do
      let ov ← eval o X.env
      standAt apos.atName
      let (f, first) ← holding [ov] (getMethod ov mn pl)
      callWith pos f first (backTo pos (starEach (e :: es) X.env)) (backToKw pos (keywordEach [] X.env))) := by rfl) :
    FE X WF (.Call (.Attribute o mn apos) (e :: es) [] pos) (fMethD c mn z [] fo fas) := by
  obtain ⟨f, fd, hm, hb, F⟩ := D
  exact fe_meth takes0 hm F hr hb .nil (fun _ => .nil) ho ha (fun env lh xs lh' h => by rw [hl env lh xs lh' h]; simpa using hn) hst hpl ht
theorem fe_mkK [L : LamC] [S : Susp] {y : List LV → LH → Res LV} (hz : ZMk X.K X.mg ps.length x z y) (D : MkK X.prog X.w X.K X.mg X.base x ps n ks b k z) (hr : Room (k + 1) X.A) (hg : Gl X x) (hl : FL fas n) (hl2 : FL fks n2) (hn2 : n2 = ks.length) (ha : FA X WF (e :: es) fas) (hk : FK X WF kws fks)
    (hall : (backToKw pos (keywordEach kws X.env)).all (·.1.isSome) = true := by rfl) (hks : (backToKw pos (keywordEach kws X.env)).filterMap (·.1) = ks := by rfl) (hdb : (x == ("__debug__" : Str)) = false := by decide)
    (hst : starEach (e :: es) X.env = (false, eval e X.env) :: starEach es X.env := by rfl) (hpl : ((backTo pos (starEach (e :: es) X.env)).any (·.1) || (backToKw pos (keywordEach kws X.env)).any (·.1.isNone)) = false := by rfl) :
    FE X WF (.Call (.Name x p) (e :: es) kws pos) (fMakeK y b fas fks) := by
  obtain ⟨C, f, fd, bnd, bV, hm, M, hb, hbl, F⟩ := D
  exact fe_makeK hz takes0 M F hr hg hm hb hbl ha hk (fun env lh xs lh' h => hl env lh xs lh' h) (fun env lh xs lh' h => by rw [hl2 env lh xs lh' h, hn2]) hall hks hdb hst hpl
theorem Room.u {k : Nat} {A : Around} (r : Room k A) : A.units + 65 < cLine := by have := r.un; omega
theorem Room.u1 {k : Nat} {A : Around} (r : Room k A) : A.units + 1 < cLine := by have := r.un; omega
theorem Room.u64 {k : Nat} {A : Around} (r : Room k A) : A.units + 64 < cLine := by have := r.un; omega
end
theorem zii_noexc {g : Int → Int → Option PV} : ∀ x y lh e lh', zII g x y lh ≠ .exc e lh' := fun x y lh e lh' h => by
  unfold zII at h
  split at h
  · split at h <;> cases h
  · cases h
def zLenA (xs : List LV) (lh : LH) : Res LV := match xs with
  | [x] => (match x with
    | .pv (.str z) => if z.length ≤ sizeLine then .ok (.pv (.int z.length)) lh else .stuck
    | .pv (.tup ys) => .ok (.pv (.int ys.length)) lh
    | _ => (match lstOf x lh with
      | some ys => .ok (.pv (.int ys.length)) lh
      | none => .stuck))
  | _ => .stuck
theorem cz_lenA [L : LamC] [S : Susp] {X : Cx} : CallZ X (.builtin "len") zLenA := cz_len
section
variable {X : Cx} {Wx : WX} {pos : Pos}
theorem fe_gintE [L : LamC] [S : Susp] {x : Str} {i : Int} (hg : Gl X x) (hm : ∃ t, X.mg x = some (.int i t)) (hd : (x == ("__debug__" : Str)) = false := by decide) : FE X Wx (.Name x pos) (fC (.int i)) :=
  let ⟨_, h⟩ := hm
  fe_gint hg h hd
theorem fe_gstrE [L : LamC] [S : Susp] {x : Str} {i : Str} (hg : Gl X x) (hm : ∃ t, X.mg x = some (.str i t)) (hd : (x == ("__debug__" : Str)) = false := by decide) : FE X Wx (.Name x pos) (fC (.str i)) :=
  let ⟨_, h⟩ := hm
  fe_gstr hg h hd
end
def chrs (z : Str) : List LV := z.cps.toList.map fun c => .pv (.str ⟨#[c]⟩)
def fSrcS (fe : EN → LH → Res LV) (env : EN) (lh : LH) : Res Src := (fe env lh).bind fun x lh1 => match x with
  | .pv (.str z) => .ok ⟨yes, chrs z⟩ lh1
  | _ => .stuck
theorem chrs_at (z : Str) (i : Nat) : (chrs z)[i]? = (z.cps[i]?).map fun c => .pv (.str ⟨#[c]⟩) := by
  unfold chrs
  rw [List.getElem?_map, Array.getElem?_toList]
theorem fi_str [L : LamC] [S : Susp] {X : Cx} {Wx : WX} {tg e : Expr} {fe : EN → LH → Res LV} (he : FE X Wx e fe) : FI X Wx tg e (fSrcS fe) := by
  refine PI.imp (pi_str he) fun σ H Q ⟨W, env, lh, hH, sr, h⟩ => ?_
  subst hH
  refine go (k := fun x lh1 => match x with | .pv (.str z) => .ok (Src.mk yes (chrs z)) lh1 | _ => .stuck) sr h fun x lh1 v W1 e1 s1 r1 h1 => ?_
  split at h1
  · next z =>
    have hv := str_inv r1
    subst hv
    refine ⟨z, rfl, h1 _ W1 (Ext.refl W1) s1.lh ⟨fun i W lh ex l hc hi => ?_, fun i W lh ex l hc hi => ?_⟩⟩
    · have hi : i < z.cps.size := by simpa [chrs] using hi
      refine ⟨hi, fun x H' hy => ?_⟩
      obtain ⟨e2, c, hc', ev⟩ := hy
      subst ev
      exact ⟨W, .pv (.str ⟨#[c]⟩), e2.symm, Ext.refl W, l, (chrs_at z i).trans (by rw [hc']; rfl), Rep.str⟩
    · have hi : z.cps.size ≤ i := by simpa [chrs] using hi
      exact hi
  · exact h1.elim
theorem ownF_of {K : PySem.W.Frag} {mg : Str → Option Value} {ks : List Str} {oc : Str → Str → Bool} (hg : ∀ c ∈ ks, mg c = some (.ref (He.ga K c))) (hc : ∀ c ∈ ks, Cls K (He.ga K c)) (h : ownB K ks oc = true) : OwnF K mg ks oc := by
  obtain ⟨h1, h⟩ := Bool.and_eq_true_iff.mp h
  obtain ⟨h2, h⟩ := Bool.and_eq_true_iff.mp h
  have key : ∀ c ∈ ks, ∀ C, mg c = some (.ref C) → C = He.ga K c := fun c hc' C e => by
    rw [hg c hc'] at e
    cases e; rfl
  have all : ∀ c ∈ ks, _ := fun c hc' => List.all_eq_true.mp h c hc'
  refine ⟨fun c hc' C e => ?_, fun c hc' d hd C D e e' => ?_, fun c hc' n hn C e => ?_, fun c hc' n hn C e => ?_⟩
  · have := key c hc' C e
    subst this
    obtain ⟨a1, a⟩ := Bool.and_eq_true_iff.mp (all c hc')
    obtain ⟨a2, a⟩ := Bool.and_eq_true_iff.mp a
    exact ⟨hc c hc', He.eqO_ok a1, He.eqO_ok h1, of_decide_eq_true h2, of_decide_eq_true a2⟩
  · have e1 := key c hc' C e
    have e2 := key d hd D e'
    subst e1; subst e2
    obtain ⟨a1, a⟩ := Bool.and_eq_true_iff.mp (all c hc')
    obtain ⟨a2, a⟩ := Bool.and_eq_true_iff.mp a
    obtain ⟨a3, a4⟩ := Bool.and_eq_true_iff.mp a
    exact of_decide_eq_true (List.all_eq_true.mp a4 d hd)
  · have := key c hc' C e
    subst this
    obtain ⟨a1, a⟩ := Bool.and_eq_true_iff.mp (all c hc')
    obtain ⟨a2, a⟩ := Bool.and_eq_true_iff.mp a
    obtain ⟨a3, a4⟩ := Bool.and_eq_true_iff.mp a
    exact of_decide_eq_true (Bool.and_eq_true_iff.mp (List.all_eq_true.mp a3 n hn)).1
  · have := key c hc' C e
    subst this
    obtain ⟨a1, a⟩ := Bool.and_eq_true_iff.mp (all c hc')
    obtain ⟨a2, a⟩ := Bool.and_eq_true_iff.mp a
    obtain ⟨a3, a4⟩ := Bool.and_eq_true_iff.mp a
    exact of_decide_eq_true (Bool.and_eq_true_iff.mp (List.all_eq_true.mp a3 n hn)).2
theorem kt_of {K : PySem.W.Frag} {x : Str} {vs : List He.Dv} (h : He.tupB K x vs = true) : KT K (He.ga K x) (vs.map (He.Dv.v K)) := by
  rcases He.tupB_ok h (fun _ => none) with h | h
  · rcases h with h | ⟨o, h⟩ <;> cases h
  · exact h
end Z
namespace Z
open PySem PySem.Spec PyProof.Rows L2
/-- what is let out: only that something is -/
def CXF : CXT := fun _ _ _ E _ _ => ∃ c d H, E c d H
theorem fm_nil {α : Type} {P : α → Prop} : ∀ c ∈ ([] : List α), P c := fun _ h => nomatch h
theorem fm_cons {α : Type} {P : α → Prop} {a : α} {l : List α} (h : P a) (t : ∀ c ∈ l, P c) : ∀ c ∈ a :: l, P c := fun c hc => by
  rcases List.mem_cons.mp hc with e | e
  · rw [e]; exact h
  · exact t c e
theorem fldF_of {K : PySem.W.Frag} {mg : Str → Option Value} {cs : List Str} {f : Str} (h : ∀ c ∈ cs, mg c = some (.ref (He.ga K c)) ∧ Cls K (He.ga K c) ∧ NoAttr K (He.ga K c) f) : FldF K mg cs f := fun c hc C e => by
  obtain ⟨h1, h2, h3⟩ := h c hc
  rw [h1] at e
  cases e
  exact ⟨h2, h3⟩
theorem mthF_of {K : PySem.W.Frag} {mg : Str → Option Value} {c m : Str} (h1 : mg c = some (.ref (He.ga K c))) (h2 : Cls K (He.ga K c)) (h3 : Meth K (He.ga K c) m (He.ma K (He.ga K c) m)) : MthF K mg c m (He.fAd K (c, some m)) := fun C e => by
  rw [h1] at e
  cases e
  exact ⟨h2, h3⟩
theorem law_sp [L : LamC] [S : Susp] {K : PySem.W.Frag} {mg : Str → Option Value} {m : List LV → LH → Res LV} {H : Hp} {a : Addr} {ns : List Int} {lh : LH} (h : m [.pv (.scr ns)] [] = .ok (.pv (.bl true)) lh) (hS : SqL K H a (ns.map V.int)) (hT : ∀ P, L.P = some P → LamX.TabS H P L.q) (hE : S = ⟨[], []⟩) :
    SpZ K mg 1 m [.ref a] H (fun v _ => v = .bl true) fun _ _ _ => False := by
  have nm : ¬ Wd.Mu ⟨H, [], []⟩ a := fun z => by rcases z with z | z <;> cases z
  refine ⟨rfl, ⟨H, [], []⟩, [.pv (.scr ns)], [], rfl, ⟨rfl, fun i j b h => (by simp at h), fun b h => (nomatch h), fun n o q h => (by simp at h), hT, by subst hE; exact ⟨rfl, fun i x h => (by simp at h)⟩, fun a u h => (nomatch h)⟩, .cons (.scr ?_) .nil, ?_⟩
  · rcases hS with hS | hS
    · exact .inl ⟨hS, nm⟩
    · exact .inr hS
  · rw [h]
    intro v W' e l r
    cases r; rfl
theorem ba2 {a b : Bool} (h : (a && b) = true) : a = true ∧ b = true := Bool.and_eq_true_iff.mp h
end Z
namespace Z
open PySem PySem.Spec PyProof.Rows L2
section
variable {env : EN} {lh lh1 : LH} {a b : EN → LH → SRes} {f g : EN → LH → Res LV} {x y : LV}
theorem mOf_eq (n : Nat) (b : EN → LH → SRes) (xs : List LV) (lh : LH) : mOf n b xs lh = cleanR lh (retOf (b (startE n xs) lh)) := rfl
theorem sNoX_eq : sNoX b env lh = match b env lh with | .exc _ _ _ => .stuck | r => r := rfl
@[simp] theorem noxM_next : (match SRes.next env lh with | .exc _ _ _ => .stuck | r => r) = SRes.next env lh := rfl
theorem sSeq_of {env1 : EN} (h : a env lh = .next env1 lh1) : sSeq a b env lh = b env1 lh1 := by unfold sSeq; rw [h]
theorem sRet_of (h : f env lh = .ok x lh1) : sRet f env lh = .ret x lh1 := by unfold sRet; rw [h]; rfl
theorem fName_of {i : Nat} (h : env[i]? = some (some x)) : fName i env lh = .ok x lh := by unfold fName; rw [h]
theorem fBin_of {z : LV → LV → LH → Res LV} {lh2 : LH} (h1 : f env lh = .ok x lh1) (h2 : g env lh1 = .ok y lh2) : fBin z f g env lh = z x y lh2 := by unfold fBin; rw [h1, Res.bind_ok, h2]; rfl
end
theorem zIx_pl {ps : List PV} {lh : LH} {i : Int} {x : PV} (hx : atI ps i = some x) : zIx (.pv (.lst ps)) (.pv (.int i)) lh = .ok (.pv x) lh := by
  unfold zIx
  have : atI (ps.map LV.pv) i = some (.pv x) := by
    unfold atI at hx ⊢
    rw [List.length_map]
    obtain ⟨j, e1, e2⟩ := Option.bind_eq_some_iff.mp hx
    rw [e1]
    show (ps.map LV.pv)[j]? = _
    rw [List.getElem?_map, e2]; rfl
  simp only [lstOf_lst, this]
theorem atI_nat {α : Type} {xs : List α} {i : Int} {x : α} (h : xs[i.toNat]? = some x) (h0 : 0 ≤ i) : atI xs i = some x := by
  have hl : i.toNat < xs.length := (List.getElem?_eq_some_iff.mp h).1
  unfold atI ixN
  rw [if_pos h0, if_pos (by omega)]
  exact h
theorem set_get {α : Type} {l : List α} {n : Nat} {x y : α} (h : l[n]? = some x) : (l.set n y)[n]? = some y := List.getElem?_set_self (List.getElem?_eq_some_iff.mp h).1
theorem zEq_int (neg : Bool) (a b : Int) (lh : LH) : zEqD neg (.pv (.int a)) (.pv (.int b)) lh = .ok (.pv (.bl (xor neg (decide (a = b))))) lh := by
  show (if SeqAt.shaped (.int a) = true ∧ SeqAt.shaped (.int b) = true then Res.ok (LV.pv (.bl (xor neg (PyData.eqv (.int a) (.int b))))) lh else .stuck) = _
  rw [if_pos ⟨by rfl, by rfl⟩]
  show Res.ok (LV.pv (.bl (xor neg (a == b)))) lh = _
  rw [Bool.beq_eq_decide_eq]
theorem zEq_str (neg : Bool) (a b : Str) (lh : LH) (ha : SeqAt.shaped (.str a) = true) (hb : SeqAt.shaped (.str b) = true) : zEqD neg (.pv (.str a)) (.pv (.str b)) lh = .ok (.pv (.bl (xor neg (decide (a = b))))) lh := by
  show (if SeqAt.shaped (.str a) = true ∧ SeqAt.shaped (.str b) = true then Res.ok (LV.pv (.bl (xor neg (PyData.eqv (.str a) (.str b))))) lh else .stuck) = _
  rw [if_pos ⟨ha, hb⟩]
  show Res.ok (LV.pv (.bl (xor neg (a == b)))) lh = _
  rw [Bool.beq_eq_decide_eq]
theorem zEq_bl (neg : Bool) (a b : Bool) (lh : LH) : zEqD neg (.pv (.bl a)) (.pv (.bl b)) lh = .ok (.pv (.bl (xor neg (decide (a = b))))) lh := by
  show (if SeqAt.shaped (.bool a) = true ∧ SeqAt.shaped (.bool b) = true then Res.ok (LV.pv (.bl (xor neg (PyData.eqv (.bool a) (.bool b))))) lh else .stuck) = _
  rw [if_pos ⟨by rfl, by rfl⟩]
  show Res.ok (LV.pv (.bl (xor neg (a == b)))) lh = _
  rw [Bool.beq_eq_decide_eq]
theorem forL_ind {chk : LH → Bool} {g : LV → EN → LH → Res EN} {b : EN → LH → SRes} (Inv : List LV → EN → LH → Prop) (Post : SRes → Prop)
    (step : ∀ y r env lh, Inv (y :: r) env lh → chk lh = true ∧ ∃ env1 lh1, g y env lh = .ok env1 lh1 ∧ ((∃ e l, (b env1 lh1 = .next e l ∨ b env1 lh1 = .cont e l) ∧ Inv r e l) ∨ (∃ e l, b env1 lh1 = .brk e l ∧ Post (.next e l)) ∨ (∃ x l, b env1 lh1 = .ret x l ∧ Post (.ret x l))))
    (last : ∀ env lh, Inv [] env lh → chk lh = true ∧ Post (.next env lh)) : ∀ items env lh, Inv items env lh → Post (forL chk g b items env lh)
  | [], env, lh, h => by
    obtain ⟨h1, h2⟩ := last env lh h
    unfold forL
    rw [if_pos h1]; exact h2
  | y :: r, env, lh, h => by
    obtain ⟨h1, env1, lh1, h2, h3⟩ := step y r env lh h
    unfold forL
    rw [if_pos h1, h2]
    rcases h3 with ⟨e, l, h3 | h3, h4⟩ | ⟨e, l, h3, h4⟩ | ⟨x, l, h3, h4⟩
    · simp only [h3]; exact forL_ind Inv Post step last r e l h4
    · simp only [h3]; exact forL_ind Inv Post step last r e l h4
    · simp only [h3]; exact h4
    · simp only [h3]; exact h4
theorem lcL_pure {chk : LH → Bool} {g : LV → EN → LH → Res EN} {t : EN → LH → Res Bool} {e : EN → LH → Res LV} {env0 : EN} {lh : LH} (F : LV → Option LV) (hc : chk lh = true) :
    ∀ (items acc : List LV), (∀ y ∈ items, ∃ env1, g y env0 lh = .ok env1 lh ∧ ((t env1 lh = .ok true lh ∧ ∃ v, e env1 lh = .ok v lh ∧ F y = some v) ∨ (t env1 lh = .ok false lh ∧ F y = none))) → lcL chk g t e env0 items acc lh = .ok (acc ++ items.filterMap F) lh
  | [], acc, _ => by unfold lcL; rw [if_pos hc]; simp
  | y :: r, acc, h => by
    obtain ⟨env1, h2, h3⟩ := h y (List.mem_cons_self ..)
    have ih := fun acc => lcL_pure F hc r acc fun z hz => h z (List.mem_cons_of_mem _ hz)
    unfold lcL
    rw [if_pos hc, h2, Res.bind_ok]
    rcases h3 with ⟨h3, v, h4, h5⟩ | ⟨h3, h5⟩
    · rw [h3, Res.bind_ok, if_pos rfl, h4, Res.bind_ok, ih, List.filterMap_cons_some h5, List.append_assoc]; rfl
    · rw [h3, Res.bind_ok, if_neg (by simp), ih, List.filterMap_cons_none h5]
def putP (kvs : List (PV × PV)) (k v : PV) : List (PV × PV) :=
  if (kvs.any fun kv => decide (kv.1 = k)) = true then kvs.map (fun kv => if kv.1 = k then (kv.1, v) else kv) else kvs ++ [(k, v)]
abbrev upP (kvs : List (PV × PV)) : List (PV × LV) := kvs.map fun kv => (kv.1, .pv kv.2)
def getP (kvs : List (PV × PV)) (k : PV) : Option PV := (kvs.find? fun kv => decide (kv.1 = k)).map (·.2)
theorem putD_up (kvs : List (PV × PV)) (k v : PV) : putD (upP kvs) k (.pv v) = upP (putP kvs k v) := by
  unfold putD putP
  have e : ((upP kvs).any fun kv => decide (kv.1 = k)) = (kvs.any fun kv => decide (kv.1 = k)) := by
    rw [List.any_map]; rfl
  rw [e]
  split
  · simp only [List.map_map]
    congr 1
    funext kv
    simp only [Function.comp]
    split <;> rfl
  · simp [upP]
theorem getD_up (kvs : List (PV × PV)) (k : PV) : getD (upP kvs) k = (getP kvs k).map .pv := by
  unfold getD getP
  rw [List.find?_map]
  simp only [Option.map_map]
  rfl
theorem getP_put (kvs : List (PV × PV)) (k v k' : PV) : getP (putP kvs k v) k' = if k' = k then some v else getP kvs k' := by
  unfold putP
  split
  · next h =>
    unfold getP
    rw [List.find?_map]
    have e : ((fun kv : PV × PV => decide (kv.1 = k')) ∘ fun kv : PV × PV => if kv.1 = k then (kv.1, v) else kv) = fun kv => decide (kv.1 = k') := by
      funext kv
      simp only [Function.comp]
      split <;> rfl
    rw [e, Option.map_map]
    by_cases hk : k' = k
    · subst hk
      rw [if_pos rfl]
      obtain ⟨x, hx, e2⟩ := List.any_eq_true.mp h
      cases q : kvs.find? fun kv => decide (kv.1 = k') with
      | none => have := List.find?_eq_none.mp q x hx; exact absurd e2 this
      | some y =>
        have := List.find?_some q
        have : y.1 = k' := by simpa using this
        show some (if y.1 = k' then (y.1, v) else y).2 = some v
        rw [if_pos this]
    · rw [if_neg hk]
      cases q : kvs.find? fun kv => decide (kv.1 = k') with
      | none => rfl
      | some y =>
        have := List.find?_some q
        have : y.1 = k' := by simpa using this
        show some (if y.1 = k then (y.1, v) else y).2 = some y.2
        rw [if_neg (by rw [this]; exact hk)]
  · next h =>
    unfold getP
    rw [List.find?_append]
    have hn : (kvs.find? fun kv => decide (kv.1 = k)) = none := by
      rw [List.find?_eq_none]
      intro x hx he
      exact h (List.any_eq_true.mpr ⟨x, hx, he⟩)
    by_cases hk : k' = k
    · subst hk
      rw [hn, if_pos rfl]
      simp
    · rw [if_neg hk]
      cases q : kvs.find? fun kv => decide (kv.1 = k') with
      | none => simp [Ne.symm hk]
      | some y => rfl
theorem dctOf_up (kvs : List (PV × PV)) (lh : LH) : dctOf (.pv (.dct kvs)) lh = some (upP kvs) := rfl
theorem dcL_pure {chk : LH → Bool} {g : LV → EN → LH → Res EN} {t : EN → LH → Res Bool} {fk fv : EN → LH → Res LV} {env0 : EN} {lh : LH} (F : LV → Option (PV × PV)) (hc : chk lh = true) :
    ∀ (items : List LV) (acc : List (PV × PV)), (∀ y ∈ items, ∃ env1, g y env0 lh = .ok env1 lh ∧ ((t env1 lh = .ok true lh ∧ ∃ k v, fk env1 lh = .ok (.pv k) lh ∧ fv env1 lh = .ok (.pv v) lh ∧ isKey k = true ∧ F y = some (k, v)) ∨ (t env1 lh = .ok false lh ∧ F y = none))) →
      dcL chk g t fk fv env0 items (upP acc) lh = .ok (upP ((items.filterMap F).foldl (fun a kv => putP a kv.1 kv.2) acc)) lh
  | [], acc, _ => by unfold dcL; rw [if_pos hc]; rfl
  | y :: r, acc, h => by
    obtain ⟨env1, h2, h3⟩ := h y (List.mem_cons_self ..)
    have ih := fun acc => dcL_pure F hc r acc fun z hz => h z (List.mem_cons_of_mem _ hz)
    unfold dcL
    rw [if_pos hc, h2, Res.bind_ok]
    rcases h3 with ⟨h3, k, v, h4, h5, h6, h7⟩ | ⟨h3, h5⟩
    · rw [h3, Res.bind_ok, if_pos rfl, h4, Res.bind_ok, h5, Res.bind_ok]
      show (if isKey k = true then _ else _) = _
      rw [if_pos h6, putD_up, ih, List.filterMap_cons_some h7]; rfl
    · rw [h3, Res.bind_ok, if_neg (by simp), ih, List.filterMap_cons_none h5]
end Z
namespace Z
open PySem PySem.Spec PyProof.Rows L2
theorem pds_ints : ∀ ns : List Int, pds (ns.map PV.int) = some (ns.map PyData.int)
  | [] => rfl
  | n :: ns => by
    show (some (PyData.int n)).bind (fun d => (pds (ns.map PV.int)).map fun ds => d :: ds) = _
    rw [pds_ints ns]; rfl
theorem pds_tups : ∀ ts : List (List Int), pds (ts.map tupP) = some (ts.map fun t => PyData.tuple (t.map PyData.int))
  | [] => rfl
  | t :: ts => by
    show (pd (tupP t)).bind (fun d => (pds (ts.map tupP)).map fun ds => d :: ds) = _
    rw [pds_tups ts]
    show ((pds (t.map PV.int)).map PyData.tuple).bind _ = _
    rw [pds_ints]; rfl
theorem lay_ints : ∀ ns : List Int, PyData.canLayAll0 (ns.map PyData.int) = true
  | [] => rfl
  | n :: ns => by
    show (PyData.canLay0 (.int n) && PyData.canLayAll0 (ns.map PyData.int)) = true
    rw [lay_ints ns]; rfl
theorem lay_tups : ∀ ts : List (List Int), PyData.canLayAll0 (ts.map fun t => PyData.tuple (t.map PyData.int)) = true
  | [] => rfl
  | n :: ns => by
    show (PyData.canLayAll0 (n.map PyData.int) && PyData.canLayAll0 (ns.map fun t => PyData.tuple (t.map PyData.int))) = true
    rw [lay_tups ns, lay_ints n]; rfl
theorem dep_ints : ∀ ns : List Int, PyData.depthAll (ns.map PyData.int) = 0
  | [] => rfl
  | n :: ns => by
    show max (PyData.depth (.int n)) (PyData.depthAll (ns.map PyData.int)) = 0
    rw [dep_ints ns]; rfl
theorem dep_tups : ∀ ts : List (List Int), PyData.depthAll (ts.map fun t => PyData.tuple (t.map PyData.int)) ≤ 1
  | [] => by show 0 ≤ 1; omega
  | n :: ns => by
    show max (PyData.depthAll (n.map PyData.int) + 1) (PyData.depthAll (ns.map fun t => PyData.tuple (t.map PyData.int))) ≤ 1
    have := dep_tups ns
    rw [dep_ints n]; omega
theorem eqv_ints : ∀ (a b : List Int), PyData.eqvAll (a.map PyData.int) (b.map PyData.int) = decide (a = b)
  | [], [] => rfl
  | [], _ :: _ => by simp [PyData.eqvAll]
  | _ :: _, [] => by simp [PyData.eqvAll]
  | x :: a, y :: b => by
    show ((x == y) && PyData.eqvAll (a.map PyData.int) (b.map PyData.int)) = _
    rw [eqv_ints a b, Bool.beq_eq_decide_eq]
    by_cases h : x = y <;> by_cases h2 : a = b <;> simp [h, h2]
theorem sh_int (x : Int) : SeqAt.shaped (.int x) = true := rfl
theorem sh_tup (t : List Int) : SeqAt.shaped (.tuple (t.map PyData.int)) = true := by
  show (PyData.canLayAll0 (t.map PyData.int) && decide (PyData.depthAll (t.map PyData.int) + 1 ≤ 64)) = true
  rw [lay_ints, dep_ints]; rfl
theorem sh_ints (ns : List Int) : SeqAt.shaped (.list (ns.map PyData.int)) = true := by
  show (PyData.canLayAll0 (ns.map PyData.int) && decide (PyData.depthAll (ns.map PyData.int) + 1 ≤ 64)) = true
  rw [lay_ints, dep_ints]; rfl
theorem sh_tups (ts : List (List Int)) : SeqAt.shaped (.list (ts.map fun t => PyData.tuple (t.map PyData.int))) = true := by
  show (PyData.canLayAll0 (ts.map fun t => PyData.tuple (t.map PyData.int)) && decide (PyData.depthAll (ts.map fun t => PyData.tuple (t.map PyData.int)) + 1 ≤ 64)) = true
  rw [lay_tups]
  have := dep_tups ts
  simp; omega
theorem zIn_ints (neg : Bool) (x : Int) (ns : List Int) (lh : LH) : zIn neg (.pv (.int x)) (lI ns) lh = .ok (.pv (.bl (xor neg (decide (x ∈ ns))))) lh := by
  show zInQ neg (.pv (.int x)) (.pv (.lst (ns.map .int))) lh = _
  unfold zInQ
  have e1 : pdL (.pv (.int x)) lh = some (.int x) := rfl
  have e2 : dsOf (.pv (.lst (ns.map .int))) lh = some (ns.map PyData.int) := by
    show (match some ((ns.map PV.int).map LV.pv) with | some xs => (pvs xs).bind pds | none => none) = _
    show (pvs ((ns.map PV.int).map LV.pv)).bind pds = _
    rw [pvs_map]; exact pds_ints ns
  rw [e1, e2]
  simp only [sh_int, sh_ints, and_self, if_true]
  have e3 : ((ns.map PyData.int).any fun z => PyData.eqv z (.int x)) = decide (x ∈ ns) := by
    induction ns with
    | nil => rfl
    | cons n ns ih =>
      rw [List.map_cons, List.any_cons, ih (by
        show (match some ((ns.map PV.int).map LV.pv) with | some xs => (pvs xs).bind pds | none => none) = _
        show (pvs ((ns.map PV.int).map LV.pv)).bind pds = _
        rw [pvs_map]; exact pds_ints ns)]
      show ((n == x) || decide (x ∈ ns)) = _
      rw [Bool.beq_eq_decide_eq]
      by_cases h : n = x
      · simp [h]
      · simp [h, Ne.symm h]
  rw [e3]
theorem zIn_tups (neg : Bool) (t : List Int) (ts : List (List Int)) (lh : LH) : zIn neg (.pv (tupP t)) (lT ts) lh = .ok (.pv (.bl (xor neg (decide (t ∈ ts))))) lh := by
  show zInQ neg (.pv (tupP t)) (.pv (.lst (ts.map tupP))) lh = _
  unfold zInQ
  have e1 : pdL (.pv (tupP t)) lh = some (.tuple (t.map PyData.int)) := by
    show (pds (t.map PV.int)).map PyData.tuple = _
    rw [pds_ints]; rfl
  have e2 : ∀ ts : List (List Int), dsOf (.pv (.lst (ts.map tupP))) lh = some (ts.map fun t => PyData.tuple (t.map PyData.int)) := fun ts => by
    show (pvs ((ts.map tupP).map LV.pv)).bind pds = _
    rw [pvs_map]; exact pds_tups ts
  rw [e1, e2]
  simp only [sh_tup, sh_tups, and_self, if_true]
  have e3 : ((ts.map fun t => PyData.tuple (t.map PyData.int)).any fun z => PyData.eqv z (.tuple (t.map PyData.int))) = decide (t ∈ ts) := by
    clear e2
    induction ts with
    | nil => rfl
    | cons n ns ih =>
      rw [List.map_cons, List.any_cons, ih]
      show (PyData.eqvAll (n.map PyData.int) (t.map PyData.int) || decide (t ∈ ns)) = _
      rw [eqv_ints]
      by_cases h : n = t
      · simp [h]
      · simp [h, Ne.symm h]
  rw [e3]
end Z
namespace Z
open PySem PySem.Spec PyProof.Rows L2
def Res.sp {α : Type} (r : Res α) (Q : α → LH → Prop) (E : LX → LH → Prop) : Prop := match r with
  | .ok a h => Q a h
  | .exc e h => E e h
  | .stuck => False
structure Dn where
  nx : EN → LH → Prop
  rt : LV → LH → Prop
  bk : EN → LH → Prop
  ct : EN → LH → Prop
  ex : LX → EN → LH → Prop
def SRes.sp (r : SRes) (D : Dn) : Prop := match r with
  | .next e h => D.nx e h
  | .ret v h => D.rt v h
  | .brk e h => D.bk e h
  | .cont e h => D.ct e h
  | .exc x e h => D.ex x e h
  | .stuck => False
abbrev noE : LX → LH → Prop := fun _ _ => False
/-- a def's end -/
def Dn.fn (Q : LV → LH → Prop) (E : LX → LH → Prop) : Dn := ⟨fun _ h => Q (.pv .non) h, Q, fun _ _ => False, fun _ _ => False, fun e _ h => E e h⟩
def Dn.thn (D : Dn) (k : EN → LH → Prop) : Dn := ⟨k, D.rt, D.bk, D.ct, D.ex⟩
def Dn.lp (D : Dn) (k : EN → LH → Prop) : Dn := ⟨k, D.rt, D.nx, k, D.ex⟩
def Dn.nox (D : Dn) : Dn := ⟨D.nx, D.rt, D.bk, D.ct, fun _ _ _ => False⟩
section
variable {D : Dn} {k : EN → LH → Prop} {e : EN} {l : LH} {v : LV} {x : LX} {Q : LV → LH → Prop} {E : LX → LH → Prop}
theorem thn_nx (h : k e l) : (D.thn k).nx e l := h
theorem thn_rt (h : D.rt v l) : (D.thn k).rt v l := h
theorem lp_nx (h : k e l) : (D.lp k).nx e l := h
theorem lp_rt (h : D.rt v l) : (D.lp k).rt v l := h
theorem lp_bk (h : D.nx e l) : (D.lp k).bk e l := h
theorem lp_ct (h : k e l) : (D.lp k).ct e l := h
theorem fn_nx (h : Q (.pv .non) l) : (Dn.fn Q E).nx e l := h
theorem fn_rt (h : Q v l) : (Dn.fn Q E).rt v l := h
/-- a slot stored, given up; the slots of a call -/
def SetTo (env : EN) (i : Nat) (x : Option LV) (k : EN → Prop) : Prop := k (env.set i x)
theorem setTo_0 {a x : Option LV} {r : EN} {k : EN → Prop} (q : k (x :: r)) : SetTo (a :: r) 0 x k := q
theorem setTo_s {a x : Option LV} {r : EN} {i j : Nat} {k : EN → Prop} (h : j = i + 1) (q : SetTo r i x fun e => k (a :: e)) : SetTo (a :: r) j x k := by subst h; exact q
def WipeTo (env : EN) : List Nat → (EN → Prop) → Prop
  | [], k => k env
  | v :: vs, k => WipeTo env vs fun e => SetTo e v none k
theorem wipeTo_nil {env : EN} {k : EN → Prop} (q : k env) : WipeTo env [] k := q
theorem wipeTo_cons {env : EN} {v : Nat} {vs : List Nat} {k : EN → Prop} (q : WipeTo env vs fun e => SetTo e v none k) : WipeTo env (v :: vs) k := q
theorem wipeTo_is {env : EN} : ∀ {vs : List Nat} {k : EN → Prop}, WipeTo env vs k → k (wipeE env vs)
  | [], _, h => h
  | v :: vs, k, h => wipeTo_is (vs := vs) (k := fun e => SetTo e v none k) h
def StartTo (n : Nat) (xs : List LV) (k : EN → Prop) : Prop := k (startE n xs)
theorem startTo_c {m n : Nat} {a : LV} {xs : List LV} {k : EN → Prop} (h : m = n + 1) (q : StartTo n xs fun e => k (some a :: e)) : StartTo m (a :: xs) k := by
  subst h
  unfold StartTo startE at q ⊢
  simpa using q
theorem startTo_n {m n : Nat} {k : EN → Prop} (h : m = n + 1) (q : StartTo n [] fun e => k (none :: e)) : StartTo m [] k := by subst h; exact q
theorem startTo_0 {k : EN → Prop} (q : k []) : StartTo 0 [] k := q
end
section
variable {α β : Type} {Q Q' : α → LH → Prop} {E E' : LX → LH → Prop} {r : Res α} {lh lh1 : LH}
theorem Res.sp.imp (h : r.sp Q E) (i : ∀ a h, Q a h → Q' a h) : r.sp Q' E := by
  cases r with
  | ok a l => exact i a l h
  | exc e l => exact h
  | stuck => exact h
theorem Res.sp.impE (h : r.sp Q E) (i : ∀ a h, Q a h → Q' a h) (j : ∀ a h, E a h → E' a h) : r.sp Q' E' := by
  cases r with
  | ok a l => exact i a l h
  | exc e l => exact j e l h
  | stuck => exact h
theorem Res.sp.to (h : r.sp Q noE) (i : ∀ a h, Q a h → Q' a h) : r.sp Q' E := h.impE i fun _ _ z => z.elim
theorem sp_ok {a : α} (q : Q a lh) : (Res.ok a lh).sp Q E := q
theorem sp_of {a : α} (h : r = .ok a lh) (q : Q a lh) : r.sp Q E := by rw [h]; exact q
theorem Res.sp.ex (h : r.sp Q noE) : ∃ a l, r = .ok a l ∧ Q a l := by
  cases r with
  | ok a l => exact ⟨a, l, rfl, h⟩
  | exc e l => exact h.elim
  | stuck => exact h.elim
theorem sp_bind {r : Res β} {k : β → LH → Res α} (h : r.sp (fun a l => (k a l).sp Q E) E) : (r.bind k).sp Q E := by
  cases r with
  | ok a l => exact h
  | exc e l => exact h
  | stuck => exact h
theorem sp_noX (h : r.sp Q noE) : (noX r).sp Q E := by
  cases r with
  | ok a l => exact h
  | exc e l => exact h.elim
  | stuck => exact h
end
section
variable {Q : LV → LH → Prop} {Qb : Bool → LH → Prop} {Qs : List LV → LH → Prop} {E : LX → LH → Prop} {env : EN} {lh : LH} {f g k : EN → LH → Res LV} {t u : EN → LH → Res Bool} {fs : EN → LH → Res (List LV)} {z z' : LV → LV → LH → Res LV} {x y : LV}
theorem sp_name {i : Nat} (h : env[i]? = some (some x)) (q : Q x lh) : (fName i env lh).sp Q E := by unfold fName; rw [h]; exact q
theorem sp_c {p : PV} (q : Q (.pv p) lh) : (fC p env lh).sp Q E := q
theorem sp_bin (h : (f env lh).sp (fun x l => (g env l).sp (fun y l2 => (z x y l2).sp Q E) E) E) : (fBin z f g env lh).sp Q E := sp_bind (h.imp fun _ _ q => sp_bind q)
theorem sp_un {z : LV → LH → Res LV} (h : (f env lh).sp (fun x l => (z x l).sp Q E) E) : (fUn z f env lh).sp Q E := sp_bind h
theorem sp_nil (q : Qs [] lh) : (fNil env lh).sp Qs E := q
theorem sp_cons (h : (f env lh).sp (fun x l => (fs env l).sp (fun xs l2 => Qs (x :: xs) l2) E) E) : (fCons f fs env lh).sp Qs E := sp_bind (h.imp fun _ _ q => sp_bind q)
theorem sp_args {z : List LV → LH → Res LV} (h : (fs env lh).sp (fun xs l => (z xs l).sp Q E) E) : (fArgs z fs env lh).sp Q E := sp_bind h
theorem sp_call0 {m : List LV → LH → Res LV} (h : (fs env lh).sp (fun xs l => (m xs l).sp Q E) E) : (fCallD m [] fs env lh).sp Q E := sp_bind (h.imp fun _ _ q => by rw [List.append_nil]; exact q)
theorem sp_tV (h : (f env lh).sp (fun x l => (asB x l).sp Qb E) E) : (tV f env lh).sp Qb E := sp_bind h
theorem sp_asB {b : Bool} (q : Qb b lh) : (asB (.pv (.bl b)) lh).sp Qb E := q
theorem sp_tYes (q : Qb true lh) : (tYesZ env lh).sp Qb E := q
theorem sp_tNot (h : (t env lh).sp (fun b l => Qb (!b) l) E) : (tNotZ t env lh).sp Qb E := sp_bind h
/-- both ways of a test -/
def Wy (b : Bool) (A B : Prop) : Prop := (b = true → A) ∧ (b = false → B)
theorem Wy.ite {α : Type} {Q : α → LH → Prop} {b : Bool} {r s : Res α} (h : Wy b (r.sp Q E) (s.sp Q E)) : (if b = true then r else s).sp Q E := by
  cases b with
  | true => exact h.1 rfl
  | false => exact h.2 rfl
theorem wy_t {A B : Prop} (h : A) : Wy true A B := ⟨fun _ => h, fun z => (nomatch z)⟩
theorem wy_f {A B : Prop} (h : B) : Wy false A B := ⟨fun z => (nomatch z), fun _ => h⟩
theorem wy_d {p : Prop} [Decidable p] {A B : Prop} (h1 : p → A) (h2 : ¬ p → B) : Wy (decide p) A B := ⟨fun z => h1 (of_decide_eq_true z), fun z => h2 (of_decide_eq_false z)⟩
theorem wy_xf {b : Bool} {A B : Prop} (h : Wy b A B) : Wy (xor false b) A B := by rw [Bool.false_xor]; exact h
theorem wy_xt {b : Bool} {A B : Prop} (h : Wy b B A) : Wy (xor true b) A B := by rw [Bool.true_xor]; cases b <;> exact ⟨fun z => by simp at z <;> first | exact h.2 rfl | exact h.1 rfl, fun z => by simp at z <;> first | exact h.1 rfl | exact h.2 rfl⟩
theorem wy_n {b : Bool} {A B : Prop} (h : Wy b B A) : Wy (!b) A B := by cases b <;> exact ⟨fun z => by simp at z <;> first | exact h.2 rfl | exact h.1 rfl, fun z => by simp at z <;> first | exact h.1 rfl | exact h.2 rfl⟩
theorem sp_tAnd (h : (t env lh).sp (fun b l => Wy b ((u env l).sp Qb E) (Qb false l)) E) : (tAndZ t u env lh).sp Qb E := sp_bind (h.imp fun _ _ q => Wy.ite q)
theorem sp_tOr (h : (t env lh).sp (fun b l => Wy b (Qb true l) ((u env l).sp Qb E)) E) : (tOrZ t u env lh).sp Qb E := sp_bind (h.imp fun _ _ q => Wy.ite q)
theorem sp_and (h : (f env lh).sp (fun x l => (asB x l).sp (fun b l2 => Wy b ((g env l2).sp Q E) (Q (.pv (.bl false)) l2)) E) E) : (fAnd f g env lh).sp Q E := sp_bind (h.imp fun _ _ q => sp_bind (q.imp fun _ _ q => Wy.ite q))
theorem sp_or (h : (f env lh).sp (fun x l => (asB x l).sp (fun b l2 => Wy b (Q (.pv (.bl true)) l2) ((g env l2).sp Q E)) E) E) : (fOr f g env lh).sp Q E := sp_bind (h.imp fun _ _ q => sp_bind (q.imp fun _ _ q => Wy.ite q))
theorem sp_not (h : (f env lh).sp (fun x l => (asB x l).sp (fun b l2 => Q (.pv (.bl (!b))) l2) E) E) : (fNot f env lh).sp Q E := sp_bind (h.imp fun _ _ q => sp_bind q)
theorem sp_ifE (h : (t env lh).sp (fun b l => Wy b ((f env l).sp Q E) ((g env l).sp Q E)) E) : (fIfE t f g env lh).sp Q E := sp_bind (h.imp fun _ _ q => Wy.ite q)
theorem sp_chain (h : (f env lh).sp (fun x l => (g env l).sp (fun y l2 => (z x y l2).sp (fun r l3 => (asB r l3).sp (fun b l4 => Wy b ((k env l4).sp (fun w l5 => (z' y w l5).sp Q E) E) (Q (.pv (.bl false)) l4)) E) E) E) E) : (fChain z z' f g k env lh).sp Q E := by
  unfold fChain
  refine sp_bind (h.imp fun _ _ q => sp_bind (q.imp fun _ _ q => sp_bind (q.imp fun _ _ q => sp_bind (q.imp fun b _ q => ?_))))
  cases b with
  | true => exact sp_bind (q.1 rfl)
  | false => exact q.2 rfl
theorem sp_frz (h : (f env lh).sp (fun x l => (zFrz x l).sp Q E) E) : (fFrz f env lh).sp Q E := sp_bind h
theorem sp_mkD (q : Q (.ref lh.length) (lh ++ [.dct []])) : (fMkD env lh).sp Q E := q
theorem sp_mkD0 (q : Q (.pv (.dct [])) lh) : (fMkD0 env lh).sp Q E := q
variable {i j : Int} {p : PV}
theorem sp_addI (q : Q (.pv (.int (i + j))) lh) : (zAdd (.pv (.int i)) (.pv (.int j)) lh).sp Q E := q
theorem sp_sub (q : Q (.pv (.int (i - j))) lh) : (zII Z.gSub (.pv (.int i)) (.pv (.int j)) lh).sp Q E := q
theorem sp_lt (q : Q (.pv (.bl (decide (i < j)))) lh) : (zII gLt (.pv (.int i)) (.pv (.int j)) lh).sp Q E := q
theorem sp_le (q : Q (.pv (.bl (decide (i ≤ j)))) lh) : (zII gLe (.pv (.int i)) (.pv (.int j)) lh).sp Q E := q
theorem sp_gt (q : Q (.pv (.bl (decide (j < i)))) lh) : (zII gGt (.pv (.int i)) (.pv (.int j)) lh).sp Q E := q
theorem sp_ge (q : Q (.pv (.bl (decide (j ≤ i)))) lh) : (zII gGe (.pv (.int i)) (.pv (.int j)) lh).sp Q E := q
theorem sp_zII {G : Int → Int → Option PV} (h : G i j = some p) (q : Q (.pv p) lh) : (zII G (.pv (.int i)) (.pv (.int j)) lh).sp Q E := by
  unfold zII; simp only [h]; exact q
theorem sp_mul (h : (-(2 ^ 64) < i ∧ i < 2 ^ 64) ∨ (-(2 ^ 64) < j ∧ j < 2 ^ 64)) (q : Q (.pv (.int (i * j))) lh) : (zII gMul (.pv (.int i)) (.pv (.int j)) lh).sp Q E := sp_zII (by unfold gMul; rw [if_pos h]) q
theorem sp_mod (h : 0 < j) (q : Q (.pv (.int (i % j))) lh) : (zII gMod (.pv (.int i)) (.pv (.int j)) lh).sp Q E := sp_zII (by unfold gMod; rw [if_pos h]) q
theorem sp_div (h : 0 < j ∧ j < 1073741824) (q : Q (.pv (.int (i / j))) lh) : (zII gDiv (.pv (.int i)) (.pv (.int j)) lh).sp Q E := sp_zII (by unfold gDiv; rw [if_pos h]) q
theorem sp_eqI {neg : Bool} (q : Q (.pv (.bl (xor neg (decide (i = j))))) lh) : (zEqD neg (.pv (.int i)) (.pv (.int j)) lh).sp Q E := sp_of (zEq_int ..) q
theorem sp_eqB {neg a b : Bool} (q : Q (.pv (.bl (xor neg (decide (a = b))))) lh) : (zEqD neg (.pv (.bl a)) (.pv (.bl b)) lh).sp Q E := sp_of (zEq_bl ..) q
theorem sp_isN {neg : Bool} (q : Q (.pv (.bl (xor neg (decide (p = .non))))) lh) : (zIsN neg (.pv p) (.pv .non) lh).sp Q E := q
theorem sp_isN0 {neg : Bool} (q : Q (.pv (.bl (xor neg true))) lh) : (zIsN neg (.pv .non) (.pv .non) lh).sp Q E := sp_isN (by simpa using q)
theorem sp_isNd {neg : Bool} (h : p ≠ .non) (q : Q (.pv (.bl (xor neg false))) lh) : (zIsN neg (.pv p) (.pv .non) lh).sp Q E := sp_isN (by simpa [h] using q)
theorem sp_lst {ps : List PV} {xs : List LV} (h : pvs xs = some ps) (q : Q (.pv (.lst ps)) lh) : (zLst xs lh).sp Q E := by unfold zLst; rw [h]; exact q
theorem sp_tup {ps : List PV} {xs : List LV} (h : pvs xs = some ps) (q : Q (.pv (.tup ps)) lh) : (zTup xs lh).sp Q E := by unfold zTup; rw [h]; exact q
theorem sp_lstM {xs : List LV} (q : Q (.ref lh.length) (lh ++ [.lst xs])) : (zLstM xs lh).sp Q E := q
theorem sp_ixL {ps : List PV} {x : PV} (h : atI ps i = some x) (q : Q (.pv x) lh) : (zIx (.pv (.lst ps)) (.pv (.int i)) lh).sp Q E := sp_of (zIx_pl h) q
theorem atI_map {α : Type} {f : PV → α} {ps : List PV} {i : Int} {x : PV} (h : atI ps i = some x) : atI (ps.map f) i = some (f x) := by
  unfold atI at h ⊢
  rw [List.length_map]
  obtain ⟨j, e1, e2⟩ := Option.bind_eq_some_iff.mp h
  rw [e1]
  show (ps.map f)[j]? = _
  rw [List.getElem?_map, e2]; rfl
theorem sp_ixT {ps : List PV} {x : PV} (h : atI ps i = some x) (q : Q (.pv x) lh) : (zIx (.pv (.tup ps)) (.pv (.int i)) lh).sp Q E := by
  refine sp_of (a := .pv x) (lh := lh) ?_ q
  unfold zIx
  simp only [atI_map h, h, Option.map_some]
end
section
variable {D : Dn} {Q : LV → LH → Prop} {E : LX → LH → Prop} {env : EN} {lh : LH} {a b : EN → LH → SRes} {f : EN → LH → Res LV} {t : EN → LH → Res Bool}
theorem sps_seq (h : (a env lh).sp (D.thn fun e l => (b e l).sp D)) : (sSeq a b env lh).sp D := by
  unfold sSeq
  cases q : a env lh <;> rw [q] at h <;> exact h
theorem sBind_sp {α : Type} {r : Res α} {k : α → LH → SRes} (h : r.sp (fun x l => (k x l).sp D) (fun e l => D.ex e env l)) : (sBind env r k).sp D := by
  cases r with
  | ok a l => exact h
  | exc e l => exact h
  | stuck => exact h
theorem sps_set {i : Nat} (h : (f env lh).sp (fun x l => SetTo env i (some x) fun e => D.nx e l) (fun e l => D.ex e env l)) : (sAsg f (gN i) env lh).sp D := sBind_sp (h.imp fun _ _ q => q)
theorem gEnd_sp {r : Res EN} (h : r.sp (fun e l => D.nx e l) noE) : (gEnd r).sp D := by
  cases r with
  | ok a l => exact h
  | exc e l => exact h.elim
  | stuck => exact h
theorem sps_asg {g : LV → EN → LH → Res EN} (h : (f env lh).sp (fun x l => (g x env l).sp (fun e l2 => D.nx e l2) noE) (fun e l => D.ex e env l)) : (sAsg f g env lh).sp D := sBind_sp (h.imp fun _ _ q => gEnd_sp q)
theorem sps_expr (h : (f env lh).sp (fun _ l => D.nx env l) (fun e l => D.ex e env l)) : (sExpr f env lh).sp D := sBind_sp h
theorem sps_ret (h : (f env lh).sp (fun x l => D.rt x l) (fun e l => D.ex e env l)) : (sRet f env lh).sp D := sBind_sp h
theorem sps_retN (h : D.rt (.pv .non) lh) : (sRetN env lh).sp D := h
theorem sps_next (h : D.nx env lh) : (sNext env lh).sp D := h
theorem sps_brk (h : D.bk env lh) : (sBrk env lh).sp D := h
theorem sps_cont (h : D.ct env lh) : (sCont env lh).sp D := h
theorem sps_if (h : (t env lh).sp (fun c l => Wy c ((a env l).sp D) ((b env l).sp D)) (fun e l => D.ex e env l)) : (sIf t a b env lh).sp D := sBind_sp (h.imp fun c _ q => by
  cases c with
  | true => exact q.1 rfl
  | false => exact q.2 rfl)
theorem sps_for {fi : EN → LH → Res Src} {g : LV → EN → LH → Res EN} (h : (fi env lh).sp (fun s l => (forL s.chk g b s.items env l).sp D) (fun e l => D.ex e env l)) : (sFor fi g b env lh).sp D := sBind_sp h
theorem sps_par {fs : EN → LH → Res (List LV)} {i j : Nat} (h : (fs env lh).sp (fun xs l => ∃ x y, xs = [x, y] ∧ SetTo env i (some x) fun e => SetTo e j (some y) fun e => D.nx e l) (fun e l => D.ex e env l)) : (sPar i j fs env lh).sp D := sBind_sp (h.imp fun xs l ⟨x, y, e, q⟩ => by subst e; exact q)
/-- turns by what holds between them -/
theorem forL_sp {chk : LH → Bool} {g : LV → EN → LH → Res EN} (Inv : List LV → EN → LH → Prop)
    (step : ∀ y r env lh, Inv (y :: r) env lh → chk lh = true ∧ (g y env lh).sp (fun e l => (b e l).sp (D.lp (Inv r))) noE)
    (last : ∀ env lh, Inv [] env lh → chk lh = true ∧ D.nx env lh) : ∀ items env lh, Inv items env lh → (forL chk g b items env lh).sp D
  | [], env, lh, h => by
    obtain ⟨h1, h2⟩ := last env lh h
    unfold forL
    rw [if_pos h1]; exact h2
  | y :: r, env, lh, h => by
    obtain ⟨h1, h2⟩ := step y r env lh h
    unfold forL
    rw [if_pos h1]
    cases q : g y env lh with
    | ok e l =>
      rw [q] at h2
      have h2 : (b e l).sp (D.lp (Inv r)) := h2
      show SRes.sp (match b e l with | .next e l => forL chk g b r e l | .cont e l => forL chk g b r e l | .brk e l => .next e l | o => o) D
      cases q2 : b e l with
      | next e1 l1 => rw [q2] at h2; exact forL_sp Inv step last r e1 l1 h2
      | cont e1 l1 => rw [q2] at h2; exact forL_sp Inv step last r e1 l1 h2
      | brk e1 l1 => rw [q2] at h2; exact h2
      | ret => rw [q2] at h2; exact h2
      | exc => rw [q2] at h2; exact h2
      | stuck => rw [q2] at h2; exact h2
    | exc e l => rw [q] at h2; exact h2.elim
    | stuck => rw [q] at h2; exact h2.elim
/-- .. one after the other, as it stands -/
theorem forL_nil {chk : LH → Bool} {g : LV → EN → LH → Res EN} (h : chk lh = true) (q : D.nx env lh) : (forL chk g b [] env lh).sp D := by unfold forL; rw [if_pos h]; exact q
theorem forL_cons {chk : LH → Bool} {g : LV → EN → LH → Res EN} {y : LV} {r : List LV} (hc : chk lh = true) (h : (g y env lh).sp (fun e l => (b e l).sp (D.lp fun e l => (forL chk g b r e l).sp D)) noE) : (forL chk g b (y :: r) env lh).sp D := by
  unfold forL
  rw [if_pos hc]
  cases q : g y env lh with
  | ok e l =>
    rw [q] at h
    have h : (b e l).sp (D.lp fun e l => (forL chk g b r e l).sp D) := h
    show SRes.sp (match b e l with | .next e l => forL chk g b r e l | .cont e l => forL chk g b r e l | .brk e l => .next e l | o => o) D
    cases q2 : b e l <;> rw [q2] at h <;> exact h
  | exc e l => rw [q] at h; exact h.elim
  | stuck => rw [q] at h; exact h.elim
theorem sp_mOf {n : Nat} {b : EN → LH → SRes} {xs : List LV} (h : StartTo n xs fun e => (b e lh).sp (Dn.fn (fun v l => (cleanR lh (.ok v l)).sp Q E) (fun x l => E x (clean lh l)))) : (mOf n b xs lh).sp Q E := by
  have h : (b (startE n xs) lh).sp (Dn.fn (fun v l => (cleanR lh (.ok v l)).sp Q E) (fun x l => E x (clean lh l))) := h
  unfold mOf
  cases q : b (startE n xs) lh <;> rw [q] at h <;> exact h
theorem sps_noX {b : EN → LH → SRes} (h : (b env lh).sp D.nox) : (sNoX b env lh).sp D := by
  unfold sNoX
  cases q : b env lh <;> rw [q] at h <;> exact h
theorem clean_same {lh lh' : LH} (h : lh'.length = lh.length) : clean lh lh' = lh' := by
  unfold clean
  split
  · rw [List.take_of_length_le (by omega)]
  · rfl
/-- a def of this text: its body, no exception -/
theorem sp_fn {n : Nat} {b : EN → LH → SRes} {xs : List LV} (h : StartTo n xs fun e => (b e lh).sp (Dn.fn (fun v l => (cleanR lh (.ok v l)).sp Q E) noE)) : (mOf n (sNoX b) xs lh).sp Q E := sp_mOf (by
  have h : (b (startE n xs) lh).sp (Dn.fn (fun v l => (cleanR lh (.ok v l)).sp Q E) noE) := h
  show (sNoX b (startE n xs) lh).sp _
  refine sps_noX ?_
  cases q : b (startE n xs) lh <;> rw [q] at h <;> exact h)
theorem sp_clean {p : PV} {l : LH} (q : Q (.pv p) (clean lh l)) : (cleanR lh (.ok (.pv p) l)).sp Q E := q
theorem sp_cleanS {p : PV} {l : LH} (h : l.length = lh.length) (q : Q (.pv p) l) : (cleanR lh (.ok (.pv p) l)).sp Q E := sp_clean (by rw [clean_same h]; exact q)
theorem sp_clean0 {p : PV} (q : Q (.pv p) lh) : (cleanR lh (.ok (.pv p) lh)).sp Q E := sp_cleanS rfl q
theorem sp_cleanR {k : Nat} {l : LH} (q : Q (.ref k) l) : (cleanR lh (.ok (.ref k) l)).sp Q E := q
end
section
variable {Q : LV → LH → Prop} {E : LX → LH → Prop} {env env0 : EN} {lh : LH} {f e : EN → LH → Res LV} {fs : EN → LH → Res (List LV)} {Qi : Src → LH → Prop} {t : EN → LH → Res Bool}
theorem sp_src (h : (f env lh).sp (fun x l => ∃ xs, lstOf x l = some xs ∧ Qi ⟨fun l => sameO (lstOf x l) xs, xs⟩ l) E) : (fSrc f env lh).sp Qi E := sp_bind (h.imp fun x l ⟨xs, e, q⟩ => by rw [e]; exact q)
theorem sp_srcT (h : (f env lh).sp (fun x l => ∃ xs, tupOf x = some xs ∧ Qi ⟨yes, xs.map .pv⟩ l) E) : (fSrcT f env lh).sp Qi E := sp_bind (h.imp fun x l ⟨xs, e, q⟩ => by rw [e]; exact q)
theorem sp_rng (h : (fs env lh).sp (fun xs l => ∃ n : Nat, xs = [.pv (.int n)] ∧ n < 1000000 ∧ Qi ⟨yes, zints 0 n⟩ l) E) : (fRng fs env lh).sp Qi E := sp_bind (h.imp fun xs l ⟨n, e, hn, q⟩ => by
  subst e
  unfold rngSrc
  simp only []
  rw [if_pos (by constructor <;> omega), Int.toNat_natCast]; exact q)
theorem sp_srcD {F : List (PV × PV) → List LV} (h : (f env lh).sp (fun x l => ∃ kvs, x = .pv (.dct kvs) ∧ Qi ⟨yes, F kvs⟩ l) E) : (fSrcD F f env lh).sp Qi E := by
  unfold fSrcD fPd
  refine sp_bind (sp_bind (h.imp fun x l ⟨kvs, e, q⟩ => ?_))
  subst e
  exact q
theorem sp_lc {z : List LV → LH → Res LV} {vs : List Nat} {fi : EN → LH → Res Src} {g : LV → EN → LH → Res EN} (h : (fi env lh).sp (fun s l => s.items.length ≤ sizeLine ∧ WipeTo env vs fun env0 => (lcL s.chk g t e env0 s.items [] l).sp (fun acc l2 => (z acc l2).sp Q E) noE) E) : (fLc z vs fi g t e env lh).sp Q E := sp_bind (h.imp fun s l ⟨h1, h2⟩ => by
  rw [if_pos h1]; exact sp_bind (sp_noX (wipeTo_is h2)))
/-- .. over given items, the heap as it stands: filter and map -/
theorem lcL_map {α : Type} {chk : LH → Bool} {g : LV → EN → LH → Res EN} {Qa : List LV → LH → Prop} {F : α → LV} {p : α → Bool} {G : α → LV} (hc : chk lh = true)
    (xs : List α) (acc : List LV) (h : ∀ x ∈ xs, (g (F x) env0 lh).sp (fun e1 l => l = lh ∧ (t e1 lh).sp (fun c l2 => l2 = lh ∧ c = p x ∧ (p x = true → (e e1 lh).sp (fun v l3 => l3 = lh ∧ v = G x) noE)) noE) noE) (q : Qa (acc ++ (xs.filter p).map G) lh) : (lcL chk g t e env0 (xs.map F) acc lh).sp Qa noE := by
  induction xs generalizing acc with
  | nil =>
    show Res.sp (lcL chk g t e env0 [] acc lh) Qa noE
    unfold lcL
    rw [if_pos hc]
    show Qa acc lh
    simpa using q
  | cons x xs ih =>
    show Res.sp (lcL chk g t e env0 (F x :: xs.map F) acc lh) Qa noE
    unfold lcL
    rw [if_pos hc]
    have ih := fun acc => ih acc fun y hy => h y (List.mem_cons_of_mem _ hy)
    refine sp_bind ((h x (List.mem_cons_self ..)).imp fun e1 l ⟨el, q1⟩ => ?_)
    rw [el]
    refine sp_bind (q1.imp fun c l2 ⟨el, ec, q2⟩ => ?_)
    rw [el, ec]
    refine Wy.ite ⟨fun hp => sp_bind ((q2 hp).imp fun v l3 ⟨el, ev⟩ => ?_), fun hp => ?_⟩
    · rw [el, ev]
      refine ih _ ?_
      rw [List.filter_cons_of_pos hp] at q
      simpa using q
    · refine ih _ ?_
      rw [List.filter_cons_of_neg (by simp [hp])] at q
      exact q
theorem sp_gN {i : Nat} {x : LV} {Qe : EN → LH → Prop} (h : SetTo env i (some x) fun e => Qe e lh) : (gN i x env lh).sp Qe E := h
theorem sp_gTup {n : Nat} {g : List LV → EN → LH → Res EN} {ps : List PV} {Qe : EN → LH → Prop} (hn : ps.length = n) (h : (g (ps.map .pv) env lh).sp Qe E) : (gTupZ n g (.pv (.tup ps)) env lh).sp Qe E := by
  show (if ps.length = n then g (ps.map .pv) env lh else .stuck).sp Qe E
  rw [if_pos hn]; exact h
theorem sp_gNil {Qe : EN → LH → Prop} (h : Qe env lh) : (gNil [] env lh).sp Qe E := h
theorem sp_gCons {f : LV → EN → LH → Res EN} {g : List LV → EN → LH → Res EN} {x : LV} {r : List LV} {Qe : EN → LH → Prop} (h : (f x env lh).sp (fun e1 l => (g r e1 l).sp Qe E) E) : (gCons f g (x :: r) env lh).sp Qe E := sp_bind h
end
end Z
namespace Z
open PySem PySem.Spec PyProof.Rows L2
section
variable {Q : LV → LH → Prop} {E : LX → LH → Prop} {env env0 : EN} {lh : LH} {f e : EN → LH → Res LV} {fs : EN → LH → Res (List LV)} {t : EN → LH → Res Bool}
def AsI (x : LV) (k : Int → Prop) : Prop := ∃ i, x = .pv (.int i) ∧ k i
theorem asI {i : Int} {k : Int → Prop} (h : k i) : AsI (.pv (.int i)) k := ⟨i, rfl, h⟩
theorem sp_oN {Qo : Option Int → LH → Prop} (q : Qo none lh) : (fOpt none env lh).sp Qo E := q
theorem sp_oS {Qo : Option Int → LH → Prop} (h : (f env lh).sp (fun x l => AsI x fun i => Qo (some i) l) E) : (fOpt (some f) env lh).sp Qo E := sp_bind (h.imp fun x l ⟨i, e, q⟩ => by subst e; exact q)
theorem sp_sl {lo hi : Option (EN → LH → Res LV)} (h : (f env lh).sp (fun x l => (fOpt lo env l).sp (fun i l2 => (fOpt hi env l2).sp (fun j l3 => (zSl x i j l3).sp Q E) E) E) E) : (fSl f lo hi env lh).sp Q E := sp_bind (h.imp fun _ _ q => sp_bind (q.imp fun _ _ q => sp_bind q))
theorem sp_slL {ps : List PV} {i j : Option Int} (q : Q (.pv (.lst (cutL ps i j))) lh) : (zSl (.pv (.lst ps)) i j lh).sp Q E := by
  show Res.sp (match pvs (cutL (ps.map LV.pv) i j) with | some ps => Res.ok (.pv (.lst ps)) lh | none => .stuck) Q E
  rw [cutL_map, pvs_map]; exact q
theorem sp_slT {ps : List PV} {i j : Option Int} (q : Q (.pv (.tup (cutL ps i j))) lh) : (zSl (.pv (.tup ps)) i j lh).sp Q E := q
theorem sp_slC {xs : List Int} {i j : Option Int} (q : Q (.pv (.lst ((cutL xs i j).map .int))) lh) : (zSl (.pv (.scr xs)) i j lh).sp Q E := q
theorem two_ex {a b : LV} {k : LV → LV → Prop} (h : k a b) : ∃ x y, [a, b] = [x, y] ∧ k x y := ⟨a, b, rfl, h⟩
theorem src_pl {ps : List PV} {l : LH} {k : List LV → Prop} (h : k (ps.map .pv)) : ∃ xs, lstOf (.pv (.lst ps)) l = some xs ∧ k xs := ⟨_, rfl, h⟩
theorem src_tup {ps : List PV} {k : List PV → Prop} (h : k ps) : ∃ xs, tupOf (.pv (.tup ps)) = some xs ∧ k xs := ⟨_, rfl, h⟩
theorem src_dct {ps : List (PV × PV)} {k : List (PV × PV) → Prop} (h : k ps) : ∃ xs, LV.pv (.dct ps) = .pv (.dct xs) ∧ k xs := ⟨_, rfl, h⟩
theorem rng_ex {n : Nat} {k : Nat → Prop} (h : n < 1000000) (q : k n) : ∃ m : Nat, [LV.pv (.int (n : Int))] = [.pv (.int m)] ∧ m < 1000000 ∧ k m := ⟨n, rfl, h, q⟩
def PvsTo (xs : List LV) (k : List PV → Prop) : Prop := ∃ ps, pvs xs = some ps ∧ k ps
theorem pvsTo_n {k : List PV → Prop} (h : k []) : PvsTo [] k := ⟨[], rfl, h⟩
theorem pvsTo_c {p : PV} {xs : List LV} {k : List PV → Prop} (h : PvsTo xs fun ps => k (p :: ps)) : PvsTo (.pv p :: xs) k := by
  obtain ⟨ps, e, q⟩ := h
  exact ⟨p :: ps, by simp [pvs, e], q⟩
theorem pvsTo_m {ps : List PV} {k : List PV → Prop} (h : k ps) : PvsTo (ps.map .pv) k := ⟨ps, pvs_map ps, h⟩
theorem sp_lstP {xs : List LV} (q : PvsTo xs fun ps => Q (.pv (.lst ps)) lh) : (zLst xs lh).sp Q E := by
  obtain ⟨ps, e, q⟩ := q
  exact sp_lst e q
theorem sp_tupP {xs : List LV} (q : PvsTo xs fun ps => Q (.pv (.tup ps)) lh) : (zTup xs lh).sp Q E := by
  obtain ⟨ps, e, q⟩ := q
  exact sp_tup e q
def PutTo (o i v : LV) (lh : LH) (k : LH → Prop) : Prop := ∃ l3, zPut o i v lh = some l3 ∧ k l3
theorem sp_gSub {fo fi : EN → LH → Res LV} {x : LV} {Qe : EN → LH → Prop} (h : (fo env lh).sp (fun o l => (fi env l).sp (fun i l2 => PutTo o i x l2 fun l3 => Qe env l3) E) E) : (gSubZ fo fi x env lh).sp Qe E :=
  sp_bind (h.imp fun o l q => sp_bind (q.imp fun i l2 ⟨l3, e, q⟩ => by rw [e]; exact q))
theorem putTo_d {n : Nat} {kvs : List (PV × PV)} {key v : PV} {k : LH → Prop} (h : lh[n]? = some (.dct (upP kvs))) (hk : isKey key = true) (hl : kvs.length < sizeLine) (q : k (lh.set n (.dct (upP (putP kvs key v))))) : PutTo (.ref n) (.pv key) (.pv v) lh k := by
  refine ⟨_, ?_, q⟩
  unfold zPut
  simp only [h]
  rw [if_pos ⟨hk, by simpa using hl⟩, putD_up]
theorem sp_frzP {p : PV} (q : Q (.pv p) lh) : (zFrz (.pv p) lh).sp Q E := q
theorem sp_frzR {n : Nat} {o : LO} {p : PV} (h : lh[n]? = some o) (h2 : frzO o = some p) (q : Q (.pv p) (lh.set n .dead)) : (zFrz (.ref n) lh).sp Q E := by
  unfold zFrz
  simp only [h, h2]; exact q
theorem sp_frzD {n : Nat} {kvs : List (PV × PV)} (h : lh[n]? = some (.dct (upP kvs))) (q : Q (.pv (.dct kvs)) (lh.set n .dead)) : (zFrz (.ref n) lh).sp Q E := sp_frzR h (by show (pvsD (upP kvs)).map PV.dct = _; rw [pvsD_map]; rfl) q
theorem sp_mkK {y : List LV → LH → Res LV} {b : List LV → List LV → List LV} {fas fks : EN → LH → Res (List LV)} (h : (fas env lh).sp (fun xs l => (fks env l).sp (fun zs l2 => (y (b xs zs) l2).sp Q E) E) E) : (fMakeK y b fas fks env lh).sp Q E := sp_bind (h.imp fun _ _ q => sp_bind q)
theorem sp_mkD0' {y : List LV → LH → Res LV} (h : (fs env lh).sp (fun xs l => (y xs l).sp Q E) E) : (fMakeD y [] fs env lh).sp Q E := sp_bind (h.imp fun xs l q => by rw [List.append_nil]; exact q)
end
section
variable {E : LX → LH → Prop} {env0 : EN} {lh : LH} {e : EN → LH → Res LV} {t : EN → LH → Res Bool}
theorem lcL_some {α : Type} {chk : LH → Bool} {g : LV → EN → LH → Res EN} {Qa : List LV → LH → Prop} {F G : α → LV} (Hi : LH → Prop) (hc : ∀ l, Hi l → chk l = true)
    (xs : List α) (acc : List LV) (h : ∀ x ∈ xs, ∀ l, Hi l → (g (F x) env0 l).sp (fun e1 l1 => (t e1 l1).sp (fun c l2 => Wy c ((e e1 l2).sp (fun v l3 => Hi l3 ∧ v = G x) noE) (Hi l2)) noE) noE)
    (q : ∀ (ys : List α) l, Hi l → ys.length ≤ xs.length → (∀ y ∈ ys, y ∈ xs) → Qa (acc ++ ys.map G) l) (h0 : Hi lh) : (lcL chk g t e env0 (xs.map F) acc lh).sp Qa noE := by
  induction xs generalizing acc lh with
  | nil =>
    show Res.sp (lcL chk g t e env0 [] acc lh) Qa noE
    unfold lcL
    rw [if_pos (hc _ h0)]
    show Qa acc lh
    have := q [] lh h0 (Nat.le_refl _) (fun y hy => nomatch hy)
    simpa using this
  | cons x xs ih =>
    show Res.sp (lcL chk g t e env0 (F x :: xs.map F) acc lh) Qa noE
    unfold lcL
    rw [if_pos (hc _ h0)]
    refine sp_bind ((h x (List.mem_cons_self ..) lh h0).imp fun e1 l1 q1 => sp_bind (q1.imp fun c l2 q2 => Wy.ite ⟨fun hp => sp_bind ((q2.1 hp).imp fun v l3 ⟨hl, ev⟩ => ?_), fun hp => ?_⟩))
    · rw [ev]
      refine ih _ (fun y hy => h y (List.mem_cons_of_mem _ hy)) (fun ys l hl' hn hm => ?_) hl
      have := q (x :: ys) l hl' (by simpa using hn) (fun y hy => by
        rcases List.mem_cons.mp hy with rfl | hy
        · exact List.mem_cons_self ..
        · exact List.mem_cons_of_mem _ (hm y hy))
      simpa using this
    · exact ih _ (fun y hy => h y (List.mem_cons_of_mem _ hy)) (fun ys l hl' hn hm => q ys l hl' (by simp; omega) fun y hy => List.mem_cons_of_mem _ (hm y hy)) (q2.2 hp)
end
end Z
namespace Z
open PySem PySem.Spec PyProof.Rows L2
section
variable {X : Cx} {Wx : WX}
def zRep (x y : LV) (lh : LH) : Res LV := match lstOf x lh, y with
  | some xs, .pv (.int n) => if n < 2 ^ 62 ∧ -(2 ^ 62) < n ∧ xs.length * n.toNat ≤ sizeLine then (match pvs xs with
    | some ps => .ok (.pv (.lst (List.replicate n.toNat ps).flatten)) lh
    | none => .stuck) else .stuck
  | _, _ => .stuck
def zipP (ps qs : List PV) : List LV := (ps.zip qs).map fun p => .pv (.tup [p.1, p.2])
def zipSrc (xs : List LV) (lh : LH) : Res Src := match xs with
  | [x, y] => (match lstOf x lh, lstOf y lh with
    | some as, some bs => (match pvs as, pvs bs with
      | some ps, some qs => .ok ⟨fun l => sameO (lstOf x l) as && sameO (lstOf y l) bs, zipP ps qs⟩ lh
      | _, _ => .stuck)
    | _, _ => (match tupOf x, tupOf y with
      | some ps, some qs => .ok ⟨yes, zipP ps qs⟩ lh
      | _, _ => .stuck))
  | _ => .stuck
def fZip (fas : EN → LH → Res (List LV)) (env : EN) (lh : LH) : Res Src := (fas env lh).bind zipSrc
theorem Reps.get [L : LamC] [S : Susp] {K : PySem.W.Frag} {mg : Str → Option Value} {W : Wd} {xs : List PV} {vs : List V} (h : Reps K mg W xs vs) {i : Nat} {p : PV} (hp : xs[i]? = some p) : ∃ v, vs[i]? = some v ∧ Rep K mg W p v := by
  obtain ⟨v, h1, h2⟩ := h.l.get (i := i) (x := .pv p) (by rw [List.getElem?_map, hp]; rfl)
  exact ⟨v, h1, h2⟩
variable {e e2 : Expr} {p pos tpos : Pos} {elts : List Expr} {kk : Nat} {fas : EN → LH → Res (List LV)}
def joinZ (a : Str) (y : LV) (lh : LH) : Res LV := match lstOf y lh with
  | some ys => (match szOf ys with
    | some ss => if (ss.map (·.length)).sum + ss.length * a.length ≤ 16777216 then .ok (.pv (.str (Txt.join a ss))) lh else .stuck
    | none => .stuck)
  | none => .stuck
def joinK (fe : EN → LH → Res LV) (env : EN) (x : LV) (lh : LH) : Res LV := match x with
  | .pv (.str a) => (fe env lh).bind (joinZ a)
  | _ => .stuck
def fJoin (fo fe : EN → LH → Res LV) (env : EN) (lh : LH) : Res LV := (fo env lh).bind (joinK fe env)
end
end Z
namespace Z
open PySem PySem.Spec PyProof.Rows L2
section
variable {Q : LV → LH → Prop} {E : LX → LH → Prop} {env : EN} {lh : LH} {f g : EN → LH → Res LV} {fs : EN → LH → Res (List LV)} {Qi : Src → LH → Prop}
def isiO (ks : List Str) (oc : Str → Str → Bool) (x : LV) (c : PV) (lh : LH) : Option Bool := match tyO x lh, tyT c with
  | some t, some u => subT ks oc t u
  | _, _ => none
theorem sp_isi {ks : List Str} {oc : Str → Str → Bool} {x : LV} {c : PV} {b : Bool} (h : isiO ks oc x c lh = some b) (q : Q (.pv (.bl b)) lh) : (zIsi ks oc [x, .pv c] lh).sp Q E := by
  unfold isiO at h
  unfold zIsi
  split at h
  · next t u e1 e2 => simp only [e1, e2, h]; exact q
  · cases h
theorem sp_isiT {ks : List Str} {oc : Str → Str → Bool} {x : LV} {c : PV} (h : isiO ks oc x c lh = some true) (q : Q (.pv (.bl true)) lh) : (zIsi ks oc [x, .pv c] lh).sp Q E := sp_isi h q
theorem sp_isiF {ks : List Str} {oc : Str → Str → Bool} {x : LV} {c : PV} (h : isiO ks oc x c lh = some false) (q : Q (.pv (.bl false)) lh) : (zIsi ks oc [x, .pv c] lh).sp Q E := sp_isi h q
theorem sp_lenL {ps : List PV} (q : Q (.pv (.int ps.length)) lh) : (zLenA [.pv (.lst ps)] lh).sp Q E := by
  show Q (.pv (.int (ps.map LV.pv).length)) lh
  rw [List.length_map]; exact q
theorem sp_lenT {ps : List PV} (q : Q (.pv (.int ps.length)) lh) : (zLenA [.pv (.tup ps)] lh).sp Q E := q
theorem sp_lenS {z : Str} (h : z.length ≤ sizeLine) (q : Q (.pv (.int z.length)) lh) : (zLenA [.pv (.str z)] lh).sp Q E := by
  show Res.sp (if z.length ≤ sizeLine then _ else _) Q E
  rw [if_pos h]; exact q
theorem sp_all {F : List Bool → Bool} {xs : List LV} {x : LV} {bs : List Bool} (h1 : lstOf x lh = some xs) (h2 : blsOf xs = some bs) (q : Q (.pv (.bl (F bs))) lh) : (zAll F [x] lh).sp Q E := by
  unfold zAll
  simp only [h1, h2]; exact q
theorem sp_allL {F : List Bool → Bool} {bs : List Bool} (q : Q (.pv (.bl (F bs))) lh) : (zAll F [.pv (.lst (bs.map .bl))] lh).sp Q E := sp_all rfl (by rw [List.map_map]; exact blsOf_map bs) q
theorem sp_inS {neg : Bool} {c : Nat} {z : Str} (q : Q (.pv (.bl (xor neg (decide (c ∈ z.cps.toList))))) lh) : (zIn neg (.pv (.str ⟨#[c]⟩)) (.pv (.str z)) lh).sp Q E := q
theorem sp_join (h : (f env lh).sp (fun x l => (joinK g env x l).sp Q E) E) : (fJoin f g env lh).sp Q E := sp_bind h
theorem sp_joinK {a : Str} (h : (g env lh).sp (fun y l => (joinZ a y l).sp Q E) E) : (joinK g env (.pv (.str a)) lh).sp Q E := sp_bind h
theorem sp_zip (h : (fs env lh).sp (fun xs l => (zipSrc xs l).sp Qi E) E) : (fZip fs env lh).sp Qi E := sp_bind h
theorem sp_zipL {ps qs : List PV} (q : Qi ⟨fun _ => true, zipP ps qs⟩ lh) : (zipSrc [.pv (.lst ps), .pv (.lst qs)] lh).sp Qi E := by
  unfold zipSrc
  simp only [lstOf_lst, pvs_map, sameO_self, Bool.and_self]
  exact q
theorem sp_zipT {ps qs : List PV} (q : Qi ⟨yes, zipP ps qs⟩ lh) : (zipSrc [.pv (.tup ps), .pv (.tup qs)] lh).sp Qi E := q
theorem sp_srcS (h : (f env lh).sp (fun x l => ∃ z, x = .pv (.str z) ∧ Qi ⟨yes, chrs z⟩ l) E) : (fSrcS f env lh).sp Qi E := sp_bind (h.imp fun x l ⟨z, e, q⟩ => by subst e; exact q)
theorem src_str {z : Str} {k : Str → Prop} (h : k z) : ∃ y, LV.pv (.str z) = .pv (.str y) ∧ k y := ⟨z, rfl, h⟩
end
theorem wy_dT {p : Prop} [Decidable p] {A B : Prop} (hp : p) (h : A) : Wy (decide p) A B := wy_d (fun _ => h) (fun z => absurd hp z)
theorem wy_dF {p : Prop} [Decidable p] {A B : Prop} (hp : ¬ p) (h : B) : Wy (decide p) A B := wy_d (fun z => absurd z hp) (fun _ => h)
theorem pds_strs : ∀ ss : List Str, pds (ss.map PV.str) = some (ss.map PyData.str)
  | [] => rfl
  | n :: ns => by
    show (some (PyData.str n)).bind (fun d => (pds (ns.map PV.str)).map fun ds => d :: ds) = _
    rw [pds_strs ns]; rfl
theorem lay_strs : ∀ {ss : List Str}, (∀ s ∈ ss, PyData.strOk s = true) → PyData.canLayAll0 (ss.map PyData.str) = true
  | [], _ => rfl
  | s :: ss, h => by
    show (PyData.canLay0 (.str s) && PyData.canLayAll0 (ss.map PyData.str)) = true
    rw [lay_strs fun t ht => h t (List.mem_cons_of_mem _ ht)]
    show (PyData.canLay0 (.str s) && true) = true
    unfold PyData.canLay0
    rw [h s (List.mem_cons_self ..)]; rfl
theorem dep_strs : ∀ ss : List Str, PyData.depthAll (ss.map PyData.str) = 0
  | [] => rfl
  | n :: ns => by
    show max (PyData.depth (.str n)) (PyData.depthAll (ns.map PyData.str)) = 0
    rw [dep_strs ns]; rfl
theorem sh_str {s : Str} (h : PyData.strOk s = true) : SeqAt.shaped (.str s) = true := by
  unfold SeqAt.shaped PyData.canLay0
  rw [h]; rfl
theorem sh_strs {ss : List Str} (h : ∀ s ∈ ss, PyData.strOk s = true) : SeqAt.shaped (.list (ss.map PyData.str)) = true := by
  show (PyData.canLayAll0 (ss.map PyData.str) && decide (PyData.depthAll (ss.map PyData.str) + 1 ≤ 64)) = true
  rw [lay_strs h, dep_strs]; rfl
theorem any_strs (s : Str) : ∀ ss : List Str, ((ss.map PyData.str).any fun z => PyData.eqv z (.str s)) = decide (s ∈ ss)
  | [] => rfl
  | n :: ns => by
    rw [List.map_cons, List.any_cons, any_strs s ns]
    show ((n == s) || decide (s ∈ ns)) = _
    rw [Bool.beq_eq_decide_eq]
    by_cases h : n = s
    · simp [h]
    · simp [h, Ne.symm h]
theorem zIn_strT (neg : Bool) (s : Str) (ss : List Str) (lh : LH) (h : PyData.strOk s = true) (hs : ∀ s ∈ ss, PyData.strOk s = true) : zIn neg (.pv (.str s)) (.pv (.tup (ss.map .str))) lh = .ok (.pv (.bl (xor neg (decide (s ∈ ss))))) lh := by
  show zInQ neg (.pv (.str s)) (.pv (.tup (ss.map .str))) lh = _
  unfold zInQ
  have e1 : pdL (.pv (.str s)) lh = some (.str s) := rfl
  have e2 : dsOf (.pv (.tup (ss.map .str))) lh = some (ss.map PyData.str) := by
    show pds (ss.map PV.str) = _
    exact pds_strs ss
  rw [e1, e2]
  simp only [sh_str h, sh_strs hs, and_self, if_true, any_strs]
end Z
namespace Z
open PySem PySem.Spec PyProof.Rows L2 NdefX
/-- a def that closes over __class__, the class at D -/
structure SupD (P : Program) (K : PySem.W.Frag) (name qual : Str) (params : Arguments) (body : List Stmt) (scope : Scope) (D fa : Addr) (fd : FuncData) : Prop where
  ex : ∃ (oc : Value) (od : Option Addr) (doc pm : Value) (an : Option Addr) (cda : Addr) (ct : Value) (osl : Array (Option Value)) (cc : Addr) (co ko : Obj) (vs : Array Value) (file : Str) (tf : Tok),
    fd = PySem.W.fnX name qual params body scope [("__class__", cc)] .none .none doc pm an (.ref cda) ct ∧ K.lookup fa = some ⟨oc, od, .func fd, osl⟩ ∧ PySem.W.codeIn K (.ref cda) qual = true ∧
    K.lookup cc = some co ∧ co.data = .cell (some (.ref D)) ∧ K.lookup cda = some ko ∧ ko.data = .fields vs ∧ vs[2]? = some (.str file tf) ∧ ((P.main.file : Str) == file) = true
end Z
namespace Z
open PySem PySem.Spec PyProof.Rows L2
section
variable {X : Cx} {k : Nat} {g : Addr} {fd : FuncData} {ps : List Str} {z : List LV → LH → Res LV} {c : Str}
def zOwnBin (c : Str) (z : List LV → LH → Res LV) (x y : LV) (lh : LH) : Res LV := match insOf x lh, insOf y lh with
  | some (c1, _), some (c2, _) => if c1 = c ∧ c2 = c then noX (z [x, y] lh) else .stuck
  | _, _ => .stuck
def zOwnInv (c : Str) (z : List LV → LH → Res LV) (x : LV) (lh : LH) : Res LV := match insOf x lh with
  | some (c1, _) => if c1 = c then noX (z [x] lh) else .stuck
  | none => .stuck
def fProp (cs : List Str) (z : List LV → LH → Res LV) (fe : EN → LH → Res LV) (env : EN) (lh : LH) : Res LV := (fe env lh).bind fun x lh1 => match insOf x lh1 with
  | some (c, _) => if c ∈ cs then noX (z [x] lh1) else .stuck
  | none => .stuck
end
end Z
namespace Z
open PySem PySem.Spec PyProof.Rows L2 PySem.Calls PySem.W
theorem supTail_ok {K : PySem.W.Frag} {file qual cls : Str} {cl : List (Str × Addr)} {cd dV kV : Value} (h : supTail K file qual cls cl cd dV kV = true) : ∃ x cc cda, cl = [(x, cc)] ∧ cd = .ref cda ∧ dV = .none ∧ kV = .none ∧ PySem.W.codeIn K (.ref cda) qual = true ∧ cellB K cc (He.ga K cls) = true ∧ fileB K cda file = true := by
  unfold supTail at h
  split at h
  · next x cc cda =>
    obtain ⟨k1, h⟩ := Bool.and_eq_true_iff.mp h
    obtain ⟨k2, k3⟩ := Bool.and_eq_true_iff.mp h
    exact ⟨x, cc, cda, rfl, rfl, rfl, rfl, k1, k2, k3⟩
  · cases h
theorem SupQ.sup {P : Program} {K : PySem.W.Frag} {file : Str} {d : SupQ} (e : fnS K d.at_ = d.val) (h : d.ok K file = true) (hf : ((P.main.file : Str) == file) = true) :
    ∃ fd, SupD P K d.name d.qual d.params d.body d.scope (He.ga K d.cls) (He.fAd K d.at_) fd := by
  unfold fnS at e
  unfold SupQ.ok at h
  cases q : K.lookup (He.fAd K d.at_) with
  | none => rw [q] at h; cases h
  | some o =>
    obtain ⟨oc, od, dt, osl⟩ := o
    rw [q] at h e
    cases dt with
    | func fd =>
      obtain ⟨n1, n2, n3, n4, n5, n6, n7, n8, n9, n10, n11, n12, n13, n14, n15⟩ := fd
      have e2 : (some (n1, n2, n3, n4, n5, n6, n7.map (·.1), n15) : FnSu) = (some (d.name, d.qual, d.params, FuncBody.stmts d.body, d.scope, mainGlobals, [("__class__" : Str)], builtinsNs) : FnSu) := e
      simp only [Option.some.injEq, Prod.mk.injEq] at e2
      obtain ⟨h1, h2, h3, h4, h5, h6, h7, h8⟩ := e2
      subst h1 h2 h3 h4 h5 h6 h8
      obtain ⟨x, cc, cda, z1, z2, z3, z4, k1, k2, k3⟩ := supTail_ok (show supTail K file d.qual d.cls n7 n13 n8 n9 = true from h)
      subst z1 z2 z3 z4
      have hx : x = ("__class__" : Str) := by simpa using h7
      subst hx
      unfold cellB at k2
      split at k2
      · next c1 c2 E c3 hc =>
        unfold fileB at k3
        split at k3
        · next d1 d2 vs d3 hd =>
          split at k3
          · next f tf hv =>
            have e5 := of_decide_eq_true k2
            have e6 := of_decide_eq_true k3
            subst e6
            exact ⟨_, ⟨oc, od, n10, n11, n12, cda, n14, osl, cc, _, _, vs, f, tf, rfl, q, k1, hc, by rw [← e5], hd, rfl, hv, hf⟩⟩
          · cases k3
        · cases k3
      · cases k2
    | _ => cases h
end Z
namespace Z
open PySem PySem.Spec PyProof.Rows L2
def getKz (tbl : List (Str × PV)) (x z : LV) (lh : LH) : Res LV := match x with
  | .pv (.str s) => .ok (((tbl.lookup s).map .pv).getD z) lh
  | _ => .stuck
def fGetK (tbl : List (Str × PV)) (fk fd : EN → LH → Res LV) (env : EN) (lh : LH) : Res LV := (fk env lh).bind fun x lh1 => (fd env lh1).bind fun z lh2 => getKz tbl x z lh2
theorem methB_ok {K : PySem.W.Frag} {C g : Addr} {m : Str} (h : methB K C m g = true) : Meth K C m g := by
  obtain ⟨h1, h⟩ := Bool.and_eq_true_iff.mp h
  obtain ⟨h2, h3⟩ := Bool.and_eq_true_iff.mp h
  exact ⟨He.eqO_ok h1, h2, h3⟩
theorem mthF_in {K : PySem.W.Frag} {mg : Str → Option Value} {c m : Str} {g : Addr} (hg : mg c = some (.ref (He.ga K c))) (hc : Cls K (He.ga K c)) (h : methB K (He.ga K c) m g = true) : MthF K mg c m g := fun C e => by
  rw [hg] at e
  cases e
  exact ⟨hc, methB_ok h⟩
def DefFD [L : LamC] [S : Susp] (P : Program) (w : World) (K : PySem.W.Frag) (mg : Str → Option Value) (base : Heap) (x : Str) (ps : List Str) (dls : List LV) (k : Nat) (m : List LV → LH → Res LV) : Prop :=
  ∃ (f : Addr) (fd : FuncData) (dvs : List V) (ds : List Value), mg x = some (.ref f) ∧ PySem.W.keepIn K (.ref f) = true ∧ L2.Binds K fd ps ds ∧ Vals dvs ds ∧ (∀ W, LReps K mg W dls dvs) ∧ FnOk P w K mg base (L2.CX P w) k f fd ps (SpZ K mg ps.length m)
theorem SaysZ.d {fa : List He.Fa} {fn : List He.DefD} {ts : List He.Tab} {sp : List SupQ} {pa : List He5.DefA} {tf : List He.Defn} {ex : PySem.W.Frag → Bool} {w : World} {h : Heap} {K : PySem.W.Frag} (c : SaysZ fa fn ts sp pa tf ex w h K) : He.SaysD fa fn K := c.t.d
theorem SaysZ.sup {fa : List He.Fa} {fn : List He.DefD} {ts : List He.Tab} {sp : List SupQ} {pa : List He5.DefA} {tf : List He.Defn} {ex : PySem.W.Frag → Bool} {w : World} {h : Heap} {K : PySem.W.Frag} (c : SaysZ fa fn ts sp pa tf ex w h K) (i : Nat) {d : SupQ} (hi : sp[i]? = some d := by rfl) : fnS K d.at_ = d.val := by
  have e := c.s
  have e2 : (sp.map fun d => fnS K d.at_)[i]? = (sp.map SupQ.val)[i]? := by rw [e]
  rw [List.getElem?_map, List.getElem?_map, hi] at e2
  exact Option.some.inj e2
end Z
namespace Z
open PySem PySem.Spec PyProof.Rows L2
def Dflt [L : LamC] [S : Susp] (K : PySem.W.Frag) (mg : Str → Option Value) (fd : FuncData) (ps : List Str) (dls : List LV) : Prop := ∃ (dvs : List V) (ds : List Value), Vals dvs ds ∧ L2.Binds K fd ps ds ∧ ∀ W, LReps K mg W dls dvs
/-- a def that is called with all arguments, and also with its last ones left out -/
def DefFA [L : LamC] [S : Susp] (P : Program) (w : World) (K : PySem.W.Frag) (mg : Str → Option Value) (base : Heap) (x : Str) (ps : List Str) (dls : List LV) (k : Nat) (m : List LV → LH → Res LV) : Prop :=
  ∃ (f : Addr) (fd : FuncData), mg x = some (.ref f) ∧ PySem.W.keepIn K (.ref f) = true ∧ L2.Binds K fd ps [] ∧ Dflt K mg fd ps dls ∧ FnOk P w K mg base (L2.CX P w) k f fd ps (SpZ K mg ps.length m)
section
variable {P : Program} {w : World} {K : PySem.W.Frag} {mg : Str → Option Value} {base : Heap} {x : Str} {ps : List Str} {dls : List LV} {k : Nat} {m : List LV → LH → Res LV}
theorem DefFA.f [L : LamC] [S : Susp] (h : DefFA P w K mg base x ps dls k m) : DefF P w K mg base x ps k m := by
  obtain ⟨f, fd, h1, h2, h3, _, h5⟩ := h
  exact ⟨f, fd, h1, h2, h3, h5⟩
theorem DefFA.d [L : LamC] [S : Susp] (h : DefFA P w K mg base x ps dls k m) : DefFD P w K mg base x ps dls k m := by
  obtain ⟨f, fd, h1, h2, _, ⟨dvs, ds, h3, h4, h6⟩, h5⟩ := h
  exact ⟨f, fd, dvs, ds, h1, h2, h4, h3, h6, h5⟩
end
theorem SupD.binds0 {P : Program} {K : PySem.W.Frag} {name qual : Str} {params : Arguments} {body : List Stmt} {scope : Scope} {D fa : Addr} {fd : FuncData} {ps : List Str} (F : SupD P K name qual params body scope D fa fd)
    (h : ∀ (cl : List (Str × Addr)) (doc pm : Value) (an : Option Addr) (cdv ct : Value) (us : List Value), us.length = ps.length → bindArgs (PySem.W.fnX name qual params body scope cl .none .none doc pm an cdv ct) ⟨us, []⟩ = pure (ps.zip us)) : L2.Binds K fd ps [] := by
  obtain ⟨oc, od, doc, pm, an, cda, ct, osl, cc, co, ko, vs, file, tf, rfl, _⟩ := F.ex
  exact .all (h _ _ _ _ _ _)
end Z
namespace Z
open PySem PySem.Spec PyProof.Rows L2
section
variable {Q : LV → LH → Prop} {E : LX → LH → Prop} {env : EN} {lh : LH} {f g : EN → LH → Res LV} {fs : EN → LH → Res (List LV)} {D : Dn} {c : Str} {z : List LV → LH → Res LV}
/-- a field's value -/
def FldTo (cs : List Str) (n : Str) (x : LV) (lh : LH) (k : LV → Prop) : Prop := ∃ c fs v, insOf x lh = some (c, fs) ∧ c ∈ cs ∧ fs.lookup n = some v ∧ k v
theorem sp_fld {cs : List Str} {n : Str} (h : (f env lh).sp (fun x l => FldTo cs n x l fun v => Q v l) E) : (fFld cs n f env lh).sp Q E := sp_bind (h.imp fun x l ⟨c, fs, v, e, hc, hv, q⟩ => by
  show ((match insOf x l with
    | some (c, fs) => if c ∈ cs then (match fs.lookup n with | some v => Res.ok v l | none => .stuck) else .stuck
    | none => .stuck) : Res LV).sp Q E
  rw [e]
  show ((if c ∈ cs then (match fs.lookup n with | some v => Res.ok v l | none => .stuck) else .stuck) : Res LV).sp Q E
  rw [if_pos hc, hv]; exact q)
theorem sp_prop {cs : List Str} (h : (f env lh).sp (fun x l => (∃ c fs, insOf x l = some (c, fs) ∧ c ∈ cs) ∧ (z [x] l).sp Q noE) E) : (fProp cs z f env lh).sp Q E := sp_bind (h.imp fun x l ⟨⟨c, fs, e, hc⟩, q⟩ => by
  show ((match insOf x l with
    | some (c, _) => if c ∈ cs then noX (z [x] l) else .stuck
    | none => .stuck) : Res LV).sp Q E
  rw [e]
  show ((if c ∈ cs then noX (z [x] l) else .stuck) : Res LV).sp Q E
  rw [if_pos hc]; exact sp_noX q)
theorem sps_fld {cs : List Str} {n : Str} {fo fv : EN → LH → Res LV} (h : (fv env lh).sp (fun y l => (fo env l).sp (fun x l2 => ∃ k c fs, x = .ref k ∧ l2[k]? = some (.ins c fs) ∧ (c ∈ cs ∧ fs.length < 1000) ∧ D.nx env (l2.set k (.ins c (putL n y fs)))) fun e l => D.ex e env l) fun e l => D.ex e env l) : (sFldZ cs n fo fv env lh).sp D :=
  sBind_sp (h.imp fun y l q => sBind_sp (q.imp fun x l2 ⟨k, c, fs, e, h1, h2, q⟩ => by
    subst e
    show ((match l2[k]? with
      | some (.ins c fs) => if c ∈ cs ∧ fs.length < 1000 then SRes.next env (l2.set k (.ins c (putL n y fs))) else .stuck
      | _ => .stuck) : SRes).sp D
    rw [h1]
    show ((if c ∈ cs ∧ fs.length < 1000 then SRes.next env (l2.set k (.ins c (putL n y fs))) else .stuck) : SRes).sp D
    rw [if_pos h2]; exact q))
theorem sp_getK {tbl : List (Str × PV)} (h : (f env lh).sp (fun x l => (g env l).sp (fun y l2 => (getKz tbl x y l2).sp Q E) E) E) : (fGetK tbl f g env lh).sp Q E := sp_bind (h.imp fun _ _ q => sp_bind q)
end
end Z
namespace Z
open PySem PySem.Spec PyProof.Rows L2
section
open PySem.W
variable {prog : Program} {w : World} {A : Around} {E : Value → Shared → Prop} {s : Shared} {K : Frag} {x C f : Addr} {ox : Obj} {od : Option Obj} {b tb : Value}
theorem bound_bi {M : Model} {name : Str} {id : String} {args : List Value} {Q : Option Value → Shared → Prop} (X : K.In s.heap) (I : InstAt s.heap x ox C od) (hs : findIn K (.ref C) name = some (some (.builtin id)))
    (hb : ∀ self, bindSpecial (.builtin id) self = pure (.builtin id, [self])) (h : wpAny M A (call (.builtin id) (.ref x :: args)) (fun v => Q (some v)) E s) : wpAny M A (callSpecialIfBound? (.ref x) name args) Q E s := by
  simp only [callSpecialIfBound?, bindSpecialIfBound?]
  refine wpAny_holding (wpAny_bind (wpAny_bind (wpAny_bind (I.type.here ((looks_findIn X hs).here ?_)))))
  simp only [hb]
  refine wpAny_bind (wpAny_askSetting (wpAny_ite ?_))
  have fin : wpAny M A (call (.builtin id) ([.ref x] ++ args) >>= fun v => pure (some v)) Q E s := wpAny_bind (wpAny_mono h (fun v s' h' => wpAny_pure h') fun _ _ h' => h')
  split
  · exact wpAny_bind (wpAny_pure (wpAny_pure fin))
  · exact wpAny_tryCatch (wpAny_bind (wpAny_pure (wpAny_pure fin)))
theorem call_ne {Q : Value → Shared → Prop} (hu : A.in1.units < cLine) (X : K.In s.heap) (I : InstAt s.heap x ox C od) (hm : mroIn K C (.type "object") = some true) (hs : findIn K (.ref C) "__eq__" = some (some (.ref f))) (hf : isFn K (.ref f) = true)
    (h : wpAny (model prog w) A.in1 (call (.ref f) [.ref x, b]) (fun v s' => ∃ c, v = .bool c ∧ Q (.bool (!c)) s') E s) : wpAny (model prog w) A (call (.builtin "object.__ne__") [.ref x, b]) Q E s := by
  refine wpAny_call (codeAny_call_builtin PySem.F.cmp_object.ne.plain PySem.F.cmpEntry_ne (check_slot (i := "object.__ne__") (owner := "object") (n := "__ne__") PySem.F.cmpKind_ne PySem.F.cmpSplit_ne (I.type.andThen (looks_mroIn X hm)) (PySem.F.cmpArgs_ne _ _) ?_))
  unfold Builtin.«object.__ne__»
  refine wpAny_bind (m := slotArgs "__ne__" 1 _) (wpAny_pure ?_)
  refine wpAny_bind (m := cRoomFor _ _) (wpAny_cRoomFor hu ?_)
  refine wpAny_bind (m := callSpecialIfBound? (.ref x) (Str.ofString "__eq__") _) (ifBound_K X I hs hf (wpAny_mono h (fun r s' hr => ?_) fun _ _ y => y))
  obtain ⟨c, rfl, q⟩ := hr
  exact wpAny_bind (m := truthy (.bool _)) (wpAny_truthy_bool (wpAny_pure q))
theorem ne_K {Q : Value → Shared → Prop} (hu : A.units < cLine) (hu1 : A.in1.units < cLine) (X : K.In s.heap) (I : InstAt s.heap x ox C od) (hb : Looks (model prog w) s.heap (typeOf b) tb) (hn : notFirst K C tb = true)
    (hne : findIn K (.ref C) "__ne__" = some (some (.builtin "object.__ne__"))) (hm : mroIn K C (.type "object") = some true) (hs : findIn K (.ref C) "__eq__" = some (some (.ref f))) (hf : isFn K (.ref f) = true)
    (h : wpAny (model prog w) A.in1 (call (.ref f) [.ref x, b]) (fun v s' => ∃ c, v = .bool c ∧ Q (.bool (!c)) s') E s) : wpAny (model prog w) A (richCompare .NotEq (.ref x) b) Q E s := by
  have one : wpAny (model prog w) A (tryCompare (.ref x) "__ne__" b) (fun r s' => ∃ v, r = some v ∧ Q v s') E s := by
    unfold tryCompare
    refine wpAny_bind (bound_bi X I hne PySem.F.cmp_object.ne.bind (call_ne hu1 X I hm hs hf (wpAny_mono h (fun v s' hv => ?_) fun _ _ e => e)))
    obtain ⟨c, rfl, q⟩ := hv
    exact ⟨c, rfl, wpAny_pure ⟨_, rfl, q⟩⟩
  unfold richCompare
  simp only [oneThing_ref]
  refine wpAny_holding (wpAny_bind (wpAny_cRoomFor hu ?_))
  rw [cmpInfo_NotEq]
  dsimp only
  refine wpAny_bind (I.type.here (wpAny_bind (hb.here ?_)))
  split
  · rename_i q
    have e : subIn K tb (.ref C) = some false := by
      rcases Bool.or_eq_true_iff.mp hn with e | e
      · rw [beq_iff_eq.mp e] at q; simp at q
      · exact beq_iff_eq.mp e
    refine wpAny_bind ((looks_subIn X e).here ?_)
    simp only [Bool.false_eq_true, if_false]
    refine wpAny_bind (wpAny_mono one (fun r s' z => ?_) fun _ _ e => e)
    obtain ⟨v, rfl, hq⟩ := z
    exact wpAny_pure hq
  · refine wpAny_bind (wpAny_pure ?_)
    simp only [Bool.false_eq_true, if_false]
    refine wpAny_bind (wpAny_mono one (fun r s' z => ?_) fun _ _ e => e)
    obtain ⟨v, rfl, hq⟩ := z
    exact wpAny_pure hq
end
section
variable {X : Cx} {k : Nat} {f g : Addr} {fd : FuncData} {ps : List Str} {z : List LV → LH → Res LV} {c : Str} {sp : Sp}
/-- a def of the text, called from further in -/
theorem run_fnA {CX : CXT} {A : Around} {E : L2.St → XK} {pins : List (Addr × Obj)} {σ : L2.St} {H : Hp} {s : Shared} {Q : VK} {us : List Value} {vs : List V} (F : FnOk X.prog X.w X.K X.mg X.base CX k f fd ps sp) (hr : Room k A) (hA : A.frames = X.A.frames) (hb : Binds X.K fd ps []) (hx : PassesAt CX X σ (E σ))
    (I : Inv X pins σ H s) (r : Vals vs us) (h : sp vs H Q (E σ)) : wpAny (model X.prog X.w) A (call (.ref f) us) (EP X pins σ Q) X.xe s := by
  have hl : us.length = ps.length := by rw [← r.length]; exact F.len _ _ _ _ h
  have e0 : Env0 X.prog X.w X.K X.mg X.base A X.stack s H := by
    have e := I.env0
    exact ⟨by rw [hA]; exact e.frames, e.mod, e.bs, e.bsz, e.funs, e.frf, e.hok, e.bare⟩
  refine wpAny_call (codeAny_mono (F.run A X.stack s H ⟨us, []⟩ us vs Q (E σ) hr e0 (by have := hb s us I.kIn (by simpa using hl); simpa using this) r h) fun r s' hq => ?_)
  cases r with
  | error e => exact hx pins H s e s' I hq
  | ok fl =>
    cases fl with
    | ret u => exact I.after hq
    | next => exact False.elim hq
    | brk => exact False.elim hq
    | cont => exact False.elim hq
def rOwnEq (K : PySem.W.Frag) (g : Addr) (neg : Bool) (sp : Sp) : R2 := fun x y H Q => ∃ a C dx fs t, x = .ref a ∧ H a = some (.ins C dx fs) ∧ Cls K C ∧ Meth K C "__eq__" g ∧ (PySem.W.findIn K (.ref C) "__ne__" = some (some (.builtin "object.__ne__")) ∧ PySem.W.mroIn K C (.type "object") = some true) ∧ TyX K H y t ∧ PySem.W.notFirst K C t = true ∧
  sp [x, y] H (fun r H1 => ∃ b : Bool, r = .bl b ∧ Q (.bl (xor neg b)) H1) (fun _ _ _ => False)
theorem op_ownEq (F : FnOk X.prog X.w X.K X.mg X.base (L2.CX X.prog X.w) k g fd ps sp) (hr : Room (k + 1) X.A) (hb : Binds X.K fd ps []) : OpR X (compareOp .Eq) (rOwnEq X.K g false sp) := by
  intro pins s σ H x y v u Q J rx ry hh
  obtain ⟨a, C, dx, fs, t, rfl, hH, cl, mt, hne, ty, hn, hsp⟩ := hh
  cases rx
  obtain ⟨m, fr⟩ := J.fr
  obtain ⟨od, I⟩ := inst_at J hH
  obtain ⟨P, Z, p, _⟩ := kit_of J ry ty
  have hu : X.A.units < cLine := by have := Room.u1 hr; omega
  refine PySem.W.cmp_K (op := .Eq) hu fr J.ok.mod.kin I (Z.ty _ _ J.kIn p) hn mt.at_ mt.fn (thn (run_fnSD (us := [.ref a, u]) (vs := [.ref a, y]) (E := WE WF) F (hr.mono (Nat.le_succ _)) hb .nil (passAt takes0 σ) J (.cons rfl (.cons ry .nil)) hsp) fun r1 s1 ⟨w, H1, J1, r2, b, eb, q⟩ => ?_)
  subst eb
  cases r2
  exact ⟨.bl b, H1, J1, rfl, by simpa using q⟩
theorem op_ownNe (F : FnOk X.prog X.w X.K X.mg X.base (L2.CX X.prog X.w) k g fd ps sp) (hr : Room (k + 1) X.A) (hb : Binds X.K fd ps []) : OpR X (compareOp .NotEq) (rOwnEq X.K g true sp) := by
  intro pins s σ H x y v u Q J rx ry hh
  obtain ⟨a, C, dx, fs, t, rfl, hH, cl, mt, hne, ty, hn, hsp⟩ := hh
  cases rx
  obtain ⟨od, I⟩ := inst_at J hH
  obtain ⟨P, Z, p, _⟩ := kit_of J ry ty
  have hu : X.A.units < cLine := by have := Room.u1 hr; omega
  show wpAny (model X.prog X.w) X.A (richCompare .NotEq (.ref a) u) (EP X pins σ Q) X.xe s
  refine ne_K hu hr.in1.units0 J.kIn I (Z.ty _ _ J.kIn p) hn hne.1 hne.2 mt.at_ mt.fn (wpAny_mono (run_fnA (us := [.ref a, u]) (vs := [.ref a, y]) (E := WE WF) F hr.in1 rfl hb (passAt takes0 σ) J (.cons rfl (.cons ry .nil)) hsp) (fun r1 s1 ⟨w, H1, J1, r2, b, eb, q⟩ => ?_) fun _ _ z => z)
  subst eb
  cases r2
  exact ⟨b, rfl, .bl (!b), H1, J1, rfl, by simpa using q⟩
/-- what the head says of the classes cs with the def at g as ==; ks: the classes that may stand right -/
structure EqF (K : PySem.W.Frag) (mg : Str → Option Value) (cs ks : List Str) (g : Addr) : Prop where
  m : ∀ c ∈ cs, MthF K mg c "__eq__" g
  ne : ∀ c ∈ cs, ∀ C, mg c = some (.ref C) → PySem.W.findIn K (.ref C) "__ne__" = some (some (.builtin "object.__ne__")) ∧ PySem.W.mroIn K C (.type "object") = some true
  nf : ∀ c ∈ cs, ∀ d ∈ ks, ∀ C D, mg c = some (.ref C) → mg d = some (.ref D) → PySem.W.notFirst K C (.ref D) = true
theorem nf_ty {K : PySem.W.Frag} {C : Addr} {t : Ty} (h : ∀ c, t ≠ .own c) : PySem.W.notFirst K C (.type t.nm) = true := by
  have key : ∀ n ∈ bNames, (PySem.fastBuiltinMro n).map (fun l => l.all fun v => match v with | .type _ => true | _ => false) = some true := by decide +kernel
  have h2 := key t.nm (nm_mem h)
  obtain ⟨l, hl, ha⟩ := Option.map_eq_some_iff.mp h2
  unfold PySem.W.notFirst
  have e : PySem.W.subIn K (.type t.nm) (.ref C) = some false := by
    show (PySem.fastBuiltinMro t.nm).map (fun l => l.contains (Value.ref C)) = some false
    rw [hl, Option.map_some]
    refine congrArg some ?_
    rw [List.contains_eq_any_beq, List.any_eq_false]
    intro v hv hc
    have := List.all_eq_true.mp ha v hv
    have e2 := beq_iff_eq.mp hc
    subst e2
    cases this
  rw [e]; simp
def ownOK (ks : List Str) : Ty → Bool
  | .own c => decide (c ∈ ks)
  | _ => true
def zOwnEq (neg : Bool) (cs ks : List Str) (z : List LV → LH → Res LV) (x y : LV) (lh : LH) : Res LV := match insOf x lh, tyO y lh with
  | some (c, _), some t => if c ∈ cs ∧ ownOK ks t = true then blNeg neg (z [x, y] lh) else .stuck
  | _, _ => .stuck
theorem zOwnEq_end [L : LamC] [S : Susp] {neg : Bool} {cs ks : List Str} {oc : Str → Str → Bool} {W : Wd} {E : XK} {x y : LV} {lh : LH} {v w : V} {Q : VK} (hm : EqF X.K X.mg cs ks g) (ho : OwnF X.K X.mg ks oc) (hp : ps.length = 2) (l : LhR X.K X.mg W lh) (rx : LRep X.K X.mg W x v) (ry : LRep X.K X.mg W y w) (q : tR X.K X.mg (LRep X.K X.mg) W E (zOwnEq neg cs ks z x y lh) Q) :
    rOwnEq X.K g neg (SpZ X.K X.mg ps.length z) v w W.H Q := by
  unfold zOwnEq at q
  split at q
  · next c fs t hx hy =>
    split at q
    · next hc =>
      obtain ⟨a, C, dx, vfs, rfl, hH, gC, r⟩ := ins_rd l rx hx
      obtain ⟨cl, mt⟩ := hm.m c hc.1 C gC
      obtain ⟨u, tx, tv⟩ := tyOf_rep l ry hy fun d e D gD => ho.ins d (by subst e; exact of_decide_eq_true hc.2) D gD
      have hnf : PySem.W.notFirst X.K C u = true := by
        cases tv with
        | b nt => exact nf_ty nt
        | @o d D gD => exact hm.nf c hc.1 d (of_decide_eq_true hc.2) C D gC gD
      refine ⟨a, C, dx, vfs, u, rfl, hH, cl, mt, hm.ne c hc.1 C gC, tx, hnf, by rw [hp]; rfl, W, [x, y], lh, rfl, l, .cons rx (.cons ry .nil), ?_⟩
      unfold blNeg at q
      split at q
      · next b lh1 e =>
        rw [e]
        intro u W1 e1 l1 r1
        cases r1
        exact ⟨b, rfl, q _ W1 e1 l1 Rep.bl⟩
      · exact q.elim
    · exact q.elim
  · exact q.elim
def EqD [L : LamC] [S : Susp] (P : Program) (w : World) (K : PySem.W.Frag) (mg : Str → Option Value) (base : Heap) (cs ks : List Str) (ps : List Str) (k : Nat) (z : List LV → LH → Res LV) : Prop :=
  ∃ (g : Addr) (fd : FuncData), EqF K mg cs ks g ∧ L2.Binds K fd ps [] ∧ FnOk P w K mg base (L2.CX P w) k g fd ps (SpZ K mg ps.length z)
theorem oz_ownEq [L : LamC] [S : Susp] {cs ks : List Str} {oc : Str → Str → Bool} (D : EqD X.prog X.w X.K X.mg X.base cs ks ps k z) (ho : OwnF X.K X.mg ks oc) (hr : Room (k + 1) X.A) (hp : ps.length = 2) : OpZ X (compareOp .Eq) (zOwnEq false cs ks z) := by
  obtain ⟨g, fd, hm, hb, F⟩ := D
  exact .of (op_ownEq F hr hb) fun W E x y lh v w Q l rx ry q => zOwnEq_end hm ho hp l rx ry q
theorem oz_ownNe [L : LamC] [S : Susp] {cs ks : List Str} {oc : Str → Str → Bool} (D : EqD X.prog X.w X.K X.mg X.base cs ks ps k z) (ho : OwnF X.K X.mg ks oc) (hr : Room (k + 1) X.A) (hp : ps.length = 2) : OpZ X (compareOp .NotEq) (zOwnEq true cs ks z) := by
  obtain ⟨g, fd, hm, hb, F⟩ := D
  exact .of (op_ownNe F hr hb) fun W E x y lh v w Q l rx ry q => zOwnEq_end hm ho hp l rx ry q
theorem eqF_of {K : PySem.W.Frag} {mg : Str → Option Value} {cs ks : List Str} {g : Addr} (hg : ∀ c ∈ cs, mg c = some (.ref (He.ga K c))) (hc : ∀ c ∈ cs, Cls K (He.ga K c)) (hg2 : ∀ c ∈ ks, mg c = some (.ref (He.ga K c))) (h : eqB K cs ks g = true) : EqF K mg cs ks g := by
  have key : ∀ c C, mg c = some (.ref (He.ga K c)) → mg c = some (.ref C) → C = He.ga K c := fun c C h1 h2 => by
    rw [h1] at h2
    cases h2; rfl
  refine ⟨fun c hcs => ?_, fun c hcs C gC => ?_, fun c hcs d hd C D gC gD => ?_⟩
  · exact mthF_in (hg c hcs) (hc c hcs) (Bool.and_eq_true_iff.mp (List.all_eq_true.mp h c hcs)).1
  · have := key c C (hg c hcs) gC
    subst this
    obtain ⟨_, a⟩ := Bool.and_eq_true_iff.mp (List.all_eq_true.mp h c hcs)
    obtain ⟨a1, a⟩ := Bool.and_eq_true_iff.mp a
    exact ⟨He.eqO_ok a1, of_decide_eq_true (Bool.and_eq_true_iff.mp a).1⟩
  · have e1 := key c C (hg c hcs) gC
    have e2 := key d D (hg2 d hd) gD
    subst e1; subst e2
    obtain ⟨_, a⟩ := Bool.and_eq_true_iff.mp (List.all_eq_true.mp h c hcs)
    obtain ⟨_, a⟩ := Bool.and_eq_true_iff.mp a
    exact List.all_eq_true.mp (Bool.and_eq_true_iff.mp a).2 d hd
end
end Z
namespace Z
open PySem PySem.Spec PyProof.Rows L2
section
variable {X : Cx} {Wx : WX} {e : Expr} {fe : EN → LH → Res LV} {pos : Pos}
def zFmt (x : LV) (lh : LH) : Res LV := match x with
  | .pv (.str y) => if y.length ≤ sizeLine then .ok (.pv (.str y)) lh else .stuck
  | .pv (.int i) => if i.natAbs.log2 < 1920 then .ok (.pv (.str (toString i))) lh else .stuck
  | _ => .stuck
theorem fe_fmt [L : LamC] [S : Susp] (he : FE X Wx e fe) : FE X Wx (.FormattedValue e (-1) none pos) (fUn zFmt fe) := by
  refine PE.imp (pe_fmt he) fun σ H Q ⟨W, env, lh, hH, sr, h⟩ => ?_
  subst hH
  refine go (k := fun x lh1 => zFmt x lh1) sr h fun x lh1 v W1 e1 s1 r1 h1 => ?_
  unfold zFmt at h1
  split at h1
  · next y =>
    split at h1
    · next hz => rw [str_inv r1]; exact .inl ⟨y, rfl, hz, fin h1 s1.lh Rep.str⟩
    · exact h1.elim
  · next i =>
    split at h1
    · next hz => rw [int_inv r1]; exact .inr ⟨i, rfl, hz, fin h1 s1.lh Rep.str⟩
    · exact h1.elim
  · exact h1.elim
/-- the parts one behind the other -/
def jsL : List (EN → LH → Res LV) → Str → EN → LH → Res LV
  | [], acc, _, lh => .ok (.pv (.str acc)) lh
  | f :: fs, acc, env, lh => (f env lh).bind fun x lh1 => match x with
    | .pv (.str y) => if (acc ++ y).length ≤ sizeLine then jsL fs (acc ++ y) env lh1 else .stuck
    | _ => .stuck
inductive FJ [L : LamC] [S : Susp] (X : Cx) (Wx : WX) : List Expr → List (EN → LH → Res LV) → Prop
  | nil : FJ X Wx [] []
  | cons {e : Expr} {f : EN → LH → Res LV} {es : List Expr} {fs : List (EN → LH → Res LV)} : FE X Wx e f → FJ X Wx es fs → FJ X Wx (e :: es) (f :: fs)
theorem fj_nil [L : LamC] [S : Susp] : FJ X Wx [] [] := .nil
theorem fj_cons [L : LamC] [S : Susp] {e : Expr} {f : EN → LH → Res LV} {es : List Expr} {fs : List (EN → LH → Res LV)} (h : FE X Wx e f) (t : FJ X Wx es fs) : FJ X Wx (e :: es) (f :: fs) := .cons h t
theorem FJ.pj [L : LamC] [S : Susp] {es : List Expr} {fs : List (EN → LH → Res LV)} (h : FJ X Wx es fs) : PJ X es (fs.map fun f => tF X.K X.mg Wx f) := by
  induction h with
  | nil => exact .nil
  | cons h _ ih => exact .cons h ih
theorem jsL_t [L : LamC] [S : Susp] : ∀ (fs : List (EN → LH → Res LV)) (acc : Str) {σ : L2.St} {W : Wd} {env : EN} {lh : LH} {Q : VK}, SR X.K X.mg W σ env lh → tR X.K X.mg (LRep X.K X.mg) W (WE Wx σ) (jsL fs acc env lh) Q → tJs (fs.map fun f => tF X.K X.mg Wx f) acc σ W.H fun out H1 => Q (.str out) H1
  | [], acc, σ, W, env, lh, Q, sr, h => fin h sr.lh Rep.str
  | f :: fs, acc, σ, W, env, lh, Q, sr, h => by
    refine go (k := fun x lh1 => match x with | .pv (.str y) => if (acc ++ y).length ≤ sizeLine then jsL fs (acc ++ y) env lh1 else .stuck | _ => .stuck) sr h fun x lh1 v W1 e1 s1 r1 h1 => ?_
    split at h1
    · next y =>
      split at h1
      · next hz => rw [str_inv r1]; exact ⟨y, rfl, hz, jsL_t fs _ s1 h1⟩
      · exact h1.elim
    · exact h1.elim
theorem fe_joined [L : LamC] [S : Susp] {v1 v2 : Expr} {rest : List Expr} {fs : List (EN → LH → Res LV)} (h : FJ X Wx (v1 :: v2 :: rest) fs) : FE X Wx (.JoinedStr (v1 :: v2 :: rest) pos) (jsL fs Str.empty) := by
  refine PE.imp (pe_joined h.pj) fun σ H Q ⟨W, env, lh, hH, sr, h⟩ => ?_
  subst hH
  exact jsL_t fs _ sr h
def intsOf : List LV → Option (List Int)
  | [] => some []
  | .pv (.int i) :: r => (intsOf r).map (i :: ·)
  | _ :: _ => none
@[simp] theorem intsOf_map (is : List Int) : intsOf (is.map fun i => LV.pv (.int i)) = some is := by
  induction is with
  | nil => rfl
  | cons b bs ih => simp [intsOf, ih]
def zSum (xs : List LV) (lh : LH) : Res LV := match xs with
  | [x] => (match lstOf x lh with
    | some ys => (match intsOf ys with
      | some is => .ok (.pv (.int is.sum)) lh
      | none => .stuck)
    | none => .stuck)
  | _ => .stuck
end
section
variable {X : Cx} {k : Nat} {g : Addr} {fd : FuncData} {ps : List Str} {z : List LV → LH → Res LV} {c m : Str} {sp : Sp}
def rOwnS (K : PySem.W.Frag) (m : Str) (g : Addr) (sp : Sp) : List V → Hp → VK → Prop := fun xs H Q => ∃ a C dx fs, xs = [.ref a] ∧ H a = some (.ins C dx fs) ∧ Cls K C ∧ Meth K C m g ∧ sp [.ref a] H (fun r H1 => ∃ y : Str, r = .str y ∧ Q (.str y) H1) (fun _ _ _ => False)
def strR (r : Res LV) : Res LV := match r with
  | .ok (.pv (.str y)) lh => .ok (.pv (.str y)) lh
  | _ => .stuck
def zOwnS (cs : List Str) (z : List LV → LH → Res LV) (xs : List LV) (lh : LH) : Res LV := match xs with
  | [x] => (match insOf x lh with
    | some (c, _) => if c ∈ cs then strR (z [x] lh) else .stuck
    | none => .stuck)
  | _ => .stuck
def MthsF (K : PySem.W.Frag) (mg : Str → Option Value) (cs : List Str) (m : Str) (g : Addr) : Prop := ∀ c ∈ cs, MthF K mg c m g
theorem mthsF_nil {K : PySem.W.Frag} {mg : Str → Option Value} {m : Str} {g : Addr} : MthsF K mg [] m g := fun c h => nomatch h
theorem mthsF_cons {K : PySem.W.Frag} {mg : Str → Option Value} {c m : Str} {cs : List Str} {g : Addr} (h : MthF K mg c m g) (t : MthsF K mg cs m g) : MthsF K mg (c :: cs) m g := fun d hd => by
  rcases List.mem_cons.mp hd with z | z
  · subst z; exact h
  · exact t d z
theorem zOwnS_end [L : LamC] [S : Susp] {cs : List Str} {W : Wd} {E : XK} {xs : List LV} {lh : LH} {vs : List V} {Q : VK} (hm : MthsF X.K X.mg cs m g) (hp : ps.length = 1) (l : LhR X.K X.mg W lh) (r : LReps X.K X.mg W xs vs) (q : tR X.K X.mg (LRep X.K X.mg) W E (zOwnS cs z xs lh) Q) : rOwnS X.K m g (SpZ X.K X.mg ps.length z) vs W.H Q := by
  unfold zOwnS at q
  split at q
  · next x =>
    obtain ⟨v, rfl, r1⟩ := reps1 r
    split at q
    · next c fs hx =>
      split at q
      · next hc =>
        obtain ⟨a, C, dx, vfs, rfl, hH, gC, _⟩ := ins_rd l r1 hx
        obtain ⟨cl, mt⟩ := hm c hc C gC
        refine ⟨a, C, dx, vfs, rfl, hH, cl, mt, by rw [hp]; rfl, W, [x], lh, rfl, l, .cons r1 .nil, ?_⟩
        unfold strR at q
        split at q
        · next y lh1 e =>
          rw [e]
          intro u W1 e1 l1 r1
          rw [str_inv r1]
          exact ⟨y, rfl, q _ W1 e1 l1 Rep.str⟩
        · exact q.elim
      · exact q.elim
    · exact q.elim
  · exact q.elim
end
end Z
namespace Z
open PySem PySem.Spec PyProof.Rows L2
def lc2L (chk : LH → Bool) (g : LV → EN → LH → Res EN) (t : EN → LH → Res Bool) (fi1 : EN → LH → Res Src) (vs1 : List Nat) (g1 : LV → EN → LH → Res EN) (t1 : EN → LH → Res Bool) (e : EN → LH → Res LV) (env0 : EN) : List LV → List LV → LH → Res (List LV)
  | [], acc, lh => if chk lh = true then .ok acc lh else .stuck
  | y :: r, acc, lh => if chk lh = true then
      ((g y env0 lh).bind fun env1 lh1 => (t env1 lh1).bind fun b lh2 => if b = true then (fi1 env1 lh2).bind fun s1 lh3 => if acc.length + s1.items.length ≤ sizeLine then (lcL s1.chk g1 t1 e (wipeE env1 vs1) s1.items acc lh3).bind fun acc2 lh4 => lc2L chk g t fi1 vs1 g1 t1 e env0 r acc2 lh4 else .stuck
        else lc2L chk g t fi1 vs1 g1 t1 e env0 r acc lh2) else .stuck
def fLc2 (z : List LV → LH → Res LV) (vs : List Nat) (fi : EN → LH → Res Src) (g : LV → EN → LH → Res EN) (t : EN → LH → Res Bool) (fi1 : EN → LH → Res Src) (vs1 : List Nat) (g1 : LV → EN → LH → Res EN) (t1 : EN → LH → Res Bool) (e : EN → LH → Res LV) (env : EN) (lh : LH) : Res LV :=
  (fi env lh).bind fun s lh1 => (noX (lc2L s.chk g t fi1 vs1 g1 t1 e (wipeE env vs) s.items [] lh1)).bind z
end Z
namespace Z
open PySem PySem.Spec PyProof.Rows L2
section
variable {X : Cx} {Wx : WX} {k : Nat} {g : Addr} {fd : FuncData} {ps : List Str} {z : List LV → LH → Res LV} {c m : Str} {sp : Sp}
def zLenR (x : LV) (lh : LH) : Res LV := match x with
  | .pv (.int n) => if 0 ≤ n ∧ n < 2 ^ 62 then .ok (.pv (.int n)) lh else .stuck
  | _ => .stuck
def zRepM (x y : LV) (lh : LH) : Res LV := match lstOf x lh, y with
  | some xs, .pv (.int n) => if n < 2 ^ 62 ∧ -(2 ^ 62) < n ∧ xs.length * n.toNat ≤ sizeLine then .ok (.ref lh.length) (lh ++ [.lst (List.replicate n.toNat xs).flatten]) else .stuck
  | _, _ => .stuck
end
end Z
namespace Z
open PySem PySem.Spec PyProof.Rows L2
section
variable {Q : LV → LH → Prop} {E : LX → LH → Prop} {env : EN} {lh : LH} {f g : EN → LH → Res LV} {z : List LV → LH → Res LV}
theorem sp_blNeg {neg : Bool} {r : Res LV} (h : r.sp (fun v l => ∃ b, v = .pv (.bl b) ∧ Q (.pv (.bl (xor neg b))) l) noE) : (blNeg neg r).sp Q E := by
  obtain ⟨v, l, e, b, rfl, q⟩ := h.ex
  rw [e]; exact q
theorem sp_ownEq {neg : Bool} {cs ks : List Str} {x y : LV} {c : Str} {fs : List (Str × LV)} {t : Ty} (hx : insOf x lh = some (c, fs)) (hc : c ∈ cs) (hy : tyO y lh = some t) (ht : ownOK ks t = true)
    (h : (z [x, y] lh).sp (fun v l => ∃ b, v = .pv (.bl b) ∧ Q (.pv (.bl (xor neg b))) l) noE) : (zOwnEq neg cs ks z x y lh).sp Q E := by
  unfold zOwnEq
  rw [hx, hy]
  show ((if c ∈ cs ∧ ownOK ks t = true then blNeg neg (z [x, y] lh) else .stuck) : Res LV).sp Q E
  rw [if_pos ⟨hc, ht⟩]; exact sp_blNeg h
theorem sp_ownS {cs : List Str} {x : LV} {c : Str} {fs : List (Str × LV)} (hx : insOf x lh = some (c, fs)) (hc : c ∈ cs) (h : (z [x] lh).sp (fun v l => ∃ y : Str, v = .pv (.str y) ∧ Q (.pv (.str y)) l) noE) : (zOwnS cs z [x] lh).sp Q E := by
  unfold zOwnS
  simp only [hx, if_pos hc]
  obtain ⟨v, l, e, y, rfl, q⟩ := h.ex
  rw [e]; exact q
end
inductive StP : Nat → PV → Prop
  | str {k s} : PyData.strOk s = true → StP k (.str s)
  | tup {k xs} : (∀ x ∈ xs, StP k x) → StP (k + 1) (.tup xs)
theorem StP.mono {k : Nat} {p : PV} (h : StP k p) : ∀ {j : Nat}, k ≤ j → StP j p := by
  induction h with
  | str hs => intro j _; exact .str hs
  | tup _ ih =>
    intro j hj
    obtain ⟨i, rfl⟩ : ∃ i, j = i + 1 := ⟨j - 1, by omega⟩
    exact .tup fun x hx => ih x hx (by omega)
end Z
namespace Z
open PySem PySem.Spec PyProof.Rows L2
theorem emp_app (a : Str) : Str.empty ++ a = a := by
  show (⟨#[] ++ a.cps⟩ : Str) = a
  rw [Array.empty_append]
theorem str_assoc (a b c : Str) : a ++ b ++ c = a ++ (b ++ c) := by
  show (⟨(a.cps ++ b.cps) ++ c.cps⟩ : Str) = ⟨a.cps ++ (b.cps ++ c.cps)⟩
  rw [Array.append_assoc]
theorem str_len (a b : Str) : (a ++ b).length = a.length + b.length := by
  show (a.cps ++ b.cps).size = _
  rw [Array.size_append]; rfl
theorem str_ok {a b : Str} (ha : PyData.strOk a = true) (hb : PyData.strOk b = true) : PyData.strOk (a ++ b) = true := by
  unfold PyData.strOk at ha hb ⊢
  rw [← Array.all_toList, List.all_eq_true] at ha hb ⊢
  intro c hc
  have hc : c ∈ (a.cps ++ b.cps).toList := hc
  rw [Array.toList_append, List.mem_append] at hc
  exact hc.elim (ha c) (hb c)
theorem join_2 (s w a : Str) : Txt.join s [w, a] = w ++ s ++ a := by rw [TL.join_eq]; rfl
theorem join_3 (s w a b : Str) : Txt.join s [w, a, b] = w ++ s ++ a ++ s ++ b := by
  rw [TL.join_eq]
  show w ++ s ++ (a ++ s ++ b) = _
  rw [str_assoc a s b, ← str_assoc (w ++ s) a, ← str_assoc (w ++ s ++ a)]
theorem eq_sp {α : Type} {r : Res α} {a : α} {lh : LH} (h : r.sp (fun v l => v = a ∧ l = lh) noE) : r = .ok a lh := by
  obtain ⟨v, l, e, rfl, rfl⟩ := h.ex
  exact e
section
variable {α β : Type} {r r' : Res α} {Q : α → LH → Prop} {E : LX → LH → Prop} {D : Dn} {lh : LH}
/-- looking up a slot -/
def LookTo (env : EN) (i : Nat) (k : LV → Prop) : Prop := ∃ x, env[i]? = some (some x) ∧ k x
theorem look_0 {a : LV} {r : EN} {k : LV → Prop} : LookTo (some a :: r) 0 k ↔ k a := ⟨fun ⟨x, h, q⟩ => by cases h; exact q, fun q => ⟨a, rfl, q⟩⟩
theorem look_s {a : Option LV} {r : EN} {i : Nat} {k : LV → Prop} : LookTo (a :: r) (i + 1) k ↔ LookTo r i k := Iff.rfl
theorem set_0 {a x : Option LV} {r : EN} {k : EN → Prop} : SetTo (a :: r) 0 x k ↔ k (x :: r) := Iff.rfl
theorem set_s {a x : Option LV} {r : EN} {i : Nat} {k : EN → Prop} : SetTo (a :: r) (i + 1) x k ↔ SetTo r i x fun e => k (a :: e) := Iff.rfl
theorem wipe_n {env : EN} {k : EN → Prop} : WipeTo env [] k ↔ k env := Iff.rfl
theorem wipe_c {env : EN} {v : Nat} {vs : List Nat} {k : EN → Prop} : WipeTo env (v :: vs) k ↔ WipeTo env vs fun e => SetTo e v none k := Iff.rfl
theorem start_c {n : Nat} {a : LV} {xs : List LV} {k : EN → Prop} : StartTo (n + 1) (a :: xs) k ↔ StartTo n xs fun e => k (some a :: e) := by
  unfold StartTo startE
  simp
theorem start_n {n : Nat} {k : EN → Prop} : StartTo (n + 1) [] k ↔ StartTo n [] fun e => k (none :: e) := Iff.rfl
theorem start_0 {k : EN → Prop} : StartTo 0 [] k ↔ k [] := Iff.rfl
theorem rs_ok {a : α} : (Res.ok a lh).sp Q E ↔ Q a lh := Iff.rfl
theorem rs_bind {r : Res β} {k : β → LH → Res α} : (r.bind k).sp Q E ↔ r.sp (fun a l => (k a l).sp Q E) E := by cases r <;> exact Iff.rfl
theorem rs_ite {b : Bool} {r s : Res α} : (if b = true then r else s).sp Q E ↔ Wy b (r.sp Q E) (s.sp Q E) := by cases b <;> simp [Wy]
theorem rs_noX : (noX r).sp Q E ↔ r.sp Q noE := by cases r <;> exact Iff.rfl
theorem wy_1 {A B : Prop} : Wy true A B ↔ A := ⟨fun h => h.1 rfl, fun h => wy_t h⟩
theorem wy_0 {A B : Prop} : Wy false A B ↔ B := ⟨fun h => h.2 rfl, fun h => wy_f h⟩
theorem wy_neg {b : Bool} {A B : Prop} : Wy (!b) A B ↔ Wy b B A := by cases b <;> simp [Wy]
theorem wy_xorf {b : Bool} {A B : Prop} : Wy (xor false b) A B ↔ Wy b A B := by cases b <;> simp [Wy]
theorem wy_xort {b : Bool} {A B : Prop} : Wy (xor true b) A B ↔ Wy b B A := by cases b <;> simp [Wy]
theorem wy_T {p : Prop} [Decidable p] {A B : Prop} (h : p) : Wy (decide p) A B ↔ A := by simp [Wy, h]
theorem wy_F {p : Prop} [Decidable p] {A B : Prop} (h : ¬ p) : Wy (decide p) A B ↔ B := by simp [Wy, h]
end
section
variable {Q : LV → LH → Prop} {Qb : Bool → LH → Prop} {Qs : List LV → LH → Prop} {E : LX → LH → Prop} {env : EN} {lh : LH} {f g k : EN → LH → Res LV} {t u : EN → LH → Res Bool} {fs : EN → LH → Res (List LV)} {z z' : LV → LV → LH → Res LV} {x y : LV} {i j : Int} {p q : PV}
theorem rs_name {i : Nat} : (fName i env lh).sp Q E ↔ LookTo env i fun x => Q x lh := by
  unfold fName LookTo
  split
  · next x e => rw [e]; exact ⟨fun q => ⟨x, rfl, q⟩, fun ⟨y, h, q⟩ => by cases h; exact q⟩
  · next n => exact ⟨fun h => h.elim, fun ⟨y, h, _⟩ => absurd h (n y)⟩
theorem rs_c {p : PV} : (fC p env lh).sp Q E ↔ Q (.pv p) lh := Iff.rfl
theorem rs_bin : (fBin z f g env lh).sp Q E ↔ (f env lh).sp (fun x l => (g env l).sp (fun y l2 => (z x y l2).sp Q E) E) E := by unfold fBin; simp only [rs_bind]
theorem rs_un {z : LV → LH → Res LV} : (fUn z f env lh).sp Q E ↔ (f env lh).sp (fun x l => (z x l).sp Q E) E := by unfold fUn; simp only [rs_bind]
theorem rs_nil : (fNil env lh).sp Qs E ↔ Qs [] lh := Iff.rfl
theorem rs_cons : (fCons f fs env lh).sp Qs E ↔ (f env lh).sp (fun x l => (fs env l).sp (fun xs l2 => Qs (x :: xs) l2) E) E := by unfold fCons; simp only [rs_bind, rs_ok]
theorem rs_args {z : List LV → LH → Res LV} : (fArgs z fs env lh).sp Q E ↔ (fs env lh).sp (fun xs l => (z xs l).sp Q E) E := by unfold fArgs; simp only [rs_bind]
theorem rs_call0 {m : List LV → LH → Res LV} : (fCallD m [] fs env lh).sp Q E ↔ (fs env lh).sp (fun xs l => (m xs l).sp Q E) E := by unfold fCallD; simp only [rs_bind, List.append_nil]
theorem rs_mk0 {m : List LV → LH → Res LV} : (fMakeD m [] fs env lh).sp Q E ↔ (fs env lh).sp (fun xs l => (m xs l).sp Q E) E := by unfold fMakeD; simp only [rs_bind, List.append_nil]
theorem rs_mkK {y : List LV → LH → Res LV} {b : List LV → List LV → List LV} {fks : EN → LH → Res (List LV)} : (fMakeK y b fs fks env lh).sp Q E ↔ (fs env lh).sp (fun xs l => (fks env l).sp (fun zs l2 => (y (b xs zs) l2).sp Q E) E) E := by unfold fMakeK; simp only [rs_bind]
theorem rs_tV : (tV f env lh).sp Qb E ↔ (f env lh).sp (fun x l => (asB x l).sp Qb E) E := by unfold tV; simp only [rs_bind]
theorem rs_asB {b : Bool} : (asB (.pv (.bl b)) lh).sp Qb E ↔ Qb b lh := Iff.rfl
theorem rs_tYes : (tYesZ env lh).sp Qb E ↔ Qb true lh := Iff.rfl
theorem rs_tNot : (tNotZ t env lh).sp Qb E ↔ (t env lh).sp (fun b l => Qb (!b) l) E := by unfold tNotZ; simp only [rs_bind, rs_ok]
theorem rs_tAnd : (tAndZ t u env lh).sp Qb E ↔ (t env lh).sp (fun b l => Wy b ((u env l).sp Qb E) (Qb false l)) E := by unfold tAndZ; simp only [rs_bind, rs_ite, rs_ok]
theorem rs_tOr : (tOrZ t u env lh).sp Qb E ↔ (t env lh).sp (fun b l => Wy b (Qb true l) ((u env l).sp Qb E)) E := by unfold tOrZ; simp only [rs_bind, rs_ite, rs_ok]
theorem rs_and : (fAnd f g env lh).sp Q E ↔ (f env lh).sp (fun x l => (asB x l).sp (fun b l2 => Wy b ((g env l2).sp Q E) (Q (.pv (.bl false)) l2)) E) E := by unfold fAnd; simp only [rs_bind, rs_ite, rs_ok]
theorem rs_or : (fOr f g env lh).sp Q E ↔ (f env lh).sp (fun x l => (asB x l).sp (fun b l2 => Wy b (Q (.pv (.bl true)) l2) ((g env l2).sp Q E)) E) E := by unfold fOr; simp only [rs_bind, rs_ite, rs_ok]
theorem rs_not : (fNot f env lh).sp Q E ↔ (f env lh).sp (fun x l => (asB x l).sp (fun b l2 => Q (.pv (.bl (!b))) l2) E) E := by unfold fNot; simp only [rs_bind, rs_ok]
theorem rs_ifE : (fIfE t f g env lh).sp Q E ↔ (t env lh).sp (fun b l => Wy b ((f env l).sp Q E) ((g env l).sp Q E)) E := by unfold fIfE; simp only [rs_bind, rs_ite]
theorem rs_chain : (fChain z z' f g k env lh).sp Q E ↔ (f env lh).sp (fun x l => (g env l).sp (fun y l2 => (z x y l2).sp (fun r l3 => (asB r l3).sp (fun b l4 => Wy b ((k env l4).sp (fun w l5 => (z' y w l5).sp Q E) E) (Q (.pv (.bl false)) l4)) E) E) E) E := by unfold fChain; simp only [rs_bind, rs_ite, rs_ok]
theorem rs_frz : (fFrz f env lh).sp Q E ↔ (f env lh).sp (fun x l => (zFrz x l).sp Q E) E := by unfold fFrz; simp only [rs_bind]
theorem rs_frzP : (zFrz (.pv p) lh).sp Q E ↔ Q (.pv p) lh := Iff.rfl
theorem rs_mkD : (fMkD env lh).sp Q E ↔ Q (.ref lh.length) (lh ++ [.dct []]) := Iff.rfl
theorem rs_mkD0 : (fMkD0 env lh).sp Q E ↔ Q (.pv (.dct [])) lh := Iff.rfl
theorem rs_addI : (zAdd (.pv (.int i)) (.pv (.int j)) lh).sp Q E ↔ Q (.pv (.int (i + j))) lh := Iff.rfl
theorem rs_sub : (zII Z.gSub (.pv (.int i)) (.pv (.int j)) lh).sp Q E ↔ Q (.pv (.int (i - j))) lh := Iff.rfl
theorem rs_lt : (zII gLt (.pv (.int i)) (.pv (.int j)) lh).sp Q E ↔ Q (.pv (.bl (decide (i < j)))) lh := Iff.rfl
theorem rs_le : (zII gLe (.pv (.int i)) (.pv (.int j)) lh).sp Q E ↔ Q (.pv (.bl (decide (i ≤ j)))) lh := Iff.rfl
theorem rs_gt : (zII gGt (.pv (.int i)) (.pv (.int j)) lh).sp Q E ↔ Q (.pv (.bl (decide (j < i)))) lh := Iff.rfl
theorem rs_ge : (zII gGe (.pv (.int i)) (.pv (.int j)) lh).sp Q E ↔ Q (.pv (.bl (decide (j ≤ i)))) lh := Iff.rfl
theorem rs_zII {G : Int → Int → Option PV} (h : G i j = some p) : (zII G (.pv (.int i)) (.pv (.int j)) lh).sp Q E ↔ Q (.pv p) lh := by unfold zII; simp only [h]; exact Iff.rfl
theorem rs_mul (h : (-(2 ^ 64) < i ∧ i < 2 ^ 64) ∨ (-(2 ^ 64) < j ∧ j < 2 ^ 64)) : (zII gMul (.pv (.int i)) (.pv (.int j)) lh).sp Q E ↔ Q (.pv (.int (i * j))) lh := rs_zII (by unfold gMul; rw [if_pos h])
theorem rs_mod (h : 0 < j) : (zII gMod (.pv (.int i)) (.pv (.int j)) lh).sp Q E ↔ Q (.pv (.int (i % j))) lh := rs_zII (by unfold gMod; rw [if_pos h])
theorem rs_div (h : 0 < j ∧ j < 1073741824) : (zII gDiv (.pv (.int i)) (.pv (.int j)) lh).sp Q E ↔ Q (.pv (.int (i / j))) lh := rs_zII (by unfold gDiv; rw [if_pos h])
theorem rs_of {r : Res LV} {a : LV} (h : r = .ok a lh) : r.sp Q E ↔ Q a lh := by rw [h]; exact Iff.rfl
theorem rs_eqI {neg : Bool} : (zEqD neg (.pv (.int i)) (.pv (.int j)) lh).sp Q E ↔ Q (.pv (.bl (xor neg (decide (i = j))))) lh := rs_of (zEq_int ..)
theorem rs_eqB {neg a b : Bool} : (zEqD neg (.pv (.bl a)) (.pv (.bl b)) lh).sp Q E ↔ Q (.pv (.bl (xor neg (decide (a = b))))) lh := rs_of (zEq_bl ..)
theorem rs_eqS {neg : Bool} {a b : Str} (ha : PyData.strOk a = true) (hb : PyData.strOk b = true) : (zEqD neg (.pv (.str a)) (.pv (.str b)) lh).sp Q E ↔ Q (.pv (.bl (xor neg (decide (a = b))))) lh := rs_of (zEq_str _ _ _ _ (by unfold SeqAt.shaped; simp only [PyData.canLay0, ha]; rfl) (by unfold SeqAt.shaped; simp only [PyData.canLay0, hb]; rfl))
theorem rs_isN {neg : Bool} : (zIsN neg (.pv p) (.pv .non) lh).sp Q E ↔ Q (.pv (.bl (xor neg (decide (p = .non))))) lh := Iff.rfl
theorem pvs_n {k : List PV → Prop} : PvsTo [] k ↔ k [] := ⟨fun ⟨ps, e, q⟩ => by cases e; exact q, fun q => pvsTo_n q⟩
theorem pvs_c {xs : List LV} {k : List PV → Prop} : PvsTo (.pv p :: xs) k ↔ PvsTo xs fun ps => k (p :: ps) := ⟨fun ⟨ps, e, q⟩ => by
  obtain ⟨qs, e1, rfl⟩ := Option.map_eq_some_iff.mp (show (pvs xs).map (p :: ·) = some ps from e)
  exact ⟨qs, e1, q⟩, fun q => pvsTo_c q⟩
theorem pvs_m {ps : List PV} {k : List PV → Prop} : PvsTo (ps.map .pv) k ↔ k ps := ⟨fun ⟨qs, e, q⟩ => by rw [pvs_map] at e; cases e; exact q, fun q => pvsTo_m q⟩
theorem rs_lst {xs : List LV} : (zLst xs lh).sp Q E ↔ PvsTo xs fun ps => Q (.pv (.lst ps)) lh := ⟨fun h => by
  unfold zLst at h
  cases e : pvs xs with
  | none => rw [e] at h; exact h.elim
  | some ps => rw [e] at h; exact ⟨ps, e, h⟩, fun h => sp_lstP h⟩
theorem rs_tup {xs : List LV} : (zTup xs lh).sp Q E ↔ PvsTo xs fun ps => Q (.pv (.tup ps)) lh := ⟨fun h => by
  unfold zTup at h
  cases e : pvs xs with
  | none => rw [e] at h; exact h.elim
  | some ps => rw [e] at h; exact ⟨ps, e, h⟩, fun h => sp_tupP h⟩
theorem rs_lstM {xs : List LV} : (zLstM xs lh).sp Q E ↔ Q (.ref lh.length) (lh ++ [.lst xs]) := Iff.rfl
section
variable {a b c d e : PV} {r : List PV}
theorem rs_ixT0 : (zIx (.pv (.tup (a :: r))) (.pv (.int 0)) lh).sp Q E ↔ Q (.pv a) lh := ⟨fun h => by
  have e : zIx (.pv (.tup (a :: r))) (.pv (.int 0)) lh = .ok (.pv a) lh := by
    unfold zIx
    have e2 : atI ((a :: r).map LV.pv) 0 = some (.pv a) := atI_nat (i := 0) (by simp) (by omega)
    have e1 : atI (a :: r) 0 = some a := atI_nat (i := 0) (by simp) (by omega)
    simp only [e1, e2, Option.map_some]
  rw [e] at h; exact h, fun h => sp_ixT (x := a) (atI_nat (i := 0) (by simp) (by omega)) h⟩
theorem rs_ixT {x : PV} {ps : List PV} {n : Int} (h : atI ps n = some x) : (zIx (.pv (.tup ps)) (.pv (.int n)) lh).sp Q E ↔ Q (.pv x) lh := rs_of (by
  unfold zIx
  simp only [atI_map h, h, Option.map_some])
theorem rs_ixL {x : PV} {ps : List PV} {n : Int} (h : atI ps n = some x) : (zIx (.pv (.lst ps)) (.pv (.int n)) lh).sp Q E ↔ Q (.pv x) lh := rs_of (zIx_pl h)
theorem rs_ixT1 : (zIx (.pv (.tup (a :: b :: r))) (.pv (.int 1)) lh).sp Q E ↔ Q (.pv b) lh := rs_ixT (atI_nat (i := 1) (by simp) (by omega))
theorem rs_ixT2 : (zIx (.pv (.tup (a :: b :: c :: r))) (.pv (.int 2)) lh).sp Q E ↔ Q (.pv c) lh := rs_ixT (atI_nat (i := 2) (by simp) (by omega))
theorem rs_ixT3 : (zIx (.pv (.tup (a :: b :: c :: d :: r))) (.pv (.int 3)) lh).sp Q E ↔ Q (.pv d) lh := rs_ixT (atI_nat (i := 3) (by simp) (by omega))
theorem rs_ixL0 : (zIx (.pv (.lst (a :: r))) (.pv (.int 0)) lh).sp Q E ↔ Q (.pv a) lh := rs_ixL (atI_nat (i := 0) (by simp) (by omega))
theorem rs_ixL1 : (zIx (.pv (.lst (a :: b :: r))) (.pv (.int 1)) lh).sp Q E ↔ Q (.pv b) lh := rs_ixL (atI_nat (i := 1) (by simp) (by omega))
theorem rs_ixL2 : (zIx (.pv (.lst (a :: b :: c :: r))) (.pv (.int 2)) lh).sp Q E ↔ Q (.pv c) lh := rs_ixL (atI_nat (i := 2) (by simp) (by omega))
theorem rs_ixL3 : (zIx (.pv (.lst (a :: b :: c :: d :: r))) (.pv (.int 3)) lh).sp Q E ↔ Q (.pv d) lh := rs_ixL (atI_nat (i := 3) (by simp) (by omega))
end
theorem rs_lenL {ps : List PV} : (zLenA [.pv (.lst ps)] lh).sp Q E ↔ Q (.pv (.int ps.length)) lh := by
  show Q (.pv (.int (ps.map LV.pv).length)) lh ↔ _
  rw [List.length_map]
theorem rs_lenT {ps : List PV} : (zLenA [.pv (.tup ps)] lh).sp Q E ↔ Q (.pv (.int ps.length)) lh := Iff.rfl
theorem rs_isi {ks : List Str} {oc : Str → Str → Bool} {x : LV} {c : PV} {b : Bool} (h : isiO ks oc x c lh = some b) : (zIsi ks oc [x, .pv c] lh).sp Q E ↔ Q (.pv (.bl b)) lh := rs_of (by
  unfold isiO at h
  unfold zIsi
  split at h
  · next t u e1 e2 => simp only [e1, e2, h]
  · cases h)
theorem rs_isiT {ks : List Str} {oc : Str → Str → Bool} {x : LV} {c : PV} (h : isiO ks oc x c lh = some true) : (zIsi ks oc [x, .pv c] lh).sp Q E ↔ Q (.pv (.bl true)) lh := rs_isi h
theorem rs_isiF {ks : List Str} {oc : Str → Str → Bool} {x : LV} {c : PV} (h : isiO ks oc x c lh = some false) : (zIsi ks oc [x, .pv c] lh).sp Q E ↔ Q (.pv (.bl false)) lh := rs_isi h
theorem rs_inT1 {n : Bool} {s a : Str} (hs : PyData.strOk s = true) (ha : PyData.strOk a = true) : (zIn n (.pv (.str s)) (.pv (.tup [.str a])) lh).sp Q E ↔ Q (.pv (.bl (xor n (decide (s ∈ [a]))))) lh := rs_of (zIn_strT n s [a] lh hs (by simp [ha]))
theorem rs_inT2 {n : Bool} {s a b : Str} (hs : PyData.strOk s = true) (ha : PyData.strOk a = true) (hb : PyData.strOk b = true) : (zIn n (.pv (.str s)) (.pv (.tup [.str a, .str b])) lh).sp Q E ↔ Q (.pv (.bl (xor n (decide (s ∈ [a, b]))))) lh := rs_of (zIn_strT n s [a, b] lh hs (by simp [ha, hb]))
theorem rs_inT3 {n : Bool} {s a b c : Str} (hs : PyData.strOk s = true) (ha : PyData.strOk a = true) (hb : PyData.strOk b = true) (hc : PyData.strOk c = true) : (zIn n (.pv (.str s)) (.pv (.tup [.str a, .str b, .str c])) lh).sp Q E ↔ Q (.pv (.bl (xor n (decide (s ∈ [a, b, c]))))) lh := rs_of (zIn_strT n s [a, b, c] lh hs (by simp [ha, hb, hc]))
theorem rs_inT4 {n : Bool} {s a b c d : Str} (hs : PyData.strOk s = true) (ha : PyData.strOk a = true) (hb : PyData.strOk b = true) (hc : PyData.strOk c = true) (hd : PyData.strOk d = true) : (zIn n (.pv (.str s)) (.pv (.tup [.str a, .str b, .str c, .str d])) lh).sp Q E ↔ Q (.pv (.bl (xor n (decide (s ∈ [a, b, c, d]))))) lh := rs_of (zIn_strT n s [a, b, c, d] lh hs (by simp [ha, hb, hc, hd]))
theorem rs_inT5 {n : Bool} {s a b c d e : Str} (hs : PyData.strOk s = true) (ha : PyData.strOk a = true) (hb : PyData.strOk b = true) (hc : PyData.strOk c = true) (hd : PyData.strOk d = true) (he : PyData.strOk e = true) : (zIn n (.pv (.str s)) (.pv (.tup [.str a, .str b, .str c, .str d, .str e])) lh).sp Q E ↔ Q (.pv (.bl (xor n (decide (s ∈ [a, b, c, d, e]))))) lh := rs_of (zIn_strT n s [a, b, c, d, e] lh hs (by simp [ha, hb, hc, hd, he]))
theorem rs_inS {neg : Bool} {c : Nat} {z : Str} : (zIn neg (.pv (.str ⟨#[c]⟩)) (.pv (.str z)) lh).sp Q E ↔ Q (.pv (.bl (xor neg (decide (c ∈ z.cps.toList))))) lh := Iff.rfl
theorem rs_all {F : List Bool → Bool} {bs : List Bool} : (zAll F [.pv (.lst (bs.map .bl))] lh).sp Q E ↔ Q (.pv (.bl (F bs))) lh := rs_of (by
  unfold zAll
  have e : blsOf ((bs.map PV.bl).map LV.pv) = some bs := by rw [List.map_map]; exact blsOf_map bs
  simp only [lstOf_lst, e])
theorem rs_sum {is : List Int} : (zSum [.pv (.lst (is.map .int))] lh).sp Q E ↔ Q (.pv (.int is.sum)) lh := rs_of (by
  unfold zSum
  have e : lstOf (.pv (.lst (is.map .int))) lh = some (is.map fun i => LV.pv (.int i)) := by rw [lstOf_lst, List.map_map]; rfl
  simp only [e, intsOf_map])
theorem rs_addS {a b : Str} (h : a.length + b.length ≤ sizeLine) : (zAdd (.pv (.str a)) (.pv (.str b)) lh).sp Q E ↔ Q (.pv (.str (a ++ b))) lh := by
  show Res.sp (if a.length + b.length ≤ sizeLine then _ else _) Q E ↔ _
  rw [if_pos h]; exact Iff.rfl
theorem rs_addL {xs ys : List PV} (h : xs.length + ys.length ≤ sizeLine) : (zAdd (.pv (.lst xs)) (.pv (.lst ys)) lh).sp Q E ↔ Q (.pv (.lst (xs ++ ys))) lh := rs_of (by
  show (match pvs (xs.map LV.pv ++ ys.map LV.pv) with | some ps => if ps.length ≤ sizeLine then Res.ok (LV.pv (.lst ps)) lh else .stuck | none => .stuck) = _
  rw [← List.map_append, pvs_map]
  show (if (xs ++ ys).length ≤ sizeLine then _ else _) = _
  rw [if_pos (by rw [List.length_append]; exact h)])
theorem rs_join : (fJoin f g env lh).sp Q E ↔ (f env lh).sp (fun x l => (joinK g env x l).sp Q E) E := by unfold fJoin; simp only [rs_bind]
theorem rs_joinK {a : Str} : (joinK g env (.pv (.str a)) lh).sp Q E ↔ (g env lh).sp (fun y l => (joinZ a y l).sp Q E) E := by
  show (Res.bind _ _).sp Q E ↔ _
  rw [rs_bind]
theorem rs_fmtS {y : Str} (h : y.length ≤ sizeLine) : (zFmt (.pv (.str y)) lh).sp Q E ↔ Q (.pv (.str y)) lh := by
  unfold zFmt
  simp only [if_pos h]; exact Iff.rfl
theorem rs_jsN {acc : Str} : (jsL [] acc env lh).sp Q E ↔ Q (.pv (.str acc)) lh := Iff.rfl
/-- the next part of a text -/
def JsTo (acc : Str) (x : LV) (k : Str → Prop) : Prop := ∃ y : Str, x = .pv (.str y) ∧ (acc ++ y).length ≤ sizeLine ∧ k (acc ++ y)
theorem rs_jsC {fs : List (EN → LH → Res LV)} {acc : Str} : (jsL (f :: fs) acc env lh).sp Q E ↔ (f env lh).sp (fun x l => JsTo acc x fun a => (jsL fs a env l).sp Q E) E := by
  show (Res.bind _ _).sp Q E ↔ _
  rw [rs_bind]
  have key : ∀ (x : LV) (l : LH), ((match x with
    | .pv (.str y) => if (acc ++ y).length ≤ sizeLine then jsL fs (acc ++ y) env l else .stuck
    | _ => .stuck) : Res LV).sp Q E ↔ JsTo acc x fun a => (jsL fs a env l).sp Q E := fun x l => by
    unfold JsTo
    constructor
    · intro h
      split at h
      · next y =>
        split at h
        · next hz => exact ⟨y, rfl, hz, h⟩
        · exact h.elim
      · exact h.elim
    · rintro ⟨y, rfl, hz, q⟩
      show ((if (acc ++ y).length ≤ sizeLine then jsL fs (acc ++ y) env l else .stuck) : Res LV).sp Q E
      rw [if_pos hz]; exact q
  cases f env lh with
  | ok x l => exact key x l
  | exc => exact Iff.rfl
  | stuck => exact Iff.rfl
theorem js_1 {acc y : Str} {k : Str → Prop} (h : (acc ++ y).length ≤ sizeLine) : JsTo acc (.pv (.str y)) k ↔ k (acc ++ y) := ⟨fun ⟨z, e, _, q⟩ => by cases e; exact q, fun q => ⟨y, rfl, h, q⟩⟩
end
section
variable {Q : LV → LH → Prop} {E : LX → LH → Prop} {env : EN} {lh : LH} {f g : EN → LH → Res LV} {z : List LV → LH → Res LV} {cs : List Str} {n : Str}
theorem rs_fld : (fFld cs n f env lh).sp Q E ↔ (f env lh).sp (fun x l => FldTo cs n x l fun v => Q v l) E := by
  show (Res.bind _ _).sp Q E ↔ _
  rw [rs_bind]
  have key : ∀ (x : LV) (l : LH), ((match insOf x l with
      | some (c, fs) => if c ∈ cs then (match fs.lookup n with | some v => Res.ok v l | none => .stuck) else .stuck
      | none => .stuck) : Res LV).sp Q E ↔ FldTo cs n x l fun v => Q v l := fun x l => by
    unfold FldTo
    constructor
    · intro h
      split at h
      · next c fs e =>
        split at h
        · next hc =>
          split at h
          · next v hv => exact ⟨c, fs, v, e, hc, hv, h⟩
          · exact h.elim
        · exact h.elim
      · exact h.elim
    · rintro ⟨c, fs, v, e, hc, hv, q⟩
      rw [e]
      show ((if c ∈ cs then (match fs.lookup n with | some v => Res.ok v l | none => .stuck) else .stuck) : Res LV).sp Q E
      rw [if_pos hc, hv]; exact q
  cases f env lh with
  | ok x l => exact key x l
  | exc => exact Iff.rfl
  | stuck => exact Iff.rfl
/-- a field among given ones -/
def GetF (fs : List (Str × PV)) (n : Str) (k : LV → Prop) : Prop := ∃ p, fs.lookup n = some p ∧ k (.pv p)
theorem lookup_mapF (fs : List (Str × PV)) (n : Str) : (fs.map fun p => (p.1, LV.pv p.2)).lookup n = (fs.lookup n).map LV.pv := by
  induction fs with
  | nil => rfl
  | cons a r ih =>
    rw [List.map_cons, List.lookup_cons, List.lookup_cons, ih]
    split <;> rfl
theorem fld_o {c : Str} {fs : List (Str × PV)} {k : LV → Prop} (h : c ∈ cs) : FldTo cs n (.pv (.obj c fs)) lh k ↔ GetF fs n k := by
  unfold FldTo GetF
  constructor
  · rintro ⟨c', fs', v, e, hc, hv, q⟩
    cases e
    rw [lookup_mapF] at hv
    obtain ⟨p, hp, rfl⟩ := Option.map_eq_some_iff.mp hv
    exact ⟨p, hp, q⟩
  · rintro ⟨p, hp, q⟩
    exact ⟨c, _, .pv p, rfl, h, by rw [lookup_mapF, hp]; rfl, q⟩
theorem getF_1 {m : Str} {p : PV} {r : List (Str × PV)} {k : LV → Prop} (h : n = m) : GetF ((m, p) :: r) n k ↔ k (.pv p) := by
  unfold GetF
  rw [List.lookup_cons, beq_iff_eq.mpr h]
  exact ⟨fun ⟨q, e, hq⟩ => by cases e; exact hq, fun hq => ⟨p, rfl, hq⟩⟩
theorem getF_s {m : Str} {p : PV} {r : List (Str × PV)} {k : LV → Prop} (h : ¬ n = m) : GetF ((m, p) :: r) n k ↔ GetF r n k := by
  unfold GetF
  rw [List.lookup_cons, beq_eq_false_iff_ne.mpr h]
theorem rs_prop : (fProp cs z f env lh).sp Q E ↔ (f env lh).sp (fun x l => (∃ c fs, insOf x l = some (c, fs) ∧ c ∈ cs) ∧ (z [x] l).sp Q noE) E := by
  show (Res.bind _ _).sp Q E ↔ _
  rw [rs_bind]
  have key : ∀ (x : LV) (l : LH), ((match insOf x l with
      | some (c, _) => if c ∈ cs then noX (z [x] l) else .stuck
      | none => .stuck) : Res LV).sp Q E ↔ (∃ c fs, insOf x l = some (c, fs) ∧ c ∈ cs) ∧ (z [x] l).sp Q noE := fun x l => by
    constructor
    · intro h
      split at h
      · next c fs e =>
        split at h
        · next hc => exact ⟨⟨c, fs, e, hc⟩, rs_noX.mp h⟩
        · exact h.elim
      · exact h.elim
    · rintro ⟨⟨c, fs, e, hc⟩, q⟩
      rw [e]
      show ((if c ∈ cs then noX (z [x] l) else .stuck) : Res LV).sp Q E
      rw [if_pos hc]; exact rs_noX.mpr q
  cases f env lh with
  | ok x l => exact key x l
  | exc => exact Iff.rfl
  | stuck => exact Iff.rfl
theorem prop_o {c : Str} {fs : List (Str × PV)} {P : Prop} (h : c ∈ cs) : ((∃ d gs, insOf (.pv (.obj c fs)) lh = some (d, gs) ∧ d ∈ cs) ∧ P) ↔ P := ⟨fun q => q.2, fun q => ⟨⟨c, _, rfl, h⟩, q⟩⟩
theorem rs_ownBin {zz : List LV → LH → Res LV} {c : Str} {fs1 fs2 : List (Str × PV)} : (zOwnBin c zz (.pv (.obj c fs1)) (.pv (.obj c fs2)) lh).sp Q E ↔ (zz [.pv (.obj c fs1), .pv (.obj c fs2)] lh).sp Q noE := by
  unfold zOwnBin insOf
  show ((if c = c ∧ c = c then noX (zz _ lh) else .stuck) : Res LV).sp Q E ↔ _
  rw [if_pos ⟨rfl, rfl⟩]; exact rs_noX
theorem rs_ownInv {zz : List LV → LH → Res LV} {c : Str} {fs1 : List (Str × PV)} : (zOwnInv c zz (.pv (.obj c fs1)) lh).sp Q E ↔ (zz [.pv (.obj c fs1)] lh).sp Q noE := by
  unfold zOwnInv insOf
  show ((if c = c then noX (zz _ lh) else .stuck) : Res LV).sp Q E ↔ _
  rw [if_pos rfl]; exact rs_noX
end
section
variable {D : Dn} {Q : LV → LH → Prop} {E : LX → LH → Prop} {env : EN} {lh : LH} {a b : EN → LH → SRes} {f g : EN → LH → Res LV} {t : EN → LH → Res Bool} {k : EN → LH → Prop} {e : EN} {l : LH} {v : LV} {x : LX}
theorem rs_sbind {α : Type} {r : Res α} {k : α → LH → SRes} : (sBind env r k).sp D ↔ r.sp (fun x l => (k x l).sp D) (fun e l => D.ex e env l) := by cases r <;> exact Iff.rfl
theorem rs_seq : (sSeq a b env lh).sp D ↔ (a env lh).sp (D.thn fun e l => (b e l).sp D) := by
  unfold sSeq
  cases a env lh <;> exact Iff.rfl
theorem rs_set {i : Nat} : (sAsg f (gN i) env lh).sp D ↔ (f env lh).sp (fun x l => SetTo env i (some x) fun e => D.nx e l) (fun e l => D.ex e env l) := by unfold sAsg; rw [rs_sbind]; exact Iff.rfl
theorem rs_gEnd {r : Res EN} : (gEnd r).sp D ↔ r.sp (fun e l => D.nx e l) noE := by cases r <;> exact Iff.rfl
theorem rs_asg {g : LV → EN → LH → Res EN} : (sAsg f g env lh).sp D ↔ (f env lh).sp (fun x l => (g x env l).sp (fun e l2 => D.nx e l2) noE) (fun e l => D.ex e env l) := by
  unfold sAsg
  rw [rs_sbind]
  simp only [rs_gEnd]
theorem rs_expr : (sExpr f env lh).sp D ↔ (f env lh).sp (fun _ l => D.nx env l) (fun e l => D.ex e env l) := rs_sbind
theorem rs_ret : (sRet f env lh).sp D ↔ (f env lh).sp (fun x l => D.rt x l) (fun e l => D.ex e env l) := rs_sbind
theorem rs_retN : (sRetN env lh).sp D ↔ D.rt (.pv .non) lh := Iff.rfl
theorem rs_next : (sNext env lh).sp D ↔ D.nx env lh := Iff.rfl
theorem rs_brk : (sBrk env lh).sp D ↔ D.bk env lh := Iff.rfl
theorem rs_cont : (sCont env lh).sp D ↔ D.ct env lh := Iff.rfl
theorem rs_sIf : (sIf t a b env lh).sp D ↔ (t env lh).sp (fun c l => Wy c ((a env l).sp D) ((b env l).sp D)) (fun e l => D.ex e env l) := by
  unfold sIf
  rw [rs_sbind]
  have key : ∀ (c : Bool) (l : LH), (if c = true then a env l else b env l).sp D ↔ Wy c ((a env l).sp D) ((b env l).sp D) := fun c l => by cases c <;> simp [Wy]
  cases t env lh with
  | ok x l => exact key x l
  | exc => exact Iff.rfl
  | stuck => exact Iff.rfl
theorem rs_for {fi : EN → LH → Res Src} {g : LV → EN → LH → Res EN} : (sFor fi g b env lh).sp D ↔ (fi env lh).sp (fun s l => (forL s.chk g b s.items env l).sp D) (fun e l => D.ex e env l) := rs_sbind
def TwoTo (xs : List LV) (k : LV → LV → Prop) : Prop := ∃ x y, xs = [x, y] ∧ k x y
theorem two_1 {x y : LV} {k : LV → LV → Prop} : TwoTo [x, y] k ↔ k x y := ⟨fun ⟨_, _, e, q⟩ => by cases e; exact q, fun q => ⟨x, y, rfl, q⟩⟩
theorem rs_par {fs : EN → LH → Res (List LV)} {i j : Nat} : (sPar i j fs env lh).sp D ↔ (fs env lh).sp (fun xs l => TwoTo xs fun x y => SetTo env i (some x) fun e => SetTo e j (some y) fun e => D.nx e l) (fun e l => D.ex e env l) := by
  unfold sPar
  rw [rs_sbind]
  have key : ∀ (xs : List LV) (l : LH), ((match xs with
    | [x, y] => .next ((env.set i (some x)).set j (some y)) l
    | _ => .stuck) : SRes).sp D ↔ TwoTo xs fun x y => SetTo env i (some x) fun e => SetTo e j (some y) fun e => D.nx e l := fun xs l => by
    constructor
    · intro h
      split at h
      · exact ⟨_, _, rfl, h⟩
      · exact h.elim
    · rintro ⟨x, y, rfl, q⟩
      exact q
  cases fs env lh with
  | ok x l => exact key x l
  | exc => exact Iff.rfl
  | stuck => exact Iff.rfl
theorem rs_tnx : (D.thn k).nx e l ↔ k e l := Iff.rfl
theorem rs_trt : (D.thn k).rt v l ↔ D.rt v l := Iff.rfl
theorem rs_tbk : (D.thn k).bk e l ↔ D.bk e l := Iff.rfl
theorem rs_tct : (D.thn k).ct e l ↔ D.ct e l := Iff.rfl
theorem rs_lnx : (D.lp k).nx e l ↔ k e l := Iff.rfl
theorem rs_lrt : (D.lp k).rt v l ↔ D.rt v l := Iff.rfl
theorem rs_lbk : (D.lp k).bk e l ↔ D.nx e l := Iff.rfl
theorem rs_lct : (D.lp k).ct e l ↔ k e l := Iff.rfl
theorem rs_fnx : (Dn.fn Q E).nx e l ↔ Q (.pv .non) l := Iff.rfl
theorem rs_frt : (Dn.fn Q E).rt v l ↔ Q v l := Iff.rfl
theorem rs_cl0 {p : PV} : (cleanR lh (.ok (.pv p) lh)).sp Q E ↔ Q (.pv p) lh := by
  show Q (.pv p) (clean lh lh) ↔ _
  rw [clean_self]
theorem rs_fn {n : Nat} {b : EN → LH → SRes} {xs : List LV} : (mOf n (sNoX b) xs lh).sp Q E ↔ StartTo n xs fun e => (b e lh).sp (Dn.fn (fun v l => (cleanR lh (.ok v l)).sp Q E) noE) := by
  unfold mOf StartTo
  show (cleanR lh (retOf (sNoX b (startE n xs) lh))).sp Q E ↔ (b (startE n xs) lh).sp (Dn.fn (fun v l => (cleanR lh (.ok v l)).sp Q E) noE)
  unfold sNoX
  cases q : b (startE n xs) lh <;> exact Iff.rfl
section
variable {Qi : Src → LH → Prop} {fs : EN → LH → Res (List LV)}
def LstTo (x : LV) (l : LH) (k : List LV → Prop) : Prop := ∃ xs, lstOf x l = some xs ∧ k xs
theorem lst_1 {ps : List PV} {k : List LV → Prop} : LstTo (.pv (.lst ps)) l k ↔ k (ps.map .pv) := ⟨fun ⟨_, e, q⟩ => by cases e; exact q, fun q => ⟨_, rfl, q⟩⟩
theorem rs_src : (fSrc f env lh).sp Qi E ↔ (f env lh).sp (fun x l => LstTo x l fun xs => Qi ⟨fun l => sameO (lstOf x l) xs, xs⟩ l) E := by
  unfold fSrc
  rw [rs_bind]
  have key : ∀ (x : LV) (l : LH), ((match lstOf x l with
    | some xs => .ok ⟨fun lh => sameO (lstOf x lh) xs, xs⟩ l
    | none => .stuck) : Res Src).sp Qi E ↔ LstTo x l fun xs => Qi ⟨fun l => sameO (lstOf x l) xs, xs⟩ l := fun x l => by
    unfold LstTo
    constructor
    · intro h
      split at h
      · next xs e => exact ⟨xs, e, h⟩
      · exact h.elim
    · rintro ⟨xs, e, q⟩
      rw [e]; exact q
  cases f env lh with
  | ok x l => exact key x l
  | exc => exact Iff.rfl
  | stuck => exact Iff.rfl
def TupTo (x : LV) (k : List PV → Prop) : Prop := ∃ xs, tupOf x = some xs ∧ k xs
theorem tup_1 {ps : List PV} {k : List PV → Prop} : TupTo (.pv (.tup ps)) k ↔ k ps := ⟨fun ⟨_, e, q⟩ => by cases e; exact q, fun q => ⟨_, rfl, q⟩⟩
theorem rs_srcT : (fSrcT f env lh).sp Qi E ↔ (f env lh).sp (fun x l => TupTo x fun xs => Qi ⟨yes, xs.map .pv⟩ l) E := by
  unfold fSrcT
  rw [rs_bind]
  have key : ∀ (x : LV) (l : LH), ((match tupOf x with
    | some xs => .ok ⟨yes, xs.map .pv⟩ l
    | none => .stuck) : Res Src).sp Qi E ↔ TupTo x fun xs => Qi ⟨yes, xs.map .pv⟩ l := fun x l => by
    unfold TupTo
    constructor
    · intro h
      split at h
      · next xs e => exact ⟨xs, e, h⟩
      · exact h.elim
    · rintro ⟨xs, e, q⟩
      rw [e]; exact q
  cases f env lh with
  | ok x l => exact key x l
  | exc => exact Iff.rfl
  | stuck => exact Iff.rfl
theorem rs_rng : (fRng fs env lh).sp Qi E ↔ (fs env lh).sp (fun xs l => (rngSrc xs l).sp Qi E) E := by unfold fRng; simp only [rs_bind]
theorem rs_rng1 {n : Nat} (h : n < 1000000) : (rngSrc [.pv (.int (n : Int))] lh).sp Qi E ↔ Qi ⟨yes, zints 0 n⟩ lh := by
  unfold rngSrc
  simp only []
  rw [if_pos (by constructor <;> omega), Int.toNat_natCast]; exact Iff.rfl
theorem rs_rngI {i : Int} (h : 0 ≤ i ∧ i < 1000000) : (rngSrc [.pv (.int i)] lh).sp Qi E ↔ Qi ⟨yes, zints 0 i.toNat⟩ lh := by
  unfold rngSrc
  simp only []
  rw [if_pos (by constructor <;> omega)]; exact Iff.rfl
theorem rs_zip : (fZip fs env lh).sp Qi E ↔ (fs env lh).sp (fun xs l => (zipSrc xs l).sp Qi E) E := by unfold fZip; simp only [rs_bind]
theorem rs_zipL {ps qs : List PV} : (zipSrc [.pv (.lst ps), .pv (.lst qs)] lh).sp Qi E ↔ Qi ⟨fun _ => true, zipP ps qs⟩ lh := by
  unfold zipSrc
  simp only [lstOf_lst, pvs_map, sameO_self, Bool.and_self]
  exact Iff.rfl
theorem rs_zipT {ps qs : List PV} : (zipSrc [.pv (.tup ps), .pv (.tup qs)] lh).sp Qi E ↔ Qi ⟨yes, zipP ps qs⟩ lh := Iff.rfl
theorem rs_lc {z : List LV → LH → Res LV} {vs : List Nat} {fi : EN → LH → Res Src} {g : LV → EN → LH → Res EN} {e : EN → LH → Res LV} : (fLc z vs fi g t e env lh).sp Q E ↔ (fi env lh).sp (fun s l => s.items.length ≤ sizeLine ∧ WipeTo env vs fun env0 => (lcL s.chk g t e env0 s.items [] l).sp (fun acc l2 => (z acc l2).sp Q E) noE) E := by
  unfold fLc
  rw [rs_bind]
  have wipe : ∀ {env : EN} {vs : List Nat} {k : EN → Prop}, k (wipeE env vs) ↔ WipeTo env vs k := by
    intro env vs
    induction vs with
    | nil => intro k; exact Iff.rfl
    | cons v vs ih => intro k; exact ih (k := fun e => SetTo e v none k)
  have key : ∀ (s : Src) (l : LH), ((if s.items.length ≤ sizeLine then (noX (lcL s.chk g t e (wipeE env vs) s.items [] l)).bind fun acc l2 => z acc l2 else .stuck) : Res LV).sp Q E ↔ (s.items.length ≤ sizeLine ∧ WipeTo env vs fun env0 => (lcL s.chk g t e env0 s.items [] l).sp (fun acc l2 => (z acc l2).sp Q E) noE) := fun s l => by
    rw [← wipe]
    by_cases h : s.items.length ≤ sizeLine
    · rw [if_pos h, rs_bind, rs_noX]
      constructor
      · intro q
        refine ⟨h, ?_⟩
        cases q2 : lcL s.chk g t e (wipeE env vs) s.items [] l <;> rw [q2] at q <;> exact q
      · rintro ⟨_, q⟩
        cases q2 : lcL s.chk g t e (wipeE env vs) s.items [] l <;> rw [q2] at q <;> exact q
    · rw [if_neg h]
      exact ⟨fun q => q.elim, fun q => absurd q.1 h⟩
  cases fi env lh with
  | ok x l => exact key x l
  | exc => exact Iff.rfl
  | stuck => exact Iff.rfl
end
theorem rs_gN {i : Nat} {Qe : EN → LH → Prop} : (gN i v env lh).sp Qe E ↔ SetTo env i (some v) fun e => Qe e lh := Iff.rfl
theorem rs_gNil {Qe : EN → LH → Prop} : (gNil [] env lh).sp Qe E ↔ Qe env lh := Iff.rfl
theorem rs_gCons {fg : LV → EN → LH → Res EN} {g : List LV → EN → LH → Res EN} {r : List LV} {Qe : EN → LH → Prop} : (gCons fg g (v :: r) env lh).sp Qe E ↔ (fg v env lh).sp (fun e1 l => (g r e1 l).sp Qe E) E := by
  show (Res.bind _ _).sp Qe E ↔ _
  rw [rs_bind]
theorem rs_gTup2 {g : List LV → EN → LH → Res EN} {p q : PV} {Qe : EN → LH → Prop} : (gTupZ 2 g (.pv (.tup [p, q])) env lh).sp Qe E ↔ (g [.pv p, .pv q] env lh).sp Qe E := Iff.rfl
theorem rs_gTup3 {g : List LV → EN → LH → Res EN} {p q r : PV} {Qe : EN → LH → Prop} : (gTupZ 3 g (.pv (.tup [p, q, r])) env lh).sp Qe E ↔ (g [.pv p, .pv q, .pv r] env lh).sp Qe E := Iff.rfl
theorem rs_gTup4 {g : List LV → EN → LH → Res EN} {p q r s : PV} {Qe : EN → LH → Prop} : (gTupZ 4 g (.pv (.tup [p, q, r, s])) env lh).sp Qe E ↔ (g [.pv p, .pv q, .pv r, .pv s] env lh).sp Qe E := Iff.rfl
end
section
variable {Q : LV → LH → Prop} {E : LX → LH → Prop} {env : EN} {lh : LH} {f : EN → LH → Res LV} {Qo : Option Int → LH → Prop}
theorem rs_oN : (fOpt none env lh).sp Qo E ↔ Qo none lh := Iff.rfl
theorem asI_1 {i : Int} {k : Int → Prop} : AsI (.pv (.int i)) k ↔ k i := ⟨fun ⟨_, e, q⟩ => by cases e; exact q, fun q => asI q⟩
theorem rs_oS : (fOpt (some f) env lh).sp Qo E ↔ (f env lh).sp (fun x l => AsI x fun i => Qo (some i) l) E := by
  show (Res.bind _ _).sp Qo E ↔ _
  rw [rs_bind]
  have key : ∀ (x : LV) (l : LH), ((match x with
    | .pv (.int i) => .ok (some i) l
    | _ => .stuck) : Res (Option Int)).sp Qo E ↔ AsI x fun i => Qo (some i) l := fun x l => by
    constructor
    · intro h
      split at h
      · exact ⟨_, rfl, h⟩
      · exact h.elim
    · rintro ⟨i, rfl, q⟩
      exact q
  cases f env lh with
  | ok x l => exact key x l
  | exc => exact Iff.rfl
  | stuck => exact Iff.rfl
theorem rs_sl {lo hi : Option (EN → LH → Res LV)} : (fSl f lo hi env lh).sp Q E ↔ (f env lh).sp (fun x l => (fOpt lo env l).sp (fun i l2 => (fOpt hi env l2).sp (fun j l3 => (zSl x i j l3).sp Q E) E) E) E := by unfold fSl; simp only [rs_bind]
theorem rs_slL {ps : List PV} {i j : Option Int} : (zSl (.pv (.lst ps)) i j lh).sp Q E ↔ Q (.pv (.lst (cutL ps i j))) lh := rs_of (by
  show (match pvs (cutL (ps.map LV.pv) i j) with | some ps => Res.ok (LV.pv (.lst ps)) lh | none => .stuck) = _
  rw [cutL_map, pvs_map])
theorem rs_slT {ps : List PV} {i j : Option Int} : (zSl (.pv (.tup ps)) i j lh).sp Q E ↔ Q (.pv (.tup (cutL ps i j))) lh := Iff.rfl
theorem cut_t1 {p : PV} {r : List PV} : cutL (p :: r) (some 1) none = r := by
  show ((p :: r).drop _).take _ = r
  simp [HT.sIx]
/-- join of written texts -/
theorem rs_join2 {s a b : Str} (h : a.length + b.length + s.length ≤ 1000000) : (joinZ s (.pv (.lst [.str a, .str b])) lh).sp Q E ↔ Q (.pv (.str (a ++ s ++ b))) lh := rs_of (by
  unfold joinZ
  have e : lstOf (.pv (.lst [.str a, .str b])) lh = some ([a, b].map fun s => LV.pv (.str s)) := rfl
  have e2 : szOf ([a, b].map fun s => LV.pv (.str s)) = some [a, b] := rfl
  simp only [e, e2]
  rw [if_pos (by simp; omega), join_2])
theorem rs_join3 {s a b c : Str} (h : a.length + b.length + c.length + s.length ≤ 1000000) : (joinZ s (.pv (.lst [.str a, .str b, .str c])) lh).sp Q E ↔ Q (.pv (.str (a ++ s ++ b ++ s ++ c))) lh := rs_of (by
  unfold joinZ
  have e : lstOf (.pv (.lst [.str a, .str b, .str c])) lh = some ([a, b, c].map fun s => LV.pv (.str s)) := rfl
  have e2 : szOf ([a, b, c].map fun s => LV.pv (.str s)) = some [a, b, c] := rfl
  simp only [e, e2]
  rw [if_pos (by simp; omega), join_3])
end
section
variable {chk : LH → Bool} {g : LV → EN → LH → Res EN} {t : EN → LH → Res Bool} {e : EN → LH → Res LV} {env0 : EN} {acc : List LV} {lh : LH} {Qa : List LV → LH → Prop} {y : LV} {r : List LV} {E : LX → LH → Prop}
theorem rs_lcN (h : chk lh = true) : (lcL chk g t e env0 [] acc lh).sp Qa E ↔ Qa acc lh := by unfold lcL; rw [if_pos h]; exact Iff.rfl
theorem rs_lcC (h : chk lh = true) : (lcL chk g t e env0 (y :: r) acc lh).sp Qa E ↔ (g y env0 lh).sp (fun e1 l => (t e1 l).sp (fun c l2 => Wy c ((e e1 l2).sp (fun v l3 => (lcL chk g t e env0 r (acc ++ [v]) l3).sp Qa E) E) ((lcL chk g t e env0 r acc l2).sp Qa E)) E) E := by
  have key : lcL chk g t e env0 (y :: r) acc lh = (g y env0 lh).bind fun e1 l => (t e1 l).bind fun c l2 => if c = true then (e e1 l2).bind fun v l3 => lcL chk g t e env0 r (acc ++ [v]) l3 else lcL chk g t e env0 r acc l2 := by
    show (if chk lh = true then _ else _) = _
    rw [if_pos h]
  rw [key, rs_bind]
  cases g y env0 lh with
  | ok e1 l =>
    show Res.sp (Res.bind _ _) _ _ ↔ _
    rw [rs_bind]
    show _ ↔ (t e1 l).sp _ _
    cases t e1 l with
    | ok c l2 =>
      show Res.sp (if c = true then _ else _) _ _ ↔ Wy c _ _
      rw [rs_ite, rs_bind]
    | exc => exact Iff.rfl
    | stuck => exact Iff.rfl
  | exc => exact Iff.rfl
  | stuck => exact Iff.rfl
end
section
variable {Q : LV → LH → Prop} {E : LX → LH → Prop} {env : EN} {lh l : LH} {f g fo fk fd : EN → LH → Res LV} {fas : EN → LH → Res (List LV)} {c m : Str} {z : List LV → LH → Res LV} {x v : LV} {i : Nat}
def MethTo (c m : Str) (x : LV) (l : LH) (k : LV → Prop) : Prop := ∃ fs, insOf x l = some (c, fs) ∧ fs.lookup m = none ∧ k x
theorem rs_meth : (fMethD c m z [] fo fas env lh).sp Q E ↔ (fo env lh).sp (fun x l => MethTo c m x l fun x => (fas env l).sp (fun xs l2 => (z (x :: xs) l2).sp Q E) E) E := by
  unfold fMethD
  rw [rs_bind]
  have key : ∀ (x : LV) (l : LH), ((match insOf x l with
    | some (c', fs) => if c' = c ∧ fs.lookup m = none then (fas env l).bind fun xs lh2 => z (x :: (xs ++ [])) lh2 else .stuck
    | none => .stuck) : Res LV).sp Q E ↔ MethTo c m x l fun x => (fas env l).sp (fun xs l2 => (z (x :: xs) l2).sp Q E) E := fun x l => by
    unfold MethTo
    constructor
    · intro h
      split at h
      · next c' fs e =>
        split at h
        · next hc =>
          rw [rs_bind] at h
          simp only [List.append_nil] at h
          exact ⟨fs, by rw [e, hc.1], hc.2, h⟩
        · exact h.elim
      · exact h.elim
    · rintro ⟨fs, e, hm, q⟩
      rw [e]
      show ((if c = c ∧ fs.lookup m = none then (fas env l).bind fun xs lh2 => z (x :: (xs ++ [])) lh2 else .stuck) : Res LV).sp Q E
      rw [if_pos ⟨rfl, hm⟩, rs_bind]
      simp only [List.append_nil]
      exact q
  cases fo env lh with
  | ok x l => exact key x l
  | exc => exact Iff.rfl
  | stuck => exact Iff.rfl
theorem meth_o {fs : List (Str × PV)} {k : LV → Prop} (h : fs.lookup m = none) : MethTo c m (.pv (.obj c fs)) l k ↔ k (.pv (.obj c fs)) := by
  constructor
  · rintro ⟨_, _, _, q⟩; exact q
  · intro q
    exact ⟨_, rfl, by rw [lookup_mapF, h]; rfl, q⟩
def Get2K (o : LV) (fk fd : EN → LH → Res LV) (env : EN) (l : LH) (Q : LV → LH → Prop) (E : LX → LH → Prop) : Prop := ((match dctOf o l with
  | none => .stuck
  | some _ => (fk env l).bind fun k lh2 => (fd env lh2).bind fun z lh3 => match k, dctOf o lh3 with
    | .pv k, some kvs => if isKey k = true then .ok ((getD kvs k).getD z) lh3 else .stuck
    | _, _ => .stuck) : Res LV).sp Q E
theorem rs_get2 : (fGet2 fo fk fd env lh).sp Q E ↔ (fo env lh).sp (fun o l => Get2K o fk fd env l Q E) E := by
  unfold fGet2
  rw [rs_bind]
  exact Iff.rfl
def GetV (kvs : List (PV × PV)) (k z : LV) (q : LV → Prop) : Prop := ∃ s p, k = .pv (.str s) ∧ z = .pv p ∧ q (.pv ((getP kvs (.str s)).getD p))
theorem get2_d {kvs : List (PV × PV)} (h : (fk env l).sp (fun k l2 => (fd env l2).sp (fun z l3 => GetV kvs k z fun v => Q v l3) E) E) : Get2K (.pv (.dct kvs)) fk fd env l Q E := by
  unfold Get2K
  simp only [dctOf_up]
  refine sp_bind (h.imp fun k l2 h => sp_bind (h.imp fun z l3 ⟨s, p, e1, e2, q⟩ => ?_))
  subst e1; subst e2
  show Res.sp (if isKey (.str s) = true then .ok ((getD (upP kvs) (.str s)).getD (.pv p)) l3 else .stuck) Q E
  rw [if_pos (show isKey (.str s) = true from rfl), getD_up]
  cases h : getP kvs (.str s) <;> rw [h] at q <;> exact q
theorem getV_s {kvs : List (PV × PV)} {s : Str} {p : PV} {q : LV → Prop} : GetV kvs (.pv (.str s)) (.pv p) q ↔ q (.pv ((getP kvs (.str s)).getD p)) := ⟨fun ⟨_, _, e1, e2, h⟩ => by cases e1; cases e2; exact h, fun h => ⟨s, p, rfl, rfl, h⟩⟩
theorem rs_lenR {n : Int} (h : 0 ≤ n ∧ n < 4611686018427387904) : (zLenR (.pv (.int n)) lh).sp Q E ↔ Q (.pv (.int n)) lh := rs_of (by
  unfold zLenR
  simp only []
  rw [if_pos (by omega)])
theorem rep_one {α : Type} (p : α) : ∀ n : Nat, (List.replicate n [p]).flatten = List.replicate n p
  | 0 => rfl
  | n + 1 => by rw [List.replicate_succ, List.flatten_cons, rep_one p n]; rfl
theorem rs_rep1 {p : PV} {n : Nat} (h : n ≤ 1000000) : (zRep (.pv (.lst [p])) (.pv (.int (n : Int))) lh).sp Q E ↔ Q (.pv (.lst (List.replicate n p))) lh := rs_of (by
  unfold zRep
  simp only [lstOf_lst]
  rw [if_pos ⟨by omega, by omega, by rw [sizeLine_eq]; simp; omega⟩]
  have e : pvs ([p].map LV.pv) = some [p] := pvs_map [p]
  rw [e]
  simp only [Int.toNat_natCast, rep_one])
theorem zRepM_eq {xs : List LV} {x : LV} {n : Int} (hx : lstOf x lh = some xs) (h : n < 2 ^ 62 ∧ -(2 ^ 62) < n ∧ xs.length * n.toNat ≤ sizeLine) : zRepM x (.pv (.int n)) lh = .ok (.ref lh.length) (lh ++ [.lst (List.replicate n.toNat xs).flatten]) := by
  unfold zRepM
  rw [hx]
  exact if_pos h
theorem rs_repM1 {p : PV} {n : Nat} (h : n ≤ 1000000) : (zRepM (.pv (.lst [p])) (.pv (.int (n : Int))) lh).sp Q E ↔ Q (.ref lh.length) (lh ++ [.lst (List.replicate n (.pv p))]) := by
  have e := zRepM_eq (lh := lh) (x := .pv (.lst [p])) (xs := [.pv p]) (n := (n : Int)) rfl ⟨by omega, by omega, by rw [sizeLine_eq]; simp; omega⟩
  rw [Int.toNat_natCast, rep_one] at e
  rw [e]; exact Iff.rfl
theorem rs_listCD {ps : List PV} : (zListCD [.pv (.lst ps)] lh).sp Q E ↔ Q (.pv (.lst ps)) lh := rs_of (by
  show zListC [.pv (.lst ps)] lh = _
  unfold zListC
  simp only [lstOf_lst, pvs_map])
theorem rs_gSub {Qe : EN → LH → Prop} : (gSubZ fo g v env lh).sp Qe E ↔ (fo env lh).sp (fun o l => (g env l).sp (fun i l2 => PutTo o i v l2 fun l3 => Qe env l3) E) E := by
  unfold gSubZ
  rw [rs_bind]
  have key : ∀ (o i : LV) (l : LH), ((match zPut o i v l with | some l3 => .ok env l3 | none => .stuck) : Res EN).sp Qe E ↔ PutTo o i v l fun l3 => Qe env l3 := fun o i l => by
    unfold PutTo
    constructor
    · intro h
      split at h
      · next l3 e => exact ⟨l3, e, h⟩
      · exact h.elim
    · rintro ⟨l3, e, q⟩
      rw [e]; exact q
  cases fo env lh with
  | ok o l =>
    show ((g env l).bind _).sp Qe E ↔ _
    rw [rs_bind]
    show _ ↔ (g env l).sp _ _
    cases g env l with
    | ok i l2 => exact key o i l2
    | exc => exact Iff.rfl
    | stuck => exact Iff.rfl
  | exc => exact Iff.rfl
  | stuck => exact Iff.rfl
theorem rs_lc2 {zz : List LV → LH → Res LV} {vs vs1 : List Nat} {fi fi1 : EN → LH → Res Src} {g0 g1 : LV → EN → LH → Res EN} {t t1 : EN → LH → Res Bool} {e : EN → LH → Res LV} : (fLc2 zz vs fi g0 t fi1 vs1 g1 t1 e env lh).sp Q E ↔ (fi env lh).sp (fun s l => WipeTo env vs fun env0 => (lc2L s.chk g0 t fi1 vs1 g1 t1 e env0 s.items [] l).sp (fun acc l2 => (zz acc l2).sp Q E) noE) E := by
  unfold fLc2
  rw [rs_bind]
  have wipe : ∀ {env : EN} {vs : List Nat} {k : EN → Prop}, k (wipeE env vs) ↔ WipeTo env vs k := by
    intro env vs
    induction vs with
    | nil => intro k; exact Iff.rfl
    | cons v vs ih => intro k; exact ih (k := fun e => SetTo e v none k)
  have key : ∀ (s : Src) (l : LH), ((noX (lc2L s.chk g0 t fi1 vs1 g1 t1 e (wipeE env vs) s.items [] l)).bind zz).sp Q E ↔ (WipeTo env vs fun env0 => (lc2L s.chk g0 t fi1 vs1 g1 t1 e env0 s.items [] l).sp (fun acc l2 => (zz acc l2).sp Q E) noE) := fun s l => by
    rw [← wipe, rs_bind, rs_noX]
  cases fi env lh with
  | ok s l => exact key s l
  | exc => exact Iff.rfl
  | stuck => exact Iff.rfl
end
end Z
namespace Z
open PySem PySem.Spec PyProof.Rows L2
class HdC (T : Type) where
  v : T
def hide {T : Type} [h : HdC T] : T := h.v
theorem hide_1 {T : Type} {F : T → Prop} {a : T} : @hide (T → Prop) ⟨F⟩ a ↔ F a := Iff.rfl
theorem hide_2 {T U : Type} {F : T → U → Prop} {a : T} {b : U} : @hide (T → U → Prop) ⟨F⟩ a b ↔ F a b := Iff.rfl
theorem hide_3 {T U V : Type} {F : T → U → V → Prop} {a : T} {b : U} {c : V} : @hide (T → U → V → Prop) ⟨F⟩ a b c ↔ F a b c := Iff.rfl
section
variable {A B : Prop} {b : Bool} {p : Prop} [Decidable p]
theorem hwy_1 : Wy true (@hide Prop ⟨A⟩) B ↔ A := wy_1
theorem hwy_0 : Wy false A (@hide Prop ⟨B⟩) ↔ B := wy_0
theorem hwy_neg : Wy (!b) A B ↔ Wy b B A := wy_neg
theorem hwy_xorf : Wy (xor false b) A B ↔ Wy b A B := wy_xorf
theorem hwy_xort : Wy (xor true b) A B ↔ Wy b B A := wy_xort
theorem hwy_T (h : p) : Wy (decide p) (@hide Prop ⟨A⟩) B ↔ A := wy_T h
theorem hwy_F (h : ¬ p) : Wy (decide p) A (@hide Prop ⟨B⟩) ↔ B := wy_F h
end
section
variable {α β : Type} {r r' : Res α} {Q : α → LH → Prop} {E : LX → LH → Prop} {D : Dn} {lh : LH}
theorem hlook_0 {a : LV} {r : EN} {k : LV → Prop} : LookTo (some a :: r) 0 k ↔ k a := look_0
theorem hlook_s {a : Option LV} {r : EN} {i : Nat} {k : LV → Prop} : LookTo (a :: r) (i + 1) k ↔ LookTo r i k := look_s
theorem hset_0 {a x : Option LV} {r : EN} {k : EN → Prop} : SetTo (a :: r) 0 x k ↔ k (x :: r) := set_0
theorem hset_s {a x : Option LV} {r : EN} {i : Nat} {k : EN → Prop} : SetTo (a :: r) (i + 1) x k ↔ SetTo r i x (@hide _ ⟨fun e => k (a :: e)⟩) := set_s
theorem hwipe_n {env : EN} {k : EN → Prop} : WipeTo env [] k ↔ k env := wipe_n
theorem hwipe_c {env : EN} {v : Nat} {vs : List Nat} {k : EN → Prop} : WipeTo env (v :: vs) k ↔ WipeTo env vs (@hide _ ⟨fun e => SetTo e v none k⟩) := wipe_c
theorem hstart_c {n : Nat} {a : LV} {xs : List LV} {k : EN → Prop} : StartTo (n + 1) (a :: xs) k ↔ StartTo n xs (@hide _ ⟨fun e => k (some a :: e)⟩) := start_c
theorem hstart_n {n : Nat} {k : EN → Prop} : StartTo (n + 1) [] k ↔ StartTo n [] (@hide _ ⟨fun e => k (none :: e)⟩) := start_n
theorem hstart_0 {k : EN → Prop} : StartTo 0 [] k ↔ k [] := start_0
theorem hrs_ok {a : α} : (Res.ok a lh).sp Q E ↔ Q a lh := rs_ok
end
section
variable {Q : LV → LH → Prop} {Qb : Bool → LH → Prop} {Qs : List LV → LH → Prop} {E : LX → LH → Prop} {env : EN} {lh : LH} {f g k : EN → LH → Res LV} {t u : EN → LH → Res Bool} {fs : EN → LH → Res (List LV)} {z z' : LV → LV → LH → Res LV} {x y : LV} {i j : Int} {p q : PV}
theorem hrs_name {i : Nat} : (fName i env lh).sp Q E ↔ LookTo env i (@hide _ ⟨fun x => Q x lh⟩) := rs_name
theorem hrs_c {p : PV} : (fC p env lh).sp Q E ↔ Q (.pv p) lh := rs_c
theorem hrs_bin : (fBin z f g env lh).sp Q E ↔ (f env lh).sp ((@hide _ ⟨fun x l => (g env l).sp ((@hide _ ⟨fun y l2 => (z x y l2).sp Q E⟩)) E⟩)) E := rs_bin
theorem hrs_un {z : LV → LH → Res LV} : (fUn z f env lh).sp Q E ↔ (f env lh).sp ((@hide _ ⟨fun x l => (z x l).sp Q E⟩)) E := rs_un
theorem hrs_nil : (fNil env lh).sp Qs E ↔ Qs [] lh := rs_nil
theorem hrs_cons : (fCons f fs env lh).sp Qs E ↔ (f env lh).sp ((@hide _ ⟨fun x l => (fs env l).sp ((@hide _ ⟨fun xs l2 => Qs (x :: xs) l2⟩)) E⟩)) E := rs_cons
theorem hrs_args {z : List LV → LH → Res LV} : (fArgs z fs env lh).sp Q E ↔ (fs env lh).sp ((@hide _ ⟨fun xs l => (z xs l).sp Q E⟩)) E := rs_args
theorem hrs_call0 {m : List LV → LH → Res LV} : (fCallD m [] fs env lh).sp Q E ↔ (fs env lh).sp ((@hide _ ⟨fun xs l => (m xs l).sp Q E⟩)) E := rs_call0
theorem hrs_mk0 {m : List LV → LH → Res LV} : (fMakeD m [] fs env lh).sp Q E ↔ (fs env lh).sp ((@hide _ ⟨fun xs l => (m xs l).sp Q E⟩)) E := rs_mk0
theorem hrs_mkK {y : List LV → LH → Res LV} {b : List LV → List LV → List LV} {fks : EN → LH → Res (List LV)} : (fMakeK y b fs fks env lh).sp Q E ↔ (fs env lh).sp ((@hide _ ⟨fun xs l => (fks env l).sp ((@hide _ ⟨fun zs l2 => (y (b xs zs) l2).sp Q E⟩)) E⟩)) E := rs_mkK
theorem hrs_tV : (tV f env lh).sp Qb E ↔ (f env lh).sp ((@hide _ ⟨fun x l => (asB x l).sp Qb E⟩)) E := rs_tV
theorem hrs_asB {b : Bool} : (asB (.pv (.bl b)) lh).sp Qb E ↔ Qb b lh := rs_asB
theorem hrs_tYes : (tYesZ env lh).sp Qb E ↔ Qb true lh := rs_tYes
theorem hrs_tNot : (tNotZ t env lh).sp Qb E ↔ (t env lh).sp ((@hide _ ⟨fun b l => Qb (!b) l⟩)) E := rs_tNot
theorem hrs_tAnd : (tAndZ t u env lh).sp Qb E ↔ (t env lh).sp ((@hide _ ⟨fun b l => Wy b (@hide Prop ⟨((u env l).sp Qb E)⟩) (@hide Prop ⟨(Qb false l)⟩)⟩)) E := rs_tAnd
theorem hrs_tOr : (tOrZ t u env lh).sp Qb E ↔ (t env lh).sp ((@hide _ ⟨fun b l => Wy b (@hide Prop ⟨(Qb true l)⟩) (@hide Prop ⟨((u env l).sp Qb E)⟩)⟩)) E := rs_tOr
theorem hrs_and : (fAnd f g env lh).sp Q E ↔ (f env lh).sp ((@hide _ ⟨fun x l => (asB x l).sp ((@hide _ ⟨fun b l2 => Wy b (@hide Prop ⟨((g env l2).sp Q E)⟩) (@hide Prop ⟨(Q (.pv (.bl false)) l2)⟩)⟩)) E⟩)) E := rs_and
theorem hrs_or : (fOr f g env lh).sp Q E ↔ (f env lh).sp ((@hide _ ⟨fun x l => (asB x l).sp ((@hide _ ⟨fun b l2 => Wy b (@hide Prop ⟨(Q (.pv (.bl true)) l2)⟩) (@hide Prop ⟨((g env l2).sp Q E)⟩)⟩)) E⟩)) E := rs_or
theorem hrs_not : (fNot f env lh).sp Q E ↔ (f env lh).sp ((@hide _ ⟨fun x l => (asB x l).sp ((@hide _ ⟨fun b l2 => Q (.pv (.bl (!b))) l2⟩)) E⟩)) E := rs_not
theorem hrs_ifE : (fIfE t f g env lh).sp Q E ↔ (t env lh).sp ((@hide _ ⟨fun b l => Wy b (@hide Prop ⟨((f env l).sp Q E)⟩) (@hide Prop ⟨((g env l).sp Q E)⟩)⟩)) E := rs_ifE
theorem hrs_chain : (fChain z z' f g k env lh).sp Q E ↔ (f env lh).sp ((@hide _ ⟨fun x l => (g env l).sp ((@hide _ ⟨fun y l2 => (z x y l2).sp ((@hide _ ⟨fun r l3 => (asB r l3).sp ((@hide _ ⟨fun b l4 => Wy b (@hide Prop ⟨((k env l4).sp ((@hide _ ⟨fun w l5 => (z' y w l5).sp Q E⟩)) E)⟩) (@hide Prop ⟨(Q (.pv (.bl false)) l4)⟩)⟩)) E⟩)) E⟩)) E⟩)) E := rs_chain
theorem hrs_frz : (fFrz f env lh).sp Q E ↔ (f env lh).sp ((@hide _ ⟨fun x l => (zFrz x l).sp Q E⟩)) E := rs_frz
theorem hrs_frzP : (zFrz (.pv p) lh).sp Q E ↔ Q (.pv p) lh := rs_frzP
theorem hrs_mkD : (fMkD env lh).sp Q E ↔ Q (.ref lh.length) (lh ++ [.dct []]) := rs_mkD
theorem hrs_mkD0 : (fMkD0 env lh).sp Q E ↔ Q (.pv (.dct [])) lh := rs_mkD0
theorem hrs_addI : (zAdd (.pv (.int i)) (.pv (.int j)) lh).sp Q E ↔ Q (.pv (.int (i + j))) lh := rs_addI
theorem hrs_sub : (zII Z.gSub (.pv (.int i)) (.pv (.int j)) lh).sp Q E ↔ Q (.pv (.int (i - j))) lh := rs_sub
theorem hrs_lt : (zII gLt (.pv (.int i)) (.pv (.int j)) lh).sp Q E ↔ Q (.pv (.bl (decide (i < j)))) lh := rs_lt
theorem hrs_le : (zII gLe (.pv (.int i)) (.pv (.int j)) lh).sp Q E ↔ Q (.pv (.bl (decide (i ≤ j)))) lh := rs_le
theorem hrs_gt : (zII gGt (.pv (.int i)) (.pv (.int j)) lh).sp Q E ↔ Q (.pv (.bl (decide (j < i)))) lh := rs_gt
theorem hrs_ge : (zII gGe (.pv (.int i)) (.pv (.int j)) lh).sp Q E ↔ Q (.pv (.bl (decide (j ≤ i)))) lh := rs_ge
theorem hrs_mul (h : (-(2 ^ 64) < i ∧ i < 2 ^ 64) ∨ (-(2 ^ 64) < j ∧ j < 2 ^ 64)) : (zII gMul (.pv (.int i)) (.pv (.int j)) lh).sp Q E ↔ Q (.pv (.int (i * j))) lh := rs_mul h
theorem hrs_mod (h : 0 < j) : (zII gMod (.pv (.int i)) (.pv (.int j)) lh).sp Q E ↔ Q (.pv (.int (i % j))) lh := rs_mod h
theorem hrs_div (h : 0 < j ∧ j < 1073741824) : (zII gDiv (.pv (.int i)) (.pv (.int j)) lh).sp Q E ↔ Q (.pv (.int (i / j))) lh := rs_div h
theorem hrs_eqI {neg : Bool} : (zEqD neg (.pv (.int i)) (.pv (.int j)) lh).sp Q E ↔ Q (.pv (.bl (xor neg (decide (i = j))))) lh := rs_eqI
theorem hrs_eqB {neg a b : Bool} : (zEqD neg (.pv (.bl a)) (.pv (.bl b)) lh).sp Q E ↔ Q (.pv (.bl (xor neg (decide (a = b))))) lh := rs_eqB
theorem hrs_eqS {neg : Bool} {a b : Str} (ha : PyData.strOk a = true) (hb : PyData.strOk b = true) : (zEqD neg (.pv (.str a)) (.pv (.str b)) lh).sp Q E ↔ Q (.pv (.bl (xor neg (decide (a = b))))) lh := rs_eqS ha hb
theorem hrs_isN {neg : Bool} : (zIsN neg (.pv p) (.pv .non) lh).sp Q E ↔ Q (.pv (.bl (xor neg (decide (p = .non))))) lh := rs_isN
theorem hpvs_n {k : List PV → Prop} : PvsTo [] k ↔ k [] := pvs_n
theorem hpvs_c {xs : List LV} {k : List PV → Prop} : PvsTo (.pv p :: xs) k ↔ PvsTo xs (@hide _ ⟨fun ps => k (p :: ps)⟩) := pvs_c
theorem hpvs_m {ps : List PV} {k : List PV → Prop} : PvsTo (ps.map .pv) k ↔ k ps := pvs_m
theorem hrs_lst {xs : List LV} : (zLst xs lh).sp Q E ↔ PvsTo xs (@hide _ ⟨fun ps => Q (.pv (.lst ps)) lh⟩) := rs_lst
theorem hrs_tup {xs : List LV} : (zTup xs lh).sp Q E ↔ PvsTo xs (@hide _ ⟨fun ps => Q (.pv (.tup ps)) lh⟩) := rs_tup
theorem hrs_lstM {xs : List LV} : (zLstM xs lh).sp Q E ↔ Q (.ref lh.length) (lh ++ [.lst xs]) := rs_lstM
section
variable {a b c d e : PV} {r : List PV}
theorem hrs_ixT0 : (zIx (.pv (.tup (a :: r))) (.pv (.int 0)) lh).sp Q E ↔ Q (.pv a) lh := rs_ixT0
theorem hrs_ixT1 : (zIx (.pv (.tup (a :: b :: r))) (.pv (.int 1)) lh).sp Q E ↔ Q (.pv b) lh := rs_ixT1
theorem hrs_ixT2 : (zIx (.pv (.tup (a :: b :: c :: r))) (.pv (.int 2)) lh).sp Q E ↔ Q (.pv c) lh := rs_ixT2
theorem hrs_ixT3 : (zIx (.pv (.tup (a :: b :: c :: d :: r))) (.pv (.int 3)) lh).sp Q E ↔ Q (.pv d) lh := rs_ixT3
theorem hrs_ixL0 : (zIx (.pv (.lst (a :: r))) (.pv (.int 0)) lh).sp Q E ↔ Q (.pv a) lh := rs_ixL0
theorem hrs_ixL1 : (zIx (.pv (.lst (a :: b :: r))) (.pv (.int 1)) lh).sp Q E ↔ Q (.pv b) lh := rs_ixL1
theorem hrs_ixL2 : (zIx (.pv (.lst (a :: b :: c :: r))) (.pv (.int 2)) lh).sp Q E ↔ Q (.pv c) lh := rs_ixL2
theorem hrs_ixL3 : (zIx (.pv (.lst (a :: b :: c :: d :: r))) (.pv (.int 3)) lh).sp Q E ↔ Q (.pv d) lh := rs_ixL3
end
theorem hrs_lenL {ps : List PV} : (zLenA [.pv (.lst ps)] lh).sp Q E ↔ Q (.pv (.int ps.length)) lh := rs_lenL
theorem hrs_lenT {ps : List PV} : (zLenA [.pv (.tup ps)] lh).sp Q E ↔ Q (.pv (.int ps.length)) lh := rs_lenT
theorem hrs_isiT {ks : List Str} {oc : Str → Str → Bool} {x : LV} {c : PV} (h : isiO ks oc x c lh = some true) : (zIsi ks oc [x, .pv c] lh).sp Q E ↔ Q (.pv (.bl true)) lh := rs_isiT h
theorem hrs_isiF {ks : List Str} {oc : Str → Str → Bool} {x : LV} {c : PV} (h : isiO ks oc x c lh = some false) : (zIsi ks oc [x, .pv c] lh).sp Q E ↔ Q (.pv (.bl false)) lh := rs_isiF h
theorem hrs_inT1 {n : Bool} {s a : Str} (hs : PyData.strOk s = true) (ha : PyData.strOk a = true) : (zIn n (.pv (.str s)) (.pv (.tup [.str a])) lh).sp Q E ↔ Q (.pv (.bl (xor n (decide (s ∈ [a]))))) lh := rs_inT1 hs ha
theorem hrs_inT2 {n : Bool} {s a b : Str} (hs : PyData.strOk s = true) (ha : PyData.strOk a = true) (hb : PyData.strOk b = true) : (zIn n (.pv (.str s)) (.pv (.tup [.str a, .str b])) lh).sp Q E ↔ Q (.pv (.bl (xor n (decide (s ∈ [a, b]))))) lh := rs_inT2 hs ha hb
theorem hrs_inT3 {n : Bool} {s a b c : Str} (hs : PyData.strOk s = true) (ha : PyData.strOk a = true) (hb : PyData.strOk b = true) (hc : PyData.strOk c = true) : (zIn n (.pv (.str s)) (.pv (.tup [.str a, .str b, .str c])) lh).sp Q E ↔ Q (.pv (.bl (xor n (decide (s ∈ [a, b, c]))))) lh := rs_inT3 hs ha hb hc
theorem hrs_inT4 {n : Bool} {s a b c d : Str} (hs : PyData.strOk s = true) (ha : PyData.strOk a = true) (hb : PyData.strOk b = true) (hc : PyData.strOk c = true) (hd : PyData.strOk d = true) : (zIn n (.pv (.str s)) (.pv (.tup [.str a, .str b, .str c, .str d])) lh).sp Q E ↔ Q (.pv (.bl (xor n (decide (s ∈ [a, b, c, d]))))) lh := rs_inT4 hs ha hb hc hd
theorem hrs_inT5 {n : Bool} {s a b c d e : Str} (hs : PyData.strOk s = true) (ha : PyData.strOk a = true) (hb : PyData.strOk b = true) (hc : PyData.strOk c = true) (hd : PyData.strOk d = true) (he : PyData.strOk e = true) : (zIn n (.pv (.str s)) (.pv (.tup [.str a, .str b, .str c, .str d, .str e])) lh).sp Q E ↔ Q (.pv (.bl (xor n (decide (s ∈ [a, b, c, d, e]))))) lh := rs_inT5 hs ha hb hc hd he
theorem hrs_inS {neg : Bool} {c : Nat} {z : Str} : (zIn neg (.pv (.str ⟨#[c]⟩)) (.pv (.str z)) lh).sp Q E ↔ Q (.pv (.bl (xor neg (decide (c ∈ z.cps.toList))))) lh := rs_inS
theorem hrs_all {F : List Bool → Bool} {bs : List Bool} : (zAll F [.pv (.lst (bs.map .bl))] lh).sp Q E ↔ Q (.pv (.bl (F bs))) lh := rs_all
theorem hrs_sum {is : List Int} : (zSum [.pv (.lst (is.map .int))] lh).sp Q E ↔ Q (.pv (.int is.sum)) lh := rs_sum
theorem hrs_addS {a b : Str} (h : a.length + b.length ≤ sizeLine) : (zAdd (.pv (.str a)) (.pv (.str b)) lh).sp Q E ↔ Q (.pv (.str (a ++ b))) lh := rs_addS h
theorem hrs_addL {xs ys : List PV} (h : xs.length + ys.length ≤ sizeLine) : (zAdd (.pv (.lst xs)) (.pv (.lst ys)) lh).sp Q E ↔ Q (.pv (.lst (xs ++ ys))) lh := rs_addL h
theorem hrs_join : (fJoin f g env lh).sp Q E ↔ (f env lh).sp ((@hide _ ⟨fun x l => (joinK g env x l).sp Q E⟩)) E := rs_join
theorem hrs_joinK {a : Str} : (joinK g env (.pv (.str a)) lh).sp Q E ↔ (g env lh).sp ((@hide _ ⟨fun y l => (joinZ a y l).sp Q E⟩)) E := rs_joinK
theorem hrs_fmtS {y : Str} (h : y.length ≤ sizeLine) : (zFmt (.pv (.str y)) lh).sp Q E ↔ Q (.pv (.str y)) lh := rs_fmtS h
theorem hrs_jsN {acc : Str} : (jsL [] acc env lh).sp Q E ↔ Q (.pv (.str acc)) lh := rs_jsN
theorem hrs_jsC {fs : List (EN → LH → Res LV)} {acc : Str} : (jsL (f :: fs) acc env lh).sp Q E ↔ (f env lh).sp ((@hide _ ⟨fun x l => JsTo acc x (@hide _ ⟨fun a => (jsL fs a env l).sp Q E⟩)⟩)) E := rs_jsC
theorem hjs_1 {acc y : Str} {k : Str → Prop} (h : (acc ++ y).length ≤ sizeLine) : JsTo acc (.pv (.str y)) k ↔ k (acc ++ y) := js_1 h
end
section
variable {Q : LV → LH → Prop} {E : LX → LH → Prop} {env : EN} {lh : LH} {f g : EN → LH → Res LV} {z : List LV → LH → Res LV} {cs : List Str} {n : Str}
theorem hrs_fld : (fFld cs n f env lh).sp Q E ↔ (f env lh).sp ((@hide _ ⟨fun x l => FldTo cs n x l (@hide _ ⟨fun v => Q v l⟩)⟩)) E := rs_fld
theorem hfld_o {c : Str} {fs : List (Str × PV)} {k : LV → Prop} (h : c ∈ cs) : FldTo cs n (.pv (.obj c fs)) lh k ↔ GetF fs n k := fld_o h
theorem hgetF_1 {m : Str} {p : PV} {r : List (Str × PV)} {k : LV → Prop} (h : n = m) : GetF ((m, p) :: r) n k ↔ k (.pv p) := getF_1 h
theorem hgetF_s {m : Str} {p : PV} {r : List (Str × PV)} {k : LV → Prop} (h : ¬ n = m) : GetF ((m, p) :: r) n k ↔ GetF r n k := getF_s h
theorem hrs_prop : (fProp cs z f env lh).sp Q E ↔ (f env lh).sp ((@hide _ ⟨fun x l => (∃ c fs, insOf x l = some (c, fs) ∧ c ∈ cs) ∧ (z [x] l).sp Q noE⟩)) E := rs_prop
theorem hprop_o {c : Str} {fs : List (Str × PV)} {P : Prop} (h : c ∈ cs) : ((∃ d gs, insOf (.pv (.obj c fs)) lh = some (d, gs) ∧ d ∈ cs) ∧ P) ↔ P := prop_o h
theorem hrs_ownBin {zz : List LV → LH → Res LV} {c : Str} {fs1 fs2 : List (Str × PV)} : (zOwnBin c zz (.pv (.obj c fs1)) (.pv (.obj c fs2)) lh).sp Q E ↔ (zz [.pv (.obj c fs1), .pv (.obj c fs2)] lh).sp Q noE := rs_ownBin
theorem hrs_ownInv {zz : List LV → LH → Res LV} {c : Str} {fs1 : List (Str × PV)} : (zOwnInv c zz (.pv (.obj c fs1)) lh).sp Q E ↔ (zz [.pv (.obj c fs1)] lh).sp Q noE := rs_ownInv
end
section
variable {D : Dn} {Q : LV → LH → Prop} {E : LX → LH → Prop} {env : EN} {lh : LH} {a b : EN → LH → SRes} {f g : EN → LH → Res LV} {t : EN → LH → Res Bool} {k : EN → LH → Prop} {e : EN} {l : LH} {v : LV} {x : LX}
theorem hrs_seq : (sSeq a b env lh).sp D ↔ (a env lh).sp (D.thn (@hide _ ⟨fun e l => (b e l).sp D⟩)) := rs_seq
theorem hrs_set {i : Nat} : (sAsg f (gN i) env lh).sp D ↔ (f env lh).sp ((@hide _ ⟨fun x l => SetTo env i (some x) (@hide _ ⟨fun e => D.nx e l⟩)⟩)) ((@hide _ ⟨fun e l => D.ex e env l⟩)) := rs_set
theorem hrs_asg {g : LV → EN → LH → Res EN} : (sAsg f g env lh).sp D ↔ (f env lh).sp ((@hide _ ⟨fun x l => (g x env l).sp ((@hide _ ⟨fun e l2 => D.nx e l2⟩)) noE⟩)) ((@hide _ ⟨fun e l => D.ex e env l⟩)) := rs_asg
theorem hrs_expr : (sExpr f env lh).sp D ↔ (f env lh).sp ((@hide _ ⟨fun _ l => D.nx env l⟩)) ((@hide _ ⟨fun e l => D.ex e env l⟩)) := rs_expr
theorem hrs_ret : (sRet f env lh).sp D ↔ (f env lh).sp ((@hide _ ⟨fun x l => D.rt x l⟩)) ((@hide _ ⟨fun e l => D.ex e env l⟩)) := rs_ret
theorem hrs_retN : (sRetN env lh).sp D ↔ D.rt (.pv .non) lh := rs_retN
theorem hrs_next : (sNext env lh).sp D ↔ D.nx env lh := rs_next
theorem hrs_brk : (sBrk env lh).sp D ↔ D.bk env lh := rs_brk
theorem hrs_cont : (sCont env lh).sp D ↔ D.ct env lh := rs_cont
theorem hrs_sIf : (sIf t a b env lh).sp D ↔ (t env lh).sp ((@hide _ ⟨fun c l => Wy c (@hide Prop ⟨((a env l).sp D)⟩) (@hide Prop ⟨((b env l).sp D)⟩)⟩)) ((@hide _ ⟨fun e l => D.ex e env l⟩)) := rs_sIf
theorem hrs_for {fi : EN → LH → Res Src} {g : LV → EN → LH → Res EN} : (sFor fi g b env lh).sp D ↔ (fi env lh).sp ((@hide _ ⟨fun s l => (forL s.chk g b s.items env l).sp D⟩)) ((@hide _ ⟨fun e l => D.ex e env l⟩)) := rs_for
theorem htwo_1 {x y : LV} {k : LV → LV → Prop} : TwoTo [x, y] k ↔ k x y := two_1
theorem hrs_par {fs : EN → LH → Res (List LV)} {i j : Nat} : (sPar i j fs env lh).sp D ↔ (fs env lh).sp ((@hide _ ⟨fun xs l => TwoTo xs (@hide _ ⟨fun x y => SetTo env i (some x) (@hide _ ⟨fun e => SetTo e j (some y) (@hide _ ⟨fun e => D.nx e l⟩)⟩)⟩)⟩)) ((@hide _ ⟨fun e l => D.ex e env l⟩)) := rs_par
theorem hrs_tnx : (D.thn k).nx e l ↔ k e l := rs_tnx
theorem hrs_trt : (D.thn k).rt v l ↔ D.rt v l := rs_trt
theorem hrs_tbk : (D.thn k).bk e l ↔ D.bk e l := rs_tbk
theorem hrs_tct : (D.thn k).ct e l ↔ D.ct e l := rs_tct
theorem hrs_lnx : (D.lp k).nx e l ↔ k e l := rs_lnx
theorem hrs_lrt : (D.lp k).rt v l ↔ D.rt v l := rs_lrt
theorem hrs_lbk : (D.lp k).bk e l ↔ D.nx e l := rs_lbk
theorem hrs_lct : (D.lp k).ct e l ↔ k e l := rs_lct
theorem hrs_fnx : (Dn.fn Q E).nx e l ↔ Q (.pv .non) l := rs_fnx
theorem hrs_frt : (Dn.fn Q E).rt v l ↔ Q v l := rs_frt
theorem hrs_cl0 {p : PV} : (cleanR lh (.ok (.pv p) lh)).sp Q E ↔ Q (.pv p) lh := rs_cl0
theorem hrs_fn {n : Nat} {b : EN → LH → SRes} {xs : List LV} : (mOf n (sNoX b) xs lh).sp Q E ↔ StartTo n xs (@hide _ ⟨fun e => (b e lh).sp (Dn.fn ((@hide _ ⟨fun v l => (cleanR lh (.ok v l)).sp Q E⟩)) noE)⟩) := rs_fn
section
variable {Qi : Src → LH → Prop} {fs : EN → LH → Res (List LV)}
theorem hlst_1 {ps : List PV} {k : List LV → Prop} : LstTo (.pv (.lst ps)) l k ↔ k (ps.map .pv) := lst_1
theorem hrs_src : (fSrc f env lh).sp Qi E ↔ (f env lh).sp ((@hide _ ⟨fun x l => LstTo x l (@hide _ ⟨fun xs => Qi ⟨fun l => sameO (lstOf x l) xs, xs⟩ l⟩)⟩)) E := rs_src
theorem htup_1 {ps : List PV} {k : List PV → Prop} : TupTo (.pv (.tup ps)) k ↔ k ps := tup_1
theorem hrs_srcT : (fSrcT f env lh).sp Qi E ↔ (f env lh).sp ((@hide _ ⟨fun x l => TupTo x (@hide _ ⟨fun xs => Qi ⟨yes, xs.map .pv⟩ l⟩)⟩)) E := rs_srcT
theorem hrs_rng : (fRng fs env lh).sp Qi E ↔ (fs env lh).sp ((@hide _ ⟨fun xs l => (rngSrc xs l).sp Qi E⟩)) E := rs_rng
theorem hrs_rng1 {n : Nat} (h : n < 1000000) : (rngSrc [.pv (.int (n : Int))] lh).sp Qi E ↔ Qi ⟨yes, zints 0 n⟩ lh := rs_rng1 h
theorem hrs_rngI {i : Int} (h : 0 ≤ i ∧ i < 1000000) : (rngSrc [.pv (.int i)] lh).sp Qi E ↔ Qi ⟨yes, zints 0 i.toNat⟩ lh := rs_rngI h
theorem hrs_zip : (fZip fs env lh).sp Qi E ↔ (fs env lh).sp ((@hide _ ⟨fun xs l => (zipSrc xs l).sp Qi E⟩)) E := rs_zip
theorem hrs_zipL {ps qs : List PV} : (zipSrc [.pv (.lst ps), .pv (.lst qs)] lh).sp Qi E ↔ Qi ⟨fun _ => true, zipP ps qs⟩ lh := rs_zipL
theorem hrs_zipT {ps qs : List PV} : (zipSrc [.pv (.tup ps), .pv (.tup qs)] lh).sp Qi E ↔ Qi ⟨yes, zipP ps qs⟩ lh := rs_zipT
theorem hrs_lc {z : List LV → LH → Res LV} {vs : List Nat} {fi : EN → LH → Res Src} {g : LV → EN → LH → Res EN} {e : EN → LH → Res LV} : (fLc z vs fi g t e env lh).sp Q E ↔ (fi env lh).sp ((@hide _ ⟨fun s l => s.items.length ≤ sizeLine ∧ WipeTo env vs (@hide _ ⟨fun env0 => (lcL s.chk g t e env0 s.items [] l).sp ((@hide _ ⟨fun acc l2 => (z acc l2).sp Q E⟩)) noE⟩)⟩)) E := rs_lc
end
theorem hrs_gN {i : Nat} {Qe : EN → LH → Prop} : (gN i v env lh).sp Qe E ↔ SetTo env i (some v) (@hide _ ⟨fun e => Qe e lh⟩) := rs_gN
theorem hrs_gNil {Qe : EN → LH → Prop} : (gNil [] env lh).sp Qe E ↔ Qe env lh := rs_gNil
theorem hrs_gCons {fg : LV → EN → LH → Res EN} {g : List LV → EN → LH → Res EN} {r : List LV} {Qe : EN → LH → Prop} : (gCons fg g (v :: r) env lh).sp Qe E ↔ (fg v env lh).sp ((@hide _ ⟨fun e1 l => (g r e1 l).sp Qe E⟩)) E := rs_gCons
theorem hrs_gTup2 {g : List LV → EN → LH → Res EN} {p q : PV} {Qe : EN → LH → Prop} : (gTupZ 2 g (.pv (.tup [p, q])) env lh).sp Qe E ↔ (g [.pv p, .pv q] env lh).sp Qe E := rs_gTup2
theorem hrs_gTup3 {g : List LV → EN → LH → Res EN} {p q r : PV} {Qe : EN → LH → Prop} : (gTupZ 3 g (.pv (.tup [p, q, r])) env lh).sp Qe E ↔ (g [.pv p, .pv q, .pv r] env lh).sp Qe E := rs_gTup3
theorem hrs_gTup4 {g : List LV → EN → LH → Res EN} {p q r s : PV} {Qe : EN → LH → Prop} : (gTupZ 4 g (.pv (.tup [p, q, r, s])) env lh).sp Qe E ↔ (g [.pv p, .pv q, .pv r, .pv s] env lh).sp Qe E := rs_gTup4
end
section
variable {Q : LV → LH → Prop} {E : LX → LH → Prop} {env : EN} {lh : LH} {f : EN → LH → Res LV} {Qo : Option Int → LH → Prop}
theorem hrs_oN : (fOpt none env lh).sp Qo E ↔ Qo none lh := rs_oN
theorem hasI_1 {i : Int} {k : Int → Prop} : AsI (.pv (.int i)) k ↔ k i := asI_1
theorem hrs_oS : (fOpt (some f) env lh).sp Qo E ↔ (f env lh).sp ((@hide _ ⟨fun x l => AsI x (@hide _ ⟨fun i => Qo (some i) l⟩)⟩)) E := rs_oS
theorem hrs_sl {lo hi : Option (EN → LH → Res LV)} : (fSl f lo hi env lh).sp Q E ↔ (f env lh).sp ((@hide _ ⟨fun x l => (fOpt lo env l).sp ((@hide _ ⟨fun i l2 => (fOpt hi env l2).sp ((@hide _ ⟨fun j l3 => (zSl x i j l3).sp Q E⟩)) E⟩)) E⟩)) E := rs_sl
theorem hrs_slL {ps : List PV} {i j : Option Int} : (zSl (.pv (.lst ps)) i j lh).sp Q E ↔ Q (.pv (.lst (cutL ps i j))) lh := rs_slL
theorem hrs_slT {ps : List PV} {i j : Option Int} : (zSl (.pv (.tup ps)) i j lh).sp Q E ↔ Q (.pv (.tup (cutL ps i j))) lh := rs_slT
theorem hrs_join2 {s a b : Str} (h : a.length + b.length + s.length ≤ 1000000) : (joinZ s (.pv (.lst [.str a, .str b])) lh).sp Q E ↔ Q (.pv (.str (a ++ s ++ b))) lh := rs_join2 h
theorem hrs_join3 {s a b c : Str} (h : a.length + b.length + c.length + s.length ≤ 1000000) : (joinZ s (.pv (.lst [.str a, .str b, .str c])) lh).sp Q E ↔ Q (.pv (.str (a ++ s ++ b ++ s ++ c))) lh := rs_join3 h
end
section
variable {chk : LH → Bool} {g : LV → EN → LH → Res EN} {t : EN → LH → Res Bool} {e : EN → LH → Res LV} {env0 : EN} {acc : List LV} {lh : LH} {Qa : List LV → LH → Prop} {y : LV} {r : List LV} {E : LX → LH → Prop}
theorem hrs_lcN (h : chk lh = true) : (lcL chk g t e env0 [] acc lh).sp Qa E ↔ Qa acc lh := rs_lcN h
theorem hrs_lcC (h : chk lh = true) : (lcL chk g t e env0 (y :: r) acc lh).sp Qa E ↔ (g y env0 lh).sp ((@hide _ ⟨fun e1 l => (t e1 l).sp ((@hide _ ⟨fun c l2 => Wy c (@hide Prop ⟨((e e1 l2).sp ((@hide _ ⟨fun v l3 => (lcL chk g t e env0 r (acc ++ [v]) l3).sp Qa E⟩)) E)⟩) (@hide Prop ⟨((lcL chk g t e env0 r acc l2).sp Qa E)⟩)⟩)) E⟩)) E := rs_lcC h
end
section
variable {Q : LV → LH → Prop} {E : LX → LH → Prop} {env : EN} {lh l : LH} {f g fo fk fd : EN → LH → Res LV} {fas : EN → LH → Res (List LV)} {c m : Str} {z : List LV → LH → Res LV} {x v : LV} {i : Nat}
theorem hrs_meth : (fMethD c m z [] fo fas env lh).sp Q E ↔ (fo env lh).sp ((@hide _ ⟨fun x l => MethTo c m x l (@hide _ ⟨fun x => (fas env l).sp ((@hide _ ⟨fun xs l2 => (z (x :: xs) l2).sp Q E⟩)) E⟩)⟩)) E := rs_meth
theorem hmeth_o {fs : List (Str × PV)} {k : LV → Prop} (h : fs.lookup m = none) : MethTo c m (.pv (.obj c fs)) l k ↔ k (.pv (.obj c fs)) := meth_o h
theorem hrs_get2 : (fGet2 fo fk fd env lh).sp Q E ↔ (fo env lh).sp ((@hide _ ⟨fun o l => Get2K o fk fd env l Q E⟩)) E := rs_get2
theorem hgetV_s {kvs : List (PV × PV)} {s : Str} {p : PV} {q : LV → Prop} : GetV kvs (.pv (.str s)) (.pv p) q ↔ q (.pv ((getP kvs (.str s)).getD p)) := getV_s
theorem hrs_lenR {n : Int} (h : 0 ≤ n ∧ n < 4611686018427387904) : (zLenR (.pv (.int n)) lh).sp Q E ↔ Q (.pv (.int n)) lh := rs_lenR h
theorem hrs_rep1 {p : PV} {n : Nat} (h : n ≤ 1000000) : (zRep (.pv (.lst [p])) (.pv (.int (n : Int))) lh).sp Q E ↔ Q (.pv (.lst (List.replicate n p))) lh := rs_rep1 h
theorem hrs_repM1 {p : PV} {n : Nat} (h : n ≤ 1000000) : (zRepM (.pv (.lst [p])) (.pv (.int (n : Int))) lh).sp Q E ↔ Q (.ref lh.length) (lh ++ [.lst (List.replicate n (.pv p))]) := rs_repM1 h
theorem hrs_listCD {ps : List PV} : (zListCD [.pv (.lst ps)] lh).sp Q E ↔ Q (.pv (.lst ps)) lh := rs_listCD
theorem hrs_gSub {Qe : EN → LH → Prop} : (gSubZ fo g v env lh).sp Qe E ↔ (fo env lh).sp ((@hide _ ⟨fun o l => (g env l).sp ((@hide _ ⟨fun i l2 => PutTo o i v l2 (@hide _ ⟨fun l3 => Qe env l3⟩)⟩)) E⟩)) E := rs_gSub
theorem hrs_lc2 {zz : List LV → LH → Res LV} {vs vs1 : List Nat} {fi fi1 : EN → LH → Res Src} {g0 g1 : LV → EN → LH → Res EN} {t t1 : EN → LH → Res Bool} {e : EN → LH → Res LV} : (fLc2 zz vs fi g0 t fi1 vs1 g1 t1 e env lh).sp Q E ↔ (fi env lh).sp ((@hide _ ⟨fun s l => WipeTo env vs (@hide _ ⟨fun env0 => (lc2L s.chk g0 t fi1 vs1 g1 t1 e env0 s.items [] l).sp ((@hide _ ⟨fun acc l2 => (zz acc l2).sp Q E⟩)) noE⟩)⟩)) E := rs_lc2
end
theorem ll_0 : ("" : Str).length = 0 := by decide +kernel
theorem ll_1 : ("yes" : Str).length = 3 := by decide +kernel
theorem ll_2 : ("back " : Str).length = 5 := by decide +kernel
theorem ll_3 : ("[" : Str).length = 1 := by decide +kernel
theorem ll_4 : ("]" : Str).length = 1 := by decide +kernel
theorem ll_5 : ("(" : Str).length = 1 := by decide +kernel
theorem ll_6 : (")" : Str).length = 1 := by decide +kernel
theorem ll_7 : (" " : Str).length = 1 := by decide +kernel
theorem ll_8 : ("not" : Str).length = 3 := by decide +kernel
theorem ll_9 : ("any" : Str).length = 3 := by decide +kernel
theorem ll_10 : ("again" : Str).length = 5 := by decide +kernel
theorem ll_11 : ("and" : Str).length = 3 := by decide +kernel
theorem ll_12 : ("or" : Str).length = 2 := by decide +kernel
theorem ll_13 : ("near" : Str).length = 4 := by decide +kernel
theorem ll_14 : ("then" : Str).length = 4 := by decide +kernel
theorem ll_15 : ("either" : Str).length = 6 := by decide +kernel
theorem ll_16 : ("leap" : Str).length = 4 := by decide +kernel
theorem ll_17 : ("Test('" : Str).length = 6 := by decide +kernel
theorem ll_18 : ("Way('" : Str).length = 5 := by decide +kernel
theorem ll_19 : ("')" : Str).length = 2 := by decide +kernel
theorem ll_20 : ("mark" : Str).length = 4 := by decide +kernel
theorem ll_21 : ("tie" : Str).length = 3 := by decide +kernel
theorem ll_22 : ("back" : Str).length = 4 := by decide +kernel
theorem ll_23 : ("stay" : Str).length = 4 := by decide +kernel
theorem ll_24 : ("q" : Str).length = 1 := by decide +kernel
theorem ll_25 : ("paint" : Str).length = 5 := by decide +kernel
theorem ll_26 : ("redraw" : Str).length = 6 := by decide +kernel
theorem ll_27 : ("when" : Str).length = 4 := by decide +kernel
theorem ll_28 : ("do" : Str).length = 2 := by decide +kernel
theorem ll_29 : ("else" : Str).length = 4 := by decide +kernel
theorem ll_30 : ("end" : Str).length = 3 := by decide +kernel
theorem ll_31 : ("; " : Str).length = 2 := by decide +kernel
theorem ll_32 : (";" : Str).length = 1 := by decide +kernel
theorem ll_33 : (", " : Str).length = 2 := by decide +kernel
theorem ll_34 : (": " : Str).length = 2 := by decide +kernel
theorem ll_35 : ("{" : Str).length = 1 := by decide +kernel
theorem ll_36 : ("}" : Str).length = 1 := by decide +kernel
theorem sl_le {n : Nat} (h : n ≤ 1000000) : (n ≤ sizeLine) = True := by rw [sizeLine_eq]; exact eq_true (by omega)
theorem ll_e : (Str.empty).length = 0 := by decide +kernel
end Z
namespace Z
open PySem PySem.Spec PyProof.Rows L2
inductive Frm | int | bool | str | lst (f : Frm) | tup (f : Frm)
def Frm.dep : Frm → Nat
  | .int | .bool | .str => 0
  | .lst f | .tup f => f.dep + 1
inductive HasF : Frm → PV → Prop
  | int (i) : HasF .int (.int i)
  | bool (b) : HasF .bool (.bl b)
  | str {s} : PyData.strOk s = true → HasF .str (.str s)
  | lst {f xs} : (∀ x ∈ xs, HasF f x) → HasF (.lst f) (.lst xs)
  | tup {f xs} : (∀ x ∈ xs, HasF f x) → HasF (.tup f) (.tup xs)
theorem hasF_pd : ∀ (f : Frm) {p : PV}, HasF f p → ∃ d, pd p = some d ∧ PyData.canLay0 d = true ∧ PyData.depth d ≤ f.dep := by
  have lists : ∀ (k : Nat) (P : PV → Prop), (∀ {p : PV}, P p → ∃ d, pd p = some d ∧ PyData.canLay0 d = true ∧ PyData.depth d ≤ k) → ∀ xs : List PV, (∀ x ∈ xs, P x) → ∃ ds, pds xs = some ds ∧ PyData.canLayAll0 ds = true ∧ PyData.depthAll ds ≤ k := by
    intro k P ih xs
    induction xs with
    | nil => intro _; exact ⟨[], rfl, rfl, Nat.zero_le _⟩
    | cons x xs ihx =>
      intro h
      obtain ⟨d, h1, h2, h3⟩ := ih (h x (List.mem_cons_self ..))
      obtain ⟨ds, g1, g2, g3⟩ := ihx fun y hy => h y (List.mem_cons_of_mem _ hy)
      refine ⟨d :: ds, ?_, ?_, ?_⟩
      · show (pd x).bind (fun d => (pds xs).map fun ds => d :: ds) = _
        rw [h1, g1]; rfl
      · show (PyData.canLay0 d && PyData.canLayAll0 ds) = true
        rw [h2, g2]; rfl
      · show max (PyData.depth d) (PyData.depthAll ds) ≤ k
        omega
  intro f
  induction f with
  | int => intro p h; cases h; exact ⟨_, rfl, rfl, Nat.le_refl _⟩
  | bool => intro p h; cases h; exact ⟨_, rfl, rfl, Nat.le_refl _⟩
  | str => intro p h; cases h with | str hs => exact ⟨.str _, rfl, by unfold PyData.canLay0; exact hs, Nat.le_refl _⟩
  | lst f ih =>
    intro p h
    cases h with
    | lst hx =>
      obtain ⟨ds, g1, g2, g3⟩ := lists f.dep (HasF f) ih _ hx
      refine ⟨.list ds, ?_, g2, ?_⟩
      · show (pds _).map PyData.list = _
        rw [g1]; rfl
      · show PyData.depthAll ds + 1 ≤ f.dep + 1
        omega
  | tup f ih =>
    intro p h
    cases h with
    | tup hx =>
      obtain ⟨ds, g1, g2, g3⟩ := lists f.dep (HasF f) ih _ hx
      refine ⟨.tuple ds, ?_, g2, ?_⟩
      · show (pds _).map PyData.tuple = _
        rw [g1]; rfl
      · show PyData.depthAll ds + 1 ≤ f.dep + 1
        omega
theorem hasF_eq : ∀ (f : Frm) {p q : PV}, HasF f p → HasF f q → ∀ {d e : PyData}, pd p = some d → pd q = some e → PyData.eqv d e = decide (p = q) := by
  have lists : ∀ (P : PV → Prop), (∀ {p q : PV}, P p → P q → ∀ {d e : PyData}, pd p = some d → pd q = some e → PyData.eqv d e = decide (p = q)) →
      ∀ xs ys : List PV, (∀ x ∈ xs, P x) → (∀ y ∈ ys, P y) → ∀ {ds es : List PyData}, pds xs = some ds → pds ys = some es → PyData.eqvAll ds es = decide (xs = ys) := by
    intro P ih xs
    induction xs with
    | nil =>
      intro ys _ _ ds es h1 h2
      cases h1
      cases ys with
      | nil => cases h2; rfl
      | cons y ys =>
        obtain ⟨d, e1, h2⟩ := Option.bind_eq_some_iff.mp (show (pd y).bind (fun d => (pds ys).map fun ds => d :: ds) = some es from h2)
        obtain ⟨es', e2, rfl⟩ := Option.map_eq_some_iff.mp h2
        simp [PyData.eqvAll]
    | cons x xs ihx =>
      intro ys hx hy ds es h1 h2
      obtain ⟨d, e1, h1⟩ := Option.bind_eq_some_iff.mp (show (pd x).bind (fun d => (pds xs).map fun ds => d :: ds) = some ds from h1)
      obtain ⟨ds', e2, rfl⟩ := Option.map_eq_some_iff.mp h1
      cases ys with
      | nil => cases h2; simp [PyData.eqvAll]
      | cons y ys =>
        obtain ⟨e, e3, h2⟩ := Option.bind_eq_some_iff.mp (show (pd y).bind (fun d => (pds ys).map fun ds => d :: ds) = some es from h2)
        obtain ⟨es', e4, rfl⟩ := Option.map_eq_some_iff.mp h2
        show (PyData.eqv d e && PyData.eqvAll ds' es') = _
        rw [ih (hx x (List.mem_cons_self ..)) (hy y (List.mem_cons_self ..)) e1 e3, ihx ys (fun z hz => hx z (List.mem_cons_of_mem _ hz)) (fun z hz => hy z (List.mem_cons_of_mem _ hz)) e2 e4]
        by_cases a : x = y <;> by_cases b : xs = ys <;> simp [a, b]
  intro f
  induction f with
  | int =>
    intro p q h g d e h1 h2
    cases h; cases g; cases h1; cases h2
    show (_ == _) = _
    rw [Bool.beq_eq_decide_eq, decide_eq_decide]
    exact ⟨fun h => by rw [h], fun h => by injection h⟩
  | bool =>
    intro p q h g d e h1 h2
    cases h; cases g; cases h1; cases h2
    show (_ == _) = _
    rw [Bool.beq_eq_decide_eq, decide_eq_decide]
    exact ⟨fun h => by rw [h], fun h => by injection h⟩
  | str =>
    intro p q h g d e h1 h2
    cases h; cases g; cases h1; cases h2
    show (_ == _) = _
    rw [Bool.beq_eq_decide_eq, decide_eq_decide]
    exact ⟨fun h => by rw [h], fun h => by injection h⟩
  | lst f ih =>
    intro p q h g d e h1 h2
    cases h with
    | lst hx =>
      cases g with
      | lst gx =>
        obtain ⟨ds, e1, rfl⟩ := Option.map_eq_some_iff.mp (show (pds _).map PyData.list = some d from h1)
        obtain ⟨es, e2, rfl⟩ := Option.map_eq_some_iff.mp (show (pds _).map PyData.list = some e from h2)
        show PyData.eqvAll ds es = _
        rw [lists (HasF f) ih _ _ hx gx e1 e2]
        simp
  | tup f ih =>
    intro p q h g d e h1 h2
    cases h with
    | tup hx =>
      cases g with
      | tup gx =>
        obtain ⟨ds, e1, rfl⟩ := Option.map_eq_some_iff.mp (show (pds _).map PyData.tuple = some d from h1)
        obtain ⟨es, e2, rfl⟩ := Option.map_eq_some_iff.mp (show (pds _).map PyData.tuple = some e from h2)
        show PyData.eqvAll ds es = _
        rw [lists (HasF f) ih _ _ hx gx e1 e2]
        simp
theorem zEq_frm (f : Frm) {neg : Bool} {p q : PV} {lh : LH} (hp : HasF f p) (hq : HasF f q) (hk : f.dep ≤ 60) : zEqD neg (.pv p) (.pv q) lh = .ok (.pv (.bl (xor neg (decide (p = q))))) lh := by
  obtain ⟨d, h1, h2, h3⟩ := hasF_pd f hp
  obtain ⟨e, g1, g2, g3⟩ := hasF_pd f hq
  have s1 : SeqAt.shaped d = true := by unfold SeqAt.shaped; rw [h2]; simp; omega
  have s2 : SeqAt.shaped e = true := by unfold SeqAt.shaped; rw [g2]; simp; omega
  unfold zEqD
  have e1 : pdL (.pv p) lh = some d := by unfold pdL; exact h1
  have e2 : pdL (.pv q) lh = some e := by unfold pdL; exact g1
  rw [e1, e2]
  show (if SeqAt.shaped d = true ∧ SeqAt.shaped e = true then _ else _) = _
  rw [if_pos ⟨s1, s2⟩, hasF_eq f hp hq h1 g1]
end Z
namespace Z
open PySem PySem.Spec PyProof.Rows L2
inductive EqP : Nat → PV → Prop
  | non {k} : EqP k .non
  | bl {k b} : EqP k (.bl b)
  | int {k i} : EqP k (.int i)
  | str {k s} : PyData.strOk s = true → EqP k (.str s)
  | tup {k xs} : (∀ x ∈ xs, EqP k x) → EqP (k + 1) (.tup xs)
  | lst {k xs} : (∀ x ∈ xs, EqP k x) → EqP (k + 1) (.lst xs)
theorem EqP.mono {k : Nat} {p : PV} (h : EqP k p) : ∀ {j : Nat}, k ≤ j → EqP j p := by
  induction h with
  | non => intro j _; exact .non
  | bl => intro j _; exact .bl
  | int => intro j _; exact .int
  | str hs => intro j _; exact .str hs
  | tup hx ih => intro j hj; obtain ⟨i, rfl⟩ : ∃ i, j = i + 1 := ⟨j - 1, by omega⟩; exact .tup fun x h => ih x h (by omega)
  | lst hx ih => intro j hj; obtain ⟨i, rfl⟩ : ∃ i, j = i + 1 := ⟨j - 1, by omega⟩; exact .lst fun x h => ih x h (by omega)
end Z
namespace Z
open PySem PySem.Spec PyProof.Rows L2
/-- v == w of plain data -/
def eqvP (p q : PV) : Option Bool := (pd p).bind fun d => (pd q).bind fun e => if SeqAt.shaped d = true ∧ SeqAt.shaped e = true then some (PyData.eqv d e) else none
def lkP (k : PV) : List (PV × PV) → Option PV
  | [] => none
  | (l, q) :: r => if l = k then some q else lkP k r
def hitsP (b : List (PV × PV)) : List (PV × PV) → Option Bool
  | [] => some true
  | (k, p) :: r => match lkP k b with
    | none => some false
    | some q => (eqvP p q).bind fun c => (hitsP b r).map fun d => c && d
def zEqW (x y : LV) (lh : LH) : Res LV := match x, y with
  | .pv (.dct a), .pv (.dct b) => if a.length = b.length then (match hitsP b a with
    | some c => .ok (.pv (.bl c)) lh
    | none => .stuck) else .ok (.pv (.bl false)) lh
  | _, _ => zEqD false x y lh
section
variable {X : Cx} {W : Wd} {s : Shared} {pins : List (Addr × Obj)} {σ : L2.St}
theorem lkP_none [L : LamC] [S : Susp] {k : Key} : ∀ {b : List (PV × PV)} {hs : List (Key × V)} {vs : List (Key × Value)}, RepD X.K X.mg W b hs → KV hs vs → lkP (kP k) b = none → valueAt vs k = none
  | _, _, _, .nil, .nil, _ => rfl
  | _, _, _, .cons (k := l) r t, .cons ⟨e, rv⟩ tv, h => by
    unfold lkP at h
    split at h
    · cases h
    · next n =>
      have ne : l ≠ k := fun z => n (by rw [z])
      have ih := lkP_none t tv h
      unfold valueAt at ih ⊢
      rw [List.find?_cons_of_neg (by simpa using fun z => ne (e.trans z))]
      exact ih
theorem lkP_some [L : LamC] [S : Susp] {k : Key} {q : PV} : ∀ {b : List (PV × PV)} {hs : List (Key × V)} {vs : List (Key × Value)}, RepD X.K X.mg W b hs → KV hs vs → lkP (kP k) b = some q → ∃ v u, valueAt vs k = some u ∧ Rep X.K X.mg W q v ∧ RelV v u
  | _, _, _, .nil, .nil, h => by cases h
  | _, _, _, .cons (k := l) r t, .cons (b := y) ⟨e, rv⟩ tv, h => by
    unfold lkP at h
    split at h
    · next n =>
      cases h
      have z : l = k := kP_inj.mp n
      refine ⟨_, y.2, ?_, r, rv⟩
      unfold valueAt
      rw [List.find?_cons_of_pos (by simpa using e.symm.trans z)]
      rfl
    · next n =>
      obtain ⟨v, u, h1, h2, h3⟩ := lkP_some t tv h
      refine ⟨v, u, ?_, h2, h3⟩
      have ne : l ≠ k := fun z => n (by rw [z])
      unfold valueAt at h1 ⊢
      rw [List.find?_cons_of_neg (by simpa using fun z => ne (e.trans z))]
      exact h1
theorem hits_of [L : LamC] [S : Susp] (I : Inv X pins σ W.H s) {A : Around} (hu : A.units + 64 < cLine) {b : List (PV × PV)} {hb : List (Key × V)} {vb : List (Key × Value)} (rb : RepD X.K X.mg W b hb) (kb : KV hb vb) :
    ∀ {a : List (PV × PV)} {ha : List (Key × V)} {va : List (Key × Value)} {c : Bool}, RepD X.K X.mg W a ha → KV ha va → hitsP b a = some c → PySem.W.KeqHitsIn X.prog X.w A s vb va c
  | _, _, _, _, .nil, .nil, h => by cases h; exact .nil
  | _, _, _, c, .cons (k := k) (x := p) r t, .cons (b := y) ⟨e, rv⟩ tv, h => by
    obtain ⟨k', u⟩ := y
    cases (show k = k' from e)
    unfold hitsP at h
    split at h
    · next n =>
      cases h
      exact .miss (lkP_none rb kb n)
    · next q n =>
      obtain ⟨w, z, h1, h2, h3⟩ := lkP_some rb kb n
      obtain ⟨c1, e1, h⟩ := Option.bind_eq_some_iff.mp h
      obtain ⟨c2, e2, rfl⟩ := Option.map_eq_some_iff.mp h
      obtain ⟨d, d1, e1⟩ := Option.bind_eq_some_iff.mp e1
      obtain ⟨d', d2, e1⟩ := Option.bind_eq_some_iff.mp e1
      split at e1
      · next sh =>
        cases e1
        obtain ⟨as, g1⟩ := Dp.reads I d _ u (dp_of r d1) rv
        obtain ⟨bs, g2⟩ := Dp.reads I d' _ z (dp_of h2 d2) h3
        exact .hit h1 ((SeqAt.eqAt_reads d d' A s u z as bs g1 g2 (SeqAt.canLay_of_shaped sh.1) (SeqAt.canLay_of_shaped sh.2) (SeqAt.room_of_shaped sh.1 hu)).inModel X.prog X.w) (hits_of I hu rb kb t tv e2)
      · cases e1
end
section
variable {X : Cx}
def rEqW [L : LamC] [S : Susp] (K : PySem.W.Frag) (mg : Str → Option Value) : R2 := fun v w H Q => ∃ (W : Wd) (a b : List (PV × PV)) (c : Bool), W.H = H ∧ Rep K mg W (.dct a) v ∧ Rep K mg W (.dct b) w ∧ (a.length = b.length → hitsP b a = some c) ∧ Q (.bl (a.length == b.length && c)) H
theorem repD_len [L : LamC] [S : Susp] {K : PySem.W.Frag} {mg : Str → Option Value} {W : Wd} : ∀ {a : List (PV × PV)} {hs : List (Key × V)}, RepD K mg W a hs → a.length = hs.length
  | _, _, .nil => rfl
  | _, _, .cons _ t => congrArg (· + 1) (repD_len t)
theorem op_eqW [L : LamC] [S : Susp] (hu : X.A.units + 65 < cLine) : OpR X (compareOp .Eq) (rEqW X.K X.mg) := by
  intro pins s σ H x y v u Q I rx ry h
  obtain ⟨W, a, b, c, rfl, ra, rb, hh, q⟩ := h
  cases ra with
  | @dct _ aa ha h1 n1 r1 =>
  cases rb with
  | @dct _ bb hb h2 n2 r2 =>
  cases rx; cases ry
  obtain ⟨_, s1, va, kva, D1⟩ := (show ObjOk X.prog X.w W.H s.heap aa (.dK ha) from h1.ok I.hok)
  obtain ⟨_, s2, vb, kvb, D2⟩ := (show ObjOk X.prog X.w W.H s.heap bb (.dK hb) from h2.ok I.hok)
  have l1 : va.length = a.length := by rw [repD_len r1, Paired.length kva]
  have l2 : vb.length = b.length := by rw [repD_len r2, Paired.length kvb]
  refine PySem.W.keq_eqIn (r := c) s1 s2 D1 D2 (by omega) (fun e => hits_of I (by show X.A.units + 1 + 64 < cLine; omega) r2 kvb r1 kva (hh (by rw [← l1, ← l2]; exact e))) ?_
  rw [l1, l2]
  exact ⟨.bl _, W.H, I, rfl, q⟩
theorem OpR.or {op : Value → Value → Sem Value} {r1 r2 : R2} (h1 : OpR X op r1) (h2 : OpR X op r2) : OpR X op fun v w H Q => r1 v w H Q ∨ r2 v w H Q := by
  intro pins s σ H x y v u Q I rx ry h
  rcases h with h | h
  · exact h1 _ _ _ _ _ _ _ _ _ I rx ry h
  · exact h2 _ _ _ _ _ _ _ _ _ I rx ry h
theorem oz_eqW [L : LamC] [S : Susp] (hu : X.A.units + 65 < cLine) : OpZ X (compareOp .Eq) zEqW := .of (OpR.or (op_eqW hu) (op_eqD (by omega))) fun W E x y lh v w Q l rx ry q => by
  unfold zEqW at q
  split at q
  · next a b =>
    refine .inl ?_
    split at q
    · next hl =>
      split at q
      · next c hc => exact ⟨W, a, b, c, rfl, rx, ry, fun _ => hc, by rw [hl]; simpa using fin q l Rep.bl⟩
      · exact q.elim
    · next hl => exact ⟨W, a, b, false, rfl, rx, ry, fun z => absurd z hl, by simpa using fin q l Rep.bl⟩
  · refine .inr ?_
    unfold zEqD at q
    split at q
    · next d e hd he =>
      split at q
      · next hs => exact ⟨d, e, dpL_of l rx hd, dpL_of l ry he, hs.1, hs.2, by simpa using fin q l Rep.bl⟩
      · exact q.elim
    · exact q.elim
end
theorem eqvP_frm {f : Frm} {p q : PV} (hp : HasF f p) (hq : HasF f q) (hk : f.dep ≤ 60) : eqvP p q = some (decide (p = q)) := by
  obtain ⟨d, h1, h2, h3⟩ := hasF_pd f hp
  obtain ⟨e, g1, g2, g3⟩ := hasF_pd f hq
  have s1 : SeqAt.shaped d = true := by unfold SeqAt.shaped; rw [h2]; simp; omega
  have s2 : SeqAt.shaped e = true := by unfold SeqAt.shaped; rw [g2]; simp; omega
  unfold eqvP
  rw [h1, g1]
  show (if SeqAt.shaped d = true ∧ SeqAt.shaped e = true then _ else _) = _
  rw [if_pos ⟨s1, s2⟩, hasF_eq f hp hq h1 g1]
theorem lkP_mem {k q : PV} : ∀ {b : List (PV × PV)}, lkP k b = some q → (k, q) ∈ b
  | [], h => by cases h
  | (l, p) :: r, h => by
    unfold lkP at h
    split at h
    · next n => cases h; subst n; exact List.mem_cons_self
    · exact List.mem_cons_of_mem _ (lkP_mem h)
theorem hitsP_frm {f : Frm} (hk : f.dep ≤ 60) {b : List (PV × PV)} (hb : ∀ p ∈ b, HasF f p.2) : ∀ {a : List (PV × PV)}, (∀ p ∈ a, HasF f p.2) → hitsP b a = some (decide (∀ p ∈ a, lkP p.1 b = some p.2))
  | [], _ => by simp [hitsP]
  | (k, p) :: r, ha => by
    unfold hitsP
    cases e : lkP k b with
    | none => simp [e]
    | some q =>
      show (eqvP p q).bind _ = _
      rw [eqvP_frm (ha _ List.mem_cons_self) (hb _ (lkP_mem e)) hk, hitsP_frm hk hb fun x hx => ha x (List.mem_cons_of_mem _ hx)]
      simp only [Option.bind_some, Option.map_some, Option.some.injEq, List.mem_cons, forall_eq_or_imp, e]
      by_cases h1 : p = q
      · subst h1; simp
      · simp [h1]
        exact fun z => absurd z.symm h1
theorem zEqW_frm {f : Frm} {a b : List (PV × PV)} {lh : LH} (hk : f.dep ≤ 60) (ha : ∀ p ∈ a, HasF f p.2) (hb : ∀ p ∈ b, HasF f p.2) :
    zEqW (.pv (.dct a)) (.pv (.dct b)) lh = .ok (.pv (.bl (decide (a.length = b.length ∧ ∀ p ∈ a, lkP p.1 b = some p.2)))) lh := by
  unfold zEqW
  simp only
  split
  · next h => rw [hitsP_frm hk hb ha]; simp [h]
  · next h => simp [h]
theorem lkP_self : ∀ {b : List (PV × PV)}, (b.map (·.1)).Nodup → ∀ p ∈ b, lkP p.1 b = some p.2
  | [], _, p, h => by cases h
  | (l, q) :: r, nd, p, h => by
    have nd := List.nodup_cons.mp nd
    unfold lkP
    rcases List.mem_cons.mp h with e | e
    · subst e; exact if_pos rfl
    · rw [if_neg fun z => nd.1 (by rw [z]; exact List.mem_map.mpr ⟨p, e, rfl⟩)]
      exact lkP_self nd.2 p e
end Z
namespace Z
open PySem PySem.Spec PyProof.Rows L2
def fLam (n : Nat) (cl : List (Str × Addr)) (_ : EN) (lh : LH) : Res LV := .ok (.pv (.clo n cl)) lh
end Z
namespace Z
open PySem PySem.Spec PyProof.Rows L2
end Z
namespace Z
open PySem PySem.Spec PyProof.Rows L2
def fCallS (m : EN → List LV → LH → Res LV) (fas : EN → LH → Res (List LV)) (env : EN) (lh : LH) : Res LV := (fas env lh).bind fun xs lh1 => m env xs lh1
end Z
namespace PySem
namespace ZVE
open PySem.ESX
abbrev bw (x : Addr) : Obj := { cls := .type "method-wrapper", dict := none, data := .fields #[.builtin "ValueError.__init__", .ref x], slots := #[] }
theorem type_ei : typeOf (.builtin "ValueError.__init__") = pure (.type "wrapper_descriptor") := by show builtinType _ = _; rw [builtinType_eq_fast]; kernel_rfl
theorem nac : (kfb_private% "nameAndClass") (Value.builtin "ValueError.__init__") = (pure (("__init__" : Str), Value.type "ValueError") : Sem (Str × Value)) := by kernel_rfl
theorem args_wd (a b c : Value) : argsOk "wrapper_descriptor.__get__" ⟨[a, b, c], []⟩ := by unfold argsOk; kernel_rfl
section
open PySem.W
variable {prog : Program} {w : World} {M : Model} {A : Around} {E : Value → Shared → Prop} {h : Heap} {g : Array GenState} {d : Drawn} {t : Nat} {os : OsState}
theorem run_wd {x C : Addr} {P : Fin → Shared → Prop} (hin : W.Looks M h (isInstance (.ref x) (.type "ValueError")) true) (hq : P (.done (.ret (.ref h.objs.size))) ⟨h.push (bw x), g, d, t, os⟩) :
    wpAny M A (Builtin.«wrapper_descriptor.__get__» ⟨[.builtin "ValueError.__init__", .ref x, .ref C], []⟩) P E ⟨h, g, d, t, os⟩ := by
  unfold Builtin.«wrapper_descriptor.__get__»
  refine wpAny_bind (wpAny_of_eq (a := (.builtin "ValueError.__init__", some (.ref x), some (.ref C))) (by first | rfl | kernel_rfl) ?_)
  show wpAny M A ((kfb_private% "checkInstance") (.builtin "ValueError.__init__") (.ref x) >>= fun _ => newFields "method-wrapper" [.builtin "ValueError.__init__", .ref x] >>= fun r => ret r) P E _
  refine wpAny_bind ?_
  show wpAny M A ((kfb_private% "nameAndClass") (.builtin "ValueError.__init__") >>= _) _ E _
  refine wpAny_bind (wpAny_of_eq nac ?_)
  show wpAny M A (isInstance (.ref x) (.type "ValueError") >>= _) _ E _
  refine wpAny_bind (hin.at ?_)
  refine KFB.if_not rfl ?_
  refine wpAny_pure ?_
  exact wpAny_bind (wpAny_newObj_type (wpAny_pure hq))
theorem super_ga {so D x C : Addr} {l₀ l : List Value} {K : Frag} {name : Str} {tk : Tok} {Q : Fin → Shared → Prop}
    (hso : h.get? so = some { cls := .type "super", dict := none, data := .fields #[.ref D, .ref x, .ref C], slots := #[] }) (hno : W.Looks (model prog w) h (opaqueClassAbove (.ref C)) none)
    (hC : W.Looks (model prog w) h (mroOf (.ref C)) l₀) (hl : (l₀.dropWhile (· != .ref D)).drop 1 = l) (X : K.In h)
    (hf : alongIn K name l = some (some (.builtin "ValueError.__init__"))) (hxC : x ≠ C) (hn : (name == ("__class__" : Str)) = false) (hin : W.Looks (model prog w) h (isInstance (.ref x) (.type "ValueError")) true)
    (hq : Q (.done (.ret (.ref h.objs.size))) ⟨h.push (bw x), g, d, t, os⟩) :
    wpAny (model prog w) A (Builtin.«super.__getattribute__» ⟨[.ref so, .str name tk], []⟩) Q E ⟨h, g, d, t, os⟩ := by
  have hlk := slot_wd.lookup
  have hne : (Value.ref x == Value.ref C) = false := by simp [hxC]
  have hTf := type_ei
  have hTi : Shared.TypeIs ⟨h, g, d, t, os⟩ (.builtin "ValueError.__init__") "wrapper_descriptor" := type_ei
  have hdt : ({ cls := .type "super", dict := none, data := .fields #[.ref D, .ref x, .ref C], slots := #[] } : Obj).data = .fields #[.ref D, .ref x, .ref C] := rfl
  have f0 : (#[.ref D, .ref x, .ref C] : Array Value)[0]? = some (.ref D) := rfl
  have f1 : (#[.ref D, .ref x, .ref C] : Array Value)[1]? = some (.ref x) := rfl
  have f2 : (#[.ref D, .ref x, .ref C] : Array Value)[2]? = some (.ref C) := rfl
  unfold Builtin.«super.__getattribute__»
  repeat (first
    | (with_reducible refine wpAny_field hso hdt f0 ?_) | (with_reducible refine wpAny_field hso hdt f1 ?_) | (with_reducible refine wpAny_field hso hdt f2 ?_)
    | (with_reducible refine ks_wpAny_notOpaque hno ?_)
    | (with_reducible refine Looks.at hC ?_; rw [hl])
    | (refine ks_forIn_along X (fun _ _ => rfl) rfl ?_ hf)
    | (with_reducible refine wpAny_call_entry slot_wd hTi entry_wd ?_ (args_wd _ _ _))
    | (with_reducible refine run_wd hin ?_)
    | (with_reducible refine ⟨_, rfl, ?_⟩)
    | (simp only [hn, hne, Bool.or_false, Bool.false_eq_true, if_false])
    | wp_step
    | dsimp only)
  all_goals exact hq
theorem getMethod_super {so D x C : Addr} {l₀ l : List Value} {K : Frag} {name : Str} {pl : Sem Bool} {Q : Value × List Value → Shared → Prop}
    (hso : h.get? so = some { cls := .type "super", dict := none, data := .fields #[.ref D, .ref x, .ref C], slots := #[] }) (hno : W.Looks (model prog w) h (opaqueClassAbove (.ref C)) none)
    (hC : W.Looks (model prog w) h (mroOf (.ref C)) l₀) (hl : (l₀.dropWhile (· != .ref D)).drop 1 = l) (X : K.In h)
    (hf : alongIn K name l = some (some (.builtin "ValueError.__init__"))) (hxC : x ≠ C) (hn : (name == ("__class__" : Str)) = false) (hin : W.Looks (model prog w) h (isInstance (.ref x) (.type "ValueError")) true)
    (hq : Q (.ref h.objs.size, []) ⟨h.push (bw x), g, d, t + 1, os⟩) :
    wpAny (model prog w) A (getMethod (.ref so) name pl) Q E ⟨h, g, d, t, os⟩ := by
  have hlk := F.ks_slot_super_ga.lookup
  have hcan := F.ks_canon_super_ga
  have hT : ∀ t', (⟨h, g, d, t', os⟩ : Shared).TypeIs (.ref so) "super" := fun _ => ⟨_, hso, rfl⟩
  unfold getMethod
  refine wpAny_bind (wpAny_specialOf (hT _) hlk ?_)
  show wpAny _ _ (if (Manifest.canonical "super.__getattribute__" != "object.__getattribute__") = true then _ else _) _ _ _
  rw [if_pos hcan]
  unfold getAttr getAttrBy
  refine wpAny_bind (wpAny_bind (wpAny_mkText (wpAny_holding (wpAny_bind (wpAny_typeOf (hT _) (wpAny_bind (wpAny_of_eq hlk ?_)))))))
  show wpAny _ _ (getAttrByItsOwn (.ref so) (.str name t) (.type "super") (.builtin "super.__getattribute__") true false) _ _ _
  unfold getAttrByItsOwn hookBefore callGetattribute boundAndCalled
  refine wpAny_bind (wpAny_of_eq (show (if onTheHeap (.type "super") then typeLookup (.type "super") "__getattr__" else pure none) = pure none from rfl) ?_)
  refine wpAny_bind (wpAny_attempt (wpAny_holding ?_))
  show wpAny _ _ (bindSpecial (.builtin "super.__getattribute__") (.ref so) >>= _) _ _ _
  refine wpAny_bind (wpAny_of_eq (F.ks_slot_super_ga.bind _) ?_)
  refine wpAny_mono (Q := fun v s' => v = .ref h.objs.size ∧ s' = ⟨h.push (bw x), g, d, t + 1, os⟩) (E := fun _ _ => False)
    (wpAny_call_entry F.ks_slot_super_ga (hT _) F.ks_entry_super_ga (super_ga hso hno hC hl X hf hxC hn hin ⟨_, rfl, rfl, rfl⟩) (F.ks_gaArgs_super _ _)) (fun v s' hv => ?_) fun _ _ z => z.elim
  obtain ⟨rfl, rfl⟩ := hv
  exact wpAny_pure (wpAny_pure hq)
end
section
open PySem.W PySem.Calls PyProof.Rows
variable {prog : Program} {w : World} {M : Model} {A : Around} {E : Value → Shared → Prop} {s : Shared}
theorem callWith_bw {pos : Pos} {u x : Addr} {first : List Value} {args : List (Bool × Sem Value)} {Q : Value → Shared → Prop} (hplain : args.any (·.1) = false)
    (h : wpAny M A (evalArgs (.ref u) true args []) (fun a s₁ => s₁.heap.get? u = some (bw x) ∧ wpAny M A (call (.ref u) (first ++ a.pos) a.kw) Q E s₁) E s) : wpAny M A (callWith pos (.ref u) first args []) Q E s := by
  unfold callWith
  refine wpAny_bind (wpAny_holding (wpAny_mono h (fun a s₁ h₁ => wpAny_bind (wpAny_standAt ?_)) fun _ _ x => x))
  obtain ⟨ho, hcall⟩ := h₁
  simp only [hplain, List.any_nil, Bool.or_false]
  refine wpAny_bind (m := keeperOf (.ref u)) ?_
  unfold keeperOf
  refine wpAny_bind (wpAny_load ho ?_)
  simp only [bw, show (Value.type "method-wrapper" != Value.type "method") = true by decide, show (Value.type "method-wrapper" == Value.type "builtin_function_or_method" || Value.type "method-wrapper" == Value.type "method-wrapper") = true by decide, if_true]
  refine wpAny_pure ?_
  exact wpAny_bind (wpAny_mono hcall (fun r s₂ hr => wpAny_bind (wpAny_holding (wpAny_point (wpAny_pure hr)))) fun _ _ x => x)
theorem callWith_bound {pos : Pos} {u x : Addr} {first : List Value} {env : Env} {e : Expr} {rest : List Expr} {Q : Value → Shared → Prop}
    (h : wpAny M A (spliced (backTo pos (starEach (e :: rest) env))) (fun vs s₁ => s₁.heap.get? u = some (bw x) ∧ wpAny M A (call (.ref u) (first ++ vs)) Q E s₁) E s)
    (he : starEach (e :: rest) env = (false, eval e env) :: starEach rest env := by rfl) (hplain : (backTo pos (starEach rest env)).any (·.1) = false := by rfl) :
    wpAny M A (callWith pos (.ref u) first (backTo pos (starEach (e :: rest) env)) []) Q E s := by
  rw [he] at h ⊢
  refine callWith_bw (x := x) (by show (false || (backTo pos (starEach rest env)).any (·.1)) = false; rw [hplain]; rfl) ?_
  exact evalArgs_plain h
end
section
variable {prog : Program} {w : World} {A : Around} {E : Value → Shared → Prop} {h : Heap} {g : Array GenState} {d : Drawn} {t : Nat} {os : OsState}
variable {nm q : Str} {C N : Addr} {bs bm : List Value} {hdct : Bool} {sn : List Str} {sub : List Value} {ab : Bool} {col : Option Bool} {dd : Option Addr} {k0 k1 k2 k3 k5 : Option Value}
open PyProof.Rows in
theorem call_bw {u e t0 : Addr} {rest : List Value} {Q : Value → Shared → Prop}
    (hC : h.get? C = some (excClassObj nm q C N bs bm hdct sn sub ab col dd k0 k1 k2 k3 k5 "ValueError.__new__")) (he : h.get? e = some (HandSPX.excO C t0)) (hu : h.get? u = some (bw e)) (hrest : rest.length ≤ sizeLine)
    (hq : ∀ h' t1, (∀ b o, b ≠ e → h.get? b = some o → h'.get? b = some o) → h'.get? e = some (HandSPX.excO C t1) → Q .none ⟨h', g, d, t, os⟩) :
    wpAny (model prog w) A (call (.ref u) rest) Q E ⟨h, g, d, t, os⟩ := by
  refine wpAny_call (codeAny_of_tree ?_)
  show wpAny _ A.in1 (callAny (.ref u) ⟨rest, []⟩) _ _ _
  simp only [callAny]
  refine wpAny_bind (wpAny_load hu ?_)
  simp only [bw, show (Value.type "method-wrapper" == Value.type "method" || Value.type "method-wrapper" == Value.type "builtin_function_or_method" || Value.type "method-wrapper" == Value.type "method-wrapper") = true by decide, if_true]
  refine W.KFB.if_so (by decide) ?_
  refine wpAny_bind (check_bound F.excBase_ValueError hC he rfl ?_)
  refine wpAny_bind (wpAny_pure (wpAny_pure ?_))
  refine ⟨Code.quiet_builtin _ (by decide +kernel), codeAny_builtin F.excBase_ValueError.initEntry ?_⟩
  rw [Around.under_plainId F.excBase_ValueError.init.plain _]
  wp_walk
  refine hq _ h.objs.size (fun b o hb ho => ?_) ?_
  · rw [Heap.get?_update_other _ _ (Ne.symm hb)]
    exact Heap.get?_push_of_some _ ho
  · rw [Heap.get?_update_self _ (Heap.get?_push_of_some _ he) rfl]
    rfl
end
end ZVE
end PySem
namespace Z
open PySem PySem.Spec PyProof.Rows L2 NdefX
theorem upd_swap {H : Hp} {a b : Addr} {o u : HO} (h : a ≠ b) : upd (upd H a o) b u = upd (upd H b u) a o := by
  funext c
  by_cases e : c = a
  · subst e
    rw [upd_ne h, upd_same, upd_same]
  · by_cases e2 : c = b
    · subst e2
      rw [upd_same, upd_ne e, upd_same]
    · rw [upd_ne e2, upd_ne e, upd_ne e, upd_ne e2]
/-- exceptions of the class at C, seen from the class at D, whose super() finds r -/
structure ExcK (K : PySem.W.Frag) (C D : Addr) (r : Value) : Prop where
  ox : OexC K C
  sub : PySem.W.mroIn K C (.ref D) = some true
  find : PySem.W.ks_superIn K C D "__init__" = some (some r)
  st : PySem.W.nsIn K cStatics "thirdparty.any" = some none
  cls : ∃ cd, PySem.W.clsIn K D = some cd
/-- .. a class of the program that is made of it -/
structure ExcG (K : PySem.W.Frag) (C D g : Addr) : Prop extends ExcK K C D (.ref g) where
  ty : PySem.W.typeIn K (.ref g) = some (.type "function")
  fn : PySem.W.fnIn K g = true
/-- .. ValueError -/
structure ExcV (K : PySem.W.Frag) (C D : Addr) : Prop extends ExcK K C D (.builtin "ValueError.__init__") where
  ve : PySem.W.subIn K (.ref C) (.type "ValueError") = some true
/-- __init__(self, code): super().__init__(code); self.code = code -/
def SpEV (K : PySem.W.Frag) (D : Addr) (fld : Str) : Sp := fun vs H Q _ => ∃ (a C : Addr) (v : V), vs = [.ref a, v] ∧ ExcV K C D ∧ PySem.W.findIn K (.ref C) fld = some none ∧ H a = some (exo a C none) ∧
  ∀ dx, H dx = none → dx ≠ a → Q .non (upd (upd H dx (exd dx [(fld, v)])) a (exo a C (some dx)))
/-- __init__(self, ..): super().__init__(code); self.f = .. -/
def SpEG (D : Addr) (n : Nat) (fs : List V → List (Str × V)) : Sp := fun vs H Q _ => ∃ (a : Addr) (ws : List V), vs = .ref a :: ws ∧ ws.length = n ∧ H a = some (exo a D none) ∧
  ∀ dx, H dx = none → dx ≠ a → Q .non (upd (upd H dx (exd dx (fs ws))) a (exo a D (some dx)))
def fG (code : Str) (fs : List Str) (ws : List V) : List (Str × V) := (fs.zip ws).reverse ++ [(("code" : Str), V.str code)]
theorem exo_inst {P : Program} {w : World} {H : Hp} {h : Heap} {a C : Addr} (hok : HOk P w H h) (e : H a = some (exo a C none)) : ∃ t0, h.get? a = some (HandSPX.excO C t0) := exo_at hok e
section
variable {P : Program} {w : World} {K : PySem.W.Frag} {mg : Str → Option Value} {base : Heap}
/-- what a frame over __class__ holds -/
theorem sup_cells {cc D : Addr} {co : Obj} {A : Around} {outer : List Env} {s : Shared} {H : Hp} (e0 : Env0 P w K mg base A outer s H) (lcc : K.lookup cc = some co) (hcc : co.data = .cell (some (.ref D))) :
    CellsAt [(("__class__" : Str), cc)] ["__class__"] [some (V.ref D)] s.heap H := by
  have KX : K.In s.heap := e0.mod.kin.keeps fun b o e => (e0.bs b o e).1
  have key : ∀ {y : Str} {d : Addr}, [(("__class__" : Str), cc)].lookup y = some d → d = cc := fun {y d} q => by
    rw [List.lookup_cons] at q
    split at q
    · exact (Option.some.inj q).symm
    · cases q
  have key2 : ∀ {y : Str} {d : Addr}, [(("__class__" : Str), cc)].lookup y = some d → y = "__class__" := fun {y d} q => by
    rw [List.lookup_cons] at q
    split at q
    · next e => exact eq_of_beq e
    · cases q
  exact
    { len := rfl
      all := fun y d q => by
        have := key q
        subst this
        exact ⟨(e0.bs d co (e0.mod.kin _ _ lcc)).2, some (.ref D), co, KX _ _ lcc, hcc⟩
      inj := fun x y d q1 q2 => (key2 q1).trans (key2 q2).symm
      has := fun i y hi => by
        cases i with
        | zero =>
          cases hi
          refine ⟨cc, by rw [List.lookup_cons]; simp, fun v hv => ?_⟩
          cases hv
          exact ⟨.ref D, rfl, co, KX _ _ lcc, hcc⟩
        | succ i => cases hi }
theorem fn_excG {name qual : Str} {params : Arguments} {body rest : List Stmt} {scope : Scope} {D fa g : Addr} {fd gd : FuncData} {N ps gps : List Str} {k n : Nat} {code : Str} {D0 : Addr} {fs : List V → List (Str × V)}
    {p0 p1 ap cp ep p2 : Pos} {j : Nat} {ar : Arg} {ps' : List Str}
    (F : SupD P K name qual params body scope D fa fd) (S : NScope N ps ["__class__"] scope) (hbody : body = .Expr (.Call (.Attribute (.Call (.Name "super" p0) [] [] p1) "__init__" ap) [.Constant (.str code) j p2] [] cp) ep :: rest)
    (hp : (params.posonlyargs ++ params.args).head? = some ar) (hps : ps = ar.arg :: ps') (hn : ps'.length = n)
    (hks : scope.names.lookup ("super" : Str) = some .globalImplicit) (hkc : scope.names.lookup ("__class__" : Str) = some .free) (hka : scope.names.lookup ar.arg = some .local)
    (htop : (P.main.scope.names.lookup ("super" : Str)).isSome = false) (hms : mg "super" = none)
    (hC : ExcG K D D g) (hV : ExcV K D D0) (hcode : PySem.W.findIn K (.ref D) "code" = some none)
    (G : FnOk P w K mg base (L2.CX P w) k g gd gps (SpEV K D0 "code")) (hgb : L2.Binds K gd gps []) (hgl : gps.length = 2)
    (hrest : ∀ (F : NF) (A : Around) (outer : List Env) (s : Shared) (H : Hp) (E : XK), F.scope = scope → ∃ t, PSs (ncx (L2.CX P w) P w K mg base N F fa A outer s H E) rest t ∧
      ∀ (a dx : Addr) (ws : List V) (H1 : Hp) (Q : VK), dx ≠ a → ws.length = n → H1 a = some (exo a D (some dx)) → H1 dx = some (exd dx [("code", .str code)]) → Q .non (upd H1 dx (exd dx (fs ws))) → t { nx := fun _ H' => Q .non H', rt := Q } (startF N (V.ref a :: ws) [some (V.ref D)]) H1)
    {pl : Env → Sem Bool} (hev : ∀ env : Env, eval (.Call (.Attribute (.Call (.Name "super" p0) [] [] p1) "__init__" ap) [.Constant (.str code) j p2] [] cp) env = (do
      let ov ← attributeBase (.Call (.Name "super" p0) [] [] p1) "__init__" env (eval (.Call (.Name "super" p0) [] [] p1) env)
      standAt ap.atName
      let (f, first) ← holding [ov] (getMethod ov "__init__" (pl env))
      callWith cp f first (backTo cp (starEach [.Constant (.str code) j p2] env)) []) := by intro _; rfl)
    (hsw : ∀ env : Env, swapsWith (.Call (.Attribute (.Call (.Name "super" p0) [] [] p1) "__init__" ap) [.Constant (.str code) j p2] [] cp) none ep.line env = pure false := by intro _; rfl) :
    FnOk P w K mg base (L2.CX P w) (k + 2) fa fd ps (SpEG D n fs) := by
  refine ⟨fun vs H Q E h => ?_, fun A outer s H args us vs Q E hr e0 hb r hsp => ?_⟩
  · obtain ⟨a, ws, rfl, hl, _⟩ := h
    rw [hps, List.length_cons, List.length_cons, hl, hn]
  obtain ⟨oc, od, doc, pm, an, cda, ct, osl, cc, co, ko, fv, file, tf, rfl, lk, hcd, lcc, hcc, lcda, hko, hvs, hfile⟩ := F.ex
  obtain ⟨a, ws, rfl, hl, ha, h⟩ := hsp
  have KX : K.In s.heap := e0.mod.kin.keeps fun b o e => (e0.bs b o e).1
  have lim : s.heap.NoLimit := e0.mod.nolimit.keeps fun b o e => (e0.bs b o e).1
  have CA := sup_cells e0 lcc hcc
  refine codeAny_call_function hr.depth (KX _ _ lk) rfl S.co S.gen rfl (PySem.W.codeRec_of KX hcd) (hb _ _ _ _ ?_)
  refine wpAny_newFunctionEnv S.nocell (fun ⟨n, _⟩ hy => S.par n (List.of_mem_zip hy).1) (fun h₁ hns hsb => ⟨lim.fresh _ hsb, ?_⟩) S.kind
  have kp : ∀ b o, s.heap.get? b = some o → h₁.get? b = some o := fun b o e => hsb.extBut b o (Nat.ne_of_lt (Heap.lt_size e)) (Heap.get?_push_of_some _ e)
  let NFv : NF := ⟨name, qual, params, body, scope, [("__class__", cc)], cda⟩
  have hlp : (V.ref a :: ws).length = ps.length := by rw [hps, List.length_cons, List.length_cons, hl, hn]
  have I : Inv (ncx (L2.CX P w) P w K mg base N NFv fa A outer s H E) [] (startF N (V.ref a :: ws) [some (V.ref D)]) H { s with heap := h₁, toks := s.toks + (ps.zip us).length } := inv_startN (F := NFv) S hr.hd e0 hlp r CA hns kp
  show codeAny _ _ (.func body (envF NFv fa s.heap.objs.size)) _ _
  refine ks_codeAny_funcAt ?_
  obtain ⟨us', eu, rus⟩ : ∃ us', us = .ref a :: us' ∧ Vals ws us' := by
    cases r with
    | cons r1 r2 => cases r1; exact ⟨_, rfl, r2⟩
  subst eu
  subst hps
  have hself : (((ar.arg :: ps').zip (Value.ref a :: us')).reverse.lookup ar.arg) = some (.ref a) := zip_look (i := 0) (by
    have q := S.nd.sublist (List.take_sublist ((ar.arg :: ps').length + 1) N)
    have e2 : N.take ((ar.arg :: ps').length + 1) = (ar.arg :: ps') ++ (["__class__"] : List Str) := S.pre
    rw [e2] at q
    exact (List.nodup_append.mp q).1) rfl rfl
  obtain ⟨t0, hat⟩ := exo_inst I.hok ha
  have hat : h₁.get? a = some (HandSPX.excO D t0) := hat
  obtain ⟨cdD, hcD⟩ := hC.cls
  obtain ⟨oD, hD1, hD2⟩ : ∃ oD, h₁.get? D = some oD ∧ oD.data = .cls cdD := by
    unfold PySem.W.clsIn at hcD
    split at hcD
    · rename_i c1 d1 cd' sl ho
      cases hcD
      exact ⟨_, I.kIn _ _ ho, rfl⟩
    · cases hcD
  subst hbody
  refine ks_wpAt_execs_cons (ks_wpAt_Expr_any (ks_wpAt_MethodCall (ks_wpAt_super_base (env := envF NFv fa s.heap.objs.size) hks hkc (by decide) rfl (I.kIn _ _ lk) rfl hp rfl (I.kIn _ _ lcda) hko hvs hfile htop ?_) (hev _)) (by unfold interactive; show (scope.kind == .module && _) = false; rw [S.kind]; rfl) (hsw _))
  obtain ⟨mb, hb1, hb2⟩ := I.mod.blt
  refine PySem.W.ks_loadName_global S.kind hks (Calls.loadGlobal_builtin (I.mod.glob.keeps I.bk) hms (hb1.keeps I.bk) ((hb2 _ (by decide)).trans (by first | boot_by_name | rfl | kernel_rfl)) ⟨rfl, ?_⟩)
  refine wpAny_loadName_free S.kind hkc rfl ⟨_, I.kIn _ _ lcc, hcc⟩ ?_
  refine wpAny_loadName_local S.kind hka hns hself ?_
  refine ks_wpAny_isType_cls hD1 hD2 ⟨rfl, ?_⟩
  refine ks_wpAny_call_super hD1 hD2 hat rfl (fun c e => by cases e) (PySem.W.looks_mroIn I.kIn hC.sub) (fun h2 hso k2 => ?_)
  obtain ⟨cdC, hcC, hfind⟩ : ∃ cd, PySem.W.clsIn K D = some cd ∧ PySem.W.alongIn K "__init__" ((cd.mro.dropWhile (· != .ref D)).drop 1) = some (some (.ref g)) := by
    have q := hC.find
    unfold PySem.W.ks_superIn at q
    cases z : PySem.W.clsIn K D with
    | none => rw [z] at q; cases q
    | some cd => rw [z] at q; exact ⟨cd, rfl, q⟩
  have K2 : K.In h2 := fun b o e => k2 _ _ (I.kIn _ _ e)
  obtain ⟨og, hog, hogc⟩ : ∃ og, h2.get? g = some og ∧ og.cls = .type "function" := by
    have ht' : (K.lookup g).map (·.cls) = some (.type "function") := hC.ty
    cases z : K.lookup g with
    | none => rw [z] at ht'; cases ht'
    | some og => rw [z] at ht'; exact ⟨og, K2 _ _ z, Option.some.inj ht'⟩
  have haD : a ≠ D := fun z => by
    rw [z, hD1] at hat
    cases hat
    cases hD2
  refine ks_wpAny_getMethod_super hso (PySem.W.looks_opaque K2 hC.st) (l₀ := cdC.mro) (fun A Q E s k q => wpAny_bind ((PySem.W.looks_clsIn K2 hcC) A _ E s k (wpAny_pure q))) rfl K2 hfind hog hogc haD (by decide) ?_
  generalize hq0 : h2.objs.size = q0
  have hq1 : (h2.push { cls := .type "method", data := .fields #[.ref g, .ref a] }).get? q0 = some (PySem.W.methodObj (.ref g) (.ref a)) := by rw [← hq0]; exact Heap.get?_push_at rfl rfl
  have k3 : ∀ b o, h₁.get? b = some o → (h2.push { cls := .type "method", data := .fields #[.ref g, .ref a] }).get? b = some o := fun b o e => Heap.get?_push_of_some _ (k2 _ _ e)
  have I2 := I.kept (t' := s.toks + ((ar.arg :: ps').zip (Value.ref a :: us')).length + 1) k3
  generalize h2.push { cls := .type "method", data := .fields #[.ref g, .ref a] } = h3 at hq1 k3 I2
  have sz : h₁.objs.size ≤ q0 := by
    rw [← hq0]
    exact Nat.le_of_lt (Nat.lt_of_lt_of_le (Heap.lt_size hso) (Nat.le_refl _))
  have I3 : Inv (ncx (L2.CX P w) P w K mg base N NFv fa A outer s H E) [(q0, PySem.W.methodObj (.ref g) (.ref a))] (startF N (V.ref a :: ws) [some (V.ref D)]) H { s with heap := h3, toks := s.toks + ((ar.arg :: ps').zip (Value.ref a :: us')).length + 1 } := I2.pins_of fun p hp => by
    cases List.mem_singleton.mp hp
    refine ⟨hq1, I.hok.fresh sz, fun z => ?_, I.nofs sz, fun v z => by cases z⟩
    exact absurd (I.lt) (by rw [← z]; exact Nat.not_lt.mpr sz)
  refine PySem.W.callWith_of (P := PySem.W.MethP K q0 g (.ref a)) rfl (PySem.W.keeps_M hC.fn) (Calls.evalArgs_plain ?_)
  refine wpAny_mono ((pa_cons (X := ncx (L2.CX P w) P w K mg base N NFv fa A outer s H E) pe_str pa_nil).run cp [(q0, PySem.W.methodObj (.ref g) (.ref a))] _ _ H (fun vs2 H1 => vs2 = [.str code] ∧ H1 = H) I3 ⟨rfl, rfl⟩) (fun us2 s1 hq2 => ?_) fun e s' z => z
  obtain ⟨vs2, H1, I4, r2, e1, e2⟩ := hq2
  subst e1
  subst e2
  have hq4 := (I4.pin (q0, PySem.W.methodObj (.ref g) (.ref a)) (List.mem_append_right _ (List.mem_singleton.mpr rfl))).1
  refine ⟨⟨hq4, I4.kIn⟩, ?_⟩
  show wpAny _ _ (call (.ref q0) ([] ++ us2)) _ _ _
  rw [List.nil_append]
  refine wpAny_call (ks_codeAny_call_bound hq4 ?_)
  have hb2 := hgb s1 (Value.ref a :: us2) I4.kIn (by rw [List.append_nil, List.length_cons, ← r2.length, hgl]; rfl)
  rw [List.append_nil] at hb2
  obtain ⟨trest, hrest1, hrest2⟩ := hrest NFv A outer s H1 E rfl
  have q4 : SpEV K D0 "code" [V.ref a, .str code] H1 (fun _ H2 => trest { nx := fun _ H' => Q .non H', rt := Q } (startF N (V.ref a :: ws) [some (V.ref D)]) H2) (fun _ _ _ => False) := by
    refine ⟨a, D, .str code, rfl, hV, hcode, ha, fun dx h1 h2 => ?_⟩
    refine hrest2 a dx ws _ Q h2 hl upd_same (by rw [upd_ne h2, upd_same]) ?_
    have := h dx h1 h2
    rwa [upd_swap h2, upd_upd, ← upd_swap h2]
  refine codeAny_mono (G.run _ (envF NFv fa s.heap.objs.size :: outer) s1 H1 ⟨.ref a :: us2, []⟩ (.ref a :: us2) (V.ref a :: [V.str code]) _ _ ((hr.mono (Nat.le_refl _)).deeper _ |>.mono (Nat.le_succ _)) I4.env0 hb2 (.cons rfl r2) q4) fun r s' hq5 => ?_
  cases r with
  | error er =>
    obtain ⟨_, _, _, _, _, _, _, _, _, _, _, _, z⟩ := hq5
    exact z.elim
  | ok fl =>
    cases fl with
    | ret u =>
      obtain ⟨v, H', I5, _, q6⟩ := I4.after hq5
      show _root_.PySem.wpAt _ _ _ (execs rest _) _ _ _
      refine wpAt_of_wpAny (wpAny_mono (hrest1.run _ s' _ H' _ I5 q6) (fun fl s2 hs => ?_) fun e s2 z => z)
      have fin : ∀ {pins : List (Addr × Obj)} {σ' : L2.St} {H' : Hp} {v : V} {u : Value}, Inv (ncx (L2.CX P w) P w K mg base N NFv fa A outer s H1 E) pins σ' H' s2 → L2.RelV v u → Q v H' → CE outer P w H1 s Q u s2 :=
        fun {pins σ' H' v u} J rv q => ⟨v, H', J.os, J.bare, J.base, J.hok, rv, q⟩
      cases fl with
      | ret u =>
        obtain ⟨v, σ', H', J, rv, q⟩ := hs
        exact fin J rv q
      | next =>
        obtain ⟨σ', H', J, q⟩ := hs
        exact fin (v := V.non) (u := Value.none) J rfl q
      | brk =>
        obtain ⟨_, _, _, q⟩ := hs
        exact False.elim q
      | cont =>
        obtain ⟨_, _, _, q⟩ := hs
        exact False.elim q
    | next => exact False.elim hq5
    | brk => exact False.elim hq5
    | cont => exact False.elim hq5
theorem fn_excV {name qual : Str} {params : Arguments} {body rest : List Stmt} {scope : Scope} {D fa : Addr} {fd : FuncData} {N ps : List Str} {k : Nat} {cn fld : Str}
    {p0 p1 ap cp ep p2 : Pos} {ar : Arg}
    (F : SupD P K name qual params body scope D fa fd) (S : NScope N ps ["__class__"] scope) (hbody : body = .Expr (.Call (.Attribute (.Call (.Name "super" p0) [] [] p1) "__init__" ap) [.Name cn p2] [] cp) ep :: rest)
    (hp : (params.posonlyargs ++ params.args).head? = some ar) (hps : ps = [ar.arg, cn]) (hN1 : N[1]? = some cn) (hcl : scope.names.lookup cn = some .local) (hd : (cn == ("__debug__" : Str)) = false) (hcd0 : (cn == ("__classdict__" : Str)) = false)
    (hks : scope.names.lookup ("super" : Str) = some .globalImplicit) (hkc : scope.names.lookup ("__class__" : Str) = some .free) (hka : scope.names.lookup ar.arg = some .local)
    (htop : (P.main.scope.names.lookup ("super" : Str)).isSome = false) (hms : mg "super" = none)
    (hrest : ∀ (F : NF) (A : Around) (outer : List Env) (s : Shared) (H : Hp) (E : XK), F.scope = scope → ∃ t, PSs (ncx (L2.CX P w) P w K mg base N F fa A outer s H E) rest t ∧
      ∀ (a C : Addr) (v : V) (H1 : Hp) (Q : VK), OexC K C → PySem.W.findIn K (.ref C) fld = some none → H1 a = some (exo a C none) → (∀ dx, H1 dx = none → dx ≠ a → Q .non (upd (upd H1 dx (exd dx [(fld, v)])) a (exo a C (some dx)))) →
        t { nx := fun _ H' => Q .non H', rt := Q } (startF N [V.ref a, v] [some (V.ref D)]) H1)
    {pl : Env → Sem Bool} (hev : ∀ env : Env, eval (.Call (.Attribute (.Call (.Name "super" p0) [] [] p1) "__init__" ap) [.Name cn p2] [] cp) env = (do
      let ov ← attributeBase (.Call (.Name "super" p0) [] [] p1) "__init__" env (eval (.Call (.Name "super" p0) [] [] p1) env)
      standAt ap.atName
      let (f, first) ← holding [ov] (getMethod ov "__init__" (pl env))
      callWith cp f first (backTo cp (starEach [.Name cn p2] env)) []) := by intro _; rfl)
    (hsw : ∀ env : Env, swapsWith (.Call (.Attribute (.Call (.Name "super" p0) [] [] p1) "__init__" ap) [.Name cn p2] [] cp) none ep.line env = pure false := by intro _; rfl) :
    FnOk P w K mg base (L2.CX P w) (k + 2) fa fd ps (SpEV K D fld) := by
  refine ⟨fun vs H Q E h => ?_, fun A outer s H args us vs Q E hr e0 hb r hsp => ?_⟩
  · obtain ⟨a, C, v, rfl, _⟩ := h
    rw [hps]; rfl
  obtain ⟨oc, od, doc, pm, an, cda, ct, osl, cc, co, ko, fv, file, tf, rfl, lk, hcd, lcc, hcc, lcda, hko, hvs, hfile⟩ := F.ex
  obtain ⟨a, C, v1, rfl, hC, hno, ha, h⟩ := hsp
  have KX : K.In s.heap := e0.mod.kin.keeps fun b o e => (e0.bs b o e).1
  have lim : s.heap.NoLimit := e0.mod.nolimit.keeps fun b o e => (e0.bs b o e).1
  have CA := sup_cells e0 lcc hcc
  refine codeAny_call_function hr.depth (KX _ _ lk) rfl S.co S.gen rfl (PySem.W.codeRec_of KX hcd) (hb _ _ _ _ ?_)
  refine wpAny_newFunctionEnv S.nocell (fun ⟨n, _⟩ hy => S.par n (List.of_mem_zip hy).1) (fun h₁ hns hsb => ⟨lim.fresh _ hsb, ?_⟩) S.kind
  have kp : ∀ b o, s.heap.get? b = some o → h₁.get? b = some o := fun b o e => hsb.extBut b o (Nat.ne_of_lt (Heap.lt_size e)) (Heap.get?_push_of_some _ e)
  let NFv : NF := ⟨name, qual, params, body, scope, [("__class__", cc)], cda⟩
  have hlp : [V.ref a, v1].length = ps.length := by rw [hps]; rfl
  have I : Inv (ncx (L2.CX P w) P w K mg base N NFv fa A outer s H E) [] (startF N [V.ref a, v1] [some (V.ref D)]) H { s with heap := h₁, toks := s.toks + (ps.zip us).length } := inv_startN (F := NFv) S hr.hd e0 hlp r CA hns kp
  show codeAny _ _ (.func body (envF NFv fa s.heap.objs.size)) _ _
  refine ks_codeAny_funcAt ?_
  obtain ⟨us', eu, rus⟩ : ∃ us', us = .ref a :: us' ∧ Vals [v1] us' := by
    cases r with
    | cons r1 r2 => cases r1; exact ⟨_, rfl, r2⟩
  subst eu
  subst hps
  have hself : (([ar.arg, cn].zip (Value.ref a :: us')).reverse.lookup ar.arg) = some (.ref a) := zip_look (i := 0) (by
    have q := S.nd.sublist (List.take_sublist ([ar.arg, cn].length + 1) N)
    have e2 : N.take ([ar.arg, cn].length + 1) = [ar.arg, cn] ++ (["__class__"] : List Str) := S.pre
    rw [e2] at q
    exact (List.nodup_append.mp q).1) rfl rfl
  obtain ⟨t0, hat⟩ := exo_inst I.hok ha
  have hat : h₁.get? a = some (HandSPX.excO C t0) := hat
  obtain ⟨cdD, hcD⟩ := hC.cls
  obtain ⟨oD, hD1, hD2⟩ : ∃ oD, h₁.get? D = some oD ∧ oD.data = .cls cdD := by
    unfold PySem.W.clsIn at hcD
    split at hcD
    · rename_i c1 d1 cd' sl ho
      cases hcD
      exact ⟨_, I.kIn _ _ ho, rfl⟩
    · cases hcD
  subst hbody
  refine ks_wpAt_execs_cons (ks_wpAt_Expr_any (ks_wpAt_MethodCall (ks_wpAt_super_base (env := envF NFv fa s.heap.objs.size) hks hkc (by decide) rfl (I.kIn _ _ lk) rfl hp rfl (I.kIn _ _ lcda) hko hvs hfile htop ?_) (hev _)) (by unfold interactive; show (scope.kind == .module && _) = false; rw [S.kind]; rfl) (hsw _))
  obtain ⟨mb, hb1, hb2⟩ := I.mod.blt
  refine PySem.W.ks_loadName_global S.kind hks (Calls.loadGlobal_builtin (I.mod.glob.keeps I.bk) hms (hb1.keeps I.bk) ((hb2 _ (by decide)).trans (by first | boot_by_name | rfl | kernel_rfl)) ⟨rfl, ?_⟩)
  refine wpAny_loadName_free S.kind hkc rfl ⟨_, I.kIn _ _ lcc, hcc⟩ ?_
  refine wpAny_loadName_local S.kind hka hns hself ?_
  refine ks_wpAny_isType_cls hD1 hD2 ⟨rfl, ?_⟩
  refine ks_wpAny_call_super hD1 hD2 hat rfl (fun c e => by cases e) (PySem.W.looks_mroIn I.kIn hC.sub) (fun h2 hso k2 => ?_)
  obtain ⟨cdC, hcC, hfind⟩ : ∃ cd, PySem.W.clsIn K C = some cd ∧ PySem.W.alongIn K "__init__" ((cd.mro.dropWhile (· != .ref D)).drop 1) = some (some (.builtin "ValueError.__init__")) := by
    have q := hC.find
    unfold PySem.W.ks_superIn at q
    cases z : PySem.W.clsIn K C with
    | none => rw [z] at q; cases q
    | some cd => rw [z] at q; exact ⟨cd, rfl, q⟩
  have K2 : K.In h2 := fun b o e => k2 _ _ (I.kIn _ _ e)
  obtain ⟨nm, qq, NN, bs, bm, sn, sub, ab, col, dd, k0, k1', k2', k3', k5, hCo, hbm⟩ := hC.ox.cls
  have hCo1 : h₁.get? C = some (excClassObj nm qq C NN bs bm true sn sub ab col dd k0 k1' k2' k3' k5 "ValueError.__new__") := I.kIn _ _ hCo
  have haC : a ≠ C := fun z => by
    rw [z, hCo1] at hat
    cases hat
  have hat2 : h2.get? a = some (HandSPX.excO C t0) := k2 _ _ hat
  have hin : ∀ {M : Model}, PySem.W.Looks M h2 (isInstance (.ref a) (.type "ValueError")) true := fun {M} => (show PySem.W.Looks M h2 (typeOf (.ref a)) (.ref C) from fun A Q E s k q => wpAny_typeOf_ref (k _ _ hat2) q).andThen (PySem.W.looks_subIn K2 hC.ve)
  refine wpAny_mono (Q := fun r s' => r = (.ref h2.objs.size, []) ∧ s' = { heap := h2.push (PySem.ZVE.bw a), gens := s.gens, drawn := s.drawn, toks := s.toks + ([ar.arg, cn].zip (Value.ref a :: us')).length + 1, os := s.os }) (E := fun _ _ => False)
    (PySem.ZVE.getMethod_super hso (PySem.W.looks_opaque K2 hC.st) (l₀ := cdC.mro) (fun A Q E s k q => wpAny_bind ((PySem.W.looks_clsIn K2 hcC) A _ E s k (wpAny_pure q))) rfl K2 hfind haC (by decide) hin ⟨rfl, rfl⟩) (fun r s1 hr1 => ?_) fun e s' z => z.elim
  obtain ⟨e1, e2⟩ := hr1
  subst e1
  subst e2
  generalize hq0 : h2.objs.size = q0
  have hq1 : (h2.push (PySem.ZVE.bw a)).get? q0 = some (PySem.ZVE.bw a) := by rw [← hq0]; exact Heap.get?_push_at rfl rfl
  have k3 : ∀ b o, h₁.get? b = some o → (h2.push (PySem.ZVE.bw a)).get? b = some o := fun b o e => Heap.get?_push_of_some _ (k2 _ _ e)
  have I2 := I.kept (t' := s.toks + ([ar.arg, cn].zip (Value.ref a :: us')).length + 1) k3
  generalize h2.push (PySem.ZVE.bw a) = h3 at hq1 k3 I2
  have sz : h₁.objs.size ≤ q0 := by
    rw [← hq0]
    exact Nat.le_of_lt (Nat.lt_of_lt_of_le (Heap.lt_size hso) (Nat.le_refl _))
  have I3 : Inv (ncx (L2.CX P w) P w K mg base N NFv fa A outer s H E) [(q0, PySem.ZVE.bw a)] (startF N [V.ref a, v1] [some (V.ref D)]) H { s with heap := h3, toks := s.toks + ([ar.arg, cn].zip (Value.ref a :: us')).length + 1 } := I2.pins_of fun p hp => by
    cases List.mem_singleton.mp hp
    refine ⟨hq1, I.hok.fresh sz, fun z => ?_, I.nofs sz, fun v z => by cases z⟩
    exact absurd (I.lt) (by rw [← z]; exact Nat.not_lt.mpr sz)
  refine PySem.ZVE.callWith_bound (x := a) (first := []) ?_
  refine wpAny_mono ((pa_cons (X := ncx (L2.CX P w) P w K mg base N NFv fa A outer s H E) (pe_var (i := 1) hN1 (.inl hcl) hd hcd0) pa_nil).run cp [(q0, PySem.ZVE.bw a)] _ _ H (fun vs2 H1 => vs2 = [v1] ∧ H1 = H) I3 ⟨v1, rfl, rfl, rfl⟩) (fun us2 s1 hq2 => ?_) fun e s' z => z
  obtain ⟨vs2, H1, I4, r2, e1, e2⟩ := hq2
  subst e1
  subst e2
  have hq4 := (I4.pin (q0, PySem.ZVE.bw a) (List.mem_append_right _ (List.mem_singleton.mpr rfl))).1
  refine ⟨hq4, ?_⟩
  show wpAny _ _ (call (.ref q0) ([] ++ us2)) _ _ _
  rw [List.nil_append]
  obtain ⟨t4, hat4⟩ := exo_inst I4.hok ha
  have hlen : us2.length ≤ sizeLine := by
    rw [← r2.length, sizeLine_eq]
    show 1 ≤ 16777216
    decide
  obtain ⟨h4, g4, d4, tk4, os4⟩ := s1
  refine PySem.ZVE.call_bw (I4.kIn _ _ hCo) hat4 hq4 hlen fun h' t2 k hx => ?_
  have J := I4.write (t' := tk4) (x := a) (e := a) (o := exo a C none) (by rw [ha]; exact True.intro) (.inl rfl) k ⟨_, hx⟩ (exo_ok hx)
  have eu : upd H1 a (exo a C none) = H1 := by
    funext b
    by_cases hb : b = a
    · rw [hb, upd_same, ha]
    · rw [upd_ne hb]
  rw [eu] at J
  obtain ⟨trest, hrest1, hrest2⟩ := hrest NFv A outer s H1 E rfl
  have q6 := hrest2 a C v1 H1 Q hC.ox hno ha h
  show _root_.PySem.wpAt _ _ _ (execs rest _) _ _ _
  refine wpAt_of_wpAny (wpAny_mono (hrest1.run _ _ _ H1 _ J q6) (fun fl s2 hs => ?_) fun e s2 z => z)
  have fin : ∀ {pins : List (Addr × Obj)} {σ' : L2.St} {H' : Hp} {v : V} {u : Value}, Inv (ncx (L2.CX P w) P w K mg base N NFv fa A outer s H1 E) pins σ' H' s2 → L2.RelV v u → Q v H' → CE outer P w H1 s Q u s2 :=
    fun {pins σ' H' v u} J rv q => ⟨v, H', J.os, J.bare, J.base, J.hok, rv, q⟩
  cases fl with
  | ret u =>
    obtain ⟨v, σ', H', J, rv, q⟩ := hs
    exact fin J rv q
  | next =>
    obtain ⟨σ', H', J, q⟩ := hs
    exact fin (v := V.non) (u := Value.none) J rfl q
  | brk =>
    obtain ⟨_, _, _, q⟩ := hs
    exact False.elim q
  | cont =>
    obtain ⟨_, _, _, q⟩ := hs
    exact False.elim q
theorem rest_V {N : List Str} {scope : Scope} {D fa : Addr} {sn cn fld : Str} {p1 p2 p3 p4 : Pos} (h0 : N[0]? = some sn) (h1 : N[1]? = some cn) (hs : scope.names.lookup sn = some .local) (hc : scope.names.lookup cn = some .local)
    (d0 : (sn == ("__debug__" : Str)) = false := by decide) (d1 : (cn == ("__debug__" : Str)) = false := by decide) (c0 : (sn == ("__classdict__" : Str)) = false := by decide) (c1 : (cn == ("__classdict__" : Str)) = false := by decide) :
    ∀ (F : NF) (A : Around) (outer : List Env) (s : Shared) (H : Hp) (E : XK), F.scope = scope → ∃ t, PSs (ncx (L2.CX P w) P w K mg base N F fa A outer s H E) [.Assign [.Attribute (.Name sn p1) fld p2] (.Name cn p3) p4] t ∧
      ∀ (a C : Addr) (v : V) (H1 : Hp) (Q : VK), OexC K C → PySem.W.findIn K (.ref C) fld = some none → H1 a = some (exo a C none) → (∀ dx, H1 dx = none → dx ≠ a → Q .non (upd (upd H1 dx (exd dx [(fld, v)])) a (exo a C (some dx)))) →
        t { nx := fun _ H' => Q .non H', rt := Q } (startF N [V.ref a, v] [some (V.ref D)]) H1 := by
  intro F A outer s H E hF
  subst hF
  refine ⟨_, pss_one (ps_ost (pe_var (i := 0) h0 (.inl hs) d0 c0) (pe_var (i := 1) h1 (.inl hc) d1 c1)), fun a C v H1 Q ox hno ha h => ?_⟩
  exact ⟨v, rfl, .ref a, rfl, a, C, rfl, ox, hno, .inl ⟨ha, h⟩⟩
theorem rest_G1 {N : List Str} {scope : Scope} {D fa : Addr} {sn cn fld code : Str} {p1 p2 p3 p4 : Pos} (ox : OexC K D) (hno : PySem.W.findIn K (.ref D) fld = some none) (h0 : N[0]? = some sn) (h1 : N[1]? = some cn) (hs : scope.names.lookup sn = some .local) (hc : scope.names.lookup cn = some .local)
    (d0 : (sn == ("__debug__" : Str)) = false := by decide) (d1 : (cn == ("__debug__" : Str)) = false := by decide) (c0 : (sn == ("__classdict__" : Str)) = false := by decide) (c1 : (cn == ("__classdict__" : Str)) = false := by decide) :
    ∀ (F : NF) (A : Around) (outer : List Env) (s : Shared) (H : Hp) (E : XK), F.scope = scope → ∃ t, PSs (ncx (L2.CX P w) P w K mg base N F fa A outer s H E) [.Assign [.Attribute (.Name sn p1) fld p2] (.Name cn p3) p4] t ∧
      ∀ (a dx : Addr) (ws : List V) (H1 : Hp) (Q : VK), dx ≠ a → ws.length = 1 → H1 a = some (exo a D (some dx)) → H1 dx = some (exd dx [(("code" : Str), .str code)]) → Q .non (upd H1 dx (exd dx (fG code [fld] ws))) → t { nx := fun _ H' => Q .non H', rt := Q } (startF N (V.ref a :: ws) [some (V.ref D)]) H1 := by
  intro F A outer s H E hF
  subst hF
  refine ⟨_, pss_one (ps_ost (pe_var (i := 0) h0 (.inl hs) d0 c0) (pe_var (i := 1) h1 (.inl hc) d1 c1)), fun a dx ws H1 Q _ hl ha hd h => ?_⟩
  match ws, hl with
  | [v], _ => exact ⟨v, rfl, .ref a, rfl, a, D, rfl, ox, hno, .inr ⟨dx, _, ha, hd, by show 1 ≤ 900; decide, h⟩⟩
end
end Z
namespace Z
open PySem PySem.Spec PyProof.Rows L2
def fGP (code : Str) (fs : List Str) (ps : List PV) : List (Str × PV) := (fs.zip ps).reverse ++ [(("code" : Str), .str code)]
def sRaise (c code : Str) (flds : List Str) (fas : EN → LH → Res (List LV)) (env : EN) (lh : LH) : SRes := sBind env (fas env lh) fun xs lh1 => match pvs xs with
  | some ps => if ps.length = flds.length then .exc ⟨c, fGP code flds ps⟩ env lh1 else .stuck
  | none => .stuck
section
variable {K : PySem.W.Frag} {mg : Str → Option Value} {W : Wd}
theorem RepF.app [L : LamC] : ∀ {xs ys : List (Str × PV)} {vs ws : List (Str × V)}, RepF K mg W xs vs → RepF K mg W ys ws → RepF K mg W (xs ++ ys) (vs ++ ws)
  | _, _, _, _, .nil, h => h
  | _, _, _, _, .cons r t, h => .cons r (RepF.app t h)
theorem RepF.rev [L : LamC] : ∀ {xs : List (Str × PV)} {vs : List (Str × V)}, RepF K mg W xs vs → RepF K mg W xs.reverse vs.reverse
  | _, _, .nil => .nil
  | _, _, .cons r t => by
    rw [List.reverse_cons, List.reverse_cons]
    exact RepF.app (RepF.rev t) (.cons r .nil)
theorem repF_zip [L : LamC] : ∀ {fs : List Str} {ps : List PV} {vs : List V}, Reps K mg W ps vs → RepF K mg W (fs.zip ps) (fs.zip vs)
  | [], _, _, _ => by simp only [List.zip_nil_left]; exact .nil
  | _ :: _, _, _, .nil => by simp only [List.zip_nil_right]; exact .nil
  | f :: fs, _, _, .cons r t => by
    rw [List.zip_cons_cons, List.zip_cons_cons]
    exact .cons r (repF_zip t)
theorem repF_fG [L : LamC] {code : Str} {fs : List Str} {ps : List PV} {vs : List V} (r : Reps K mg W ps vs) : RepF K mg W (fGP code fs ps) (fG code fs vs) := (repF_zip r).rev.app (.cons .str .nil)
end
/-- a class whose call makes an exception -/
def RaiD (P : Program) (w : World) (K : PySem.W.Frag) (mg : Str → Option Value) (base : Heap) (x : Str) (k : Nat) (code : Str) (flds : List Str) : Prop :=
  ∃ (C fI : Addr) (fd : FuncData) (ps : List Str), mg x = some (.ref C) ∧ OexC K C ∧ PySem.W.findIn K (.ref C) "__init__" = some (some (.ref fI)) ∧ PySem.W.typeIn K (.ref fI) = some (.type "function") ∧ L2.Binds K fd ps [] ∧ FnOk P w K mg base (L2.CX P w) k fI fd ps (SpEG C flds.length (fG code flds))
theorem made_heap {H : Hp} {a C dx : Addr} {o : HO} {fs : List (Str × V)} (ha : H a = none) (h1 : (upd H a o) dx = none) (h2 : dx ≠ a) : upd (del (upd (upd (upd H a o) dx (exd dx fs)) a (exo a C (some dx))) a) dx (.xd fs) = upd H dx (.xd fs) := by
  funext b
  by_cases e : b = dx
  · subst e
    rw [upd_same, upd_same]
  · rw [upd_ne e, upd_ne e]
    by_cases e2 : b = a
    · subst e2
      rw [del_same, ha]
    · rw [del_ne e2, upd_ne e2, upd_ne e, upd_ne e2]
section
variable {X : Cx} {Wx : WX} {k : Nat} {x code : Str} {flds : List Str} {p cp pos : Pos} {e : Expr} {es : List Expr} {fas : EN → LH → Res (List LV)}
theorem fs_raise [L : LamC] [S : Susp] (D : RaiD X.prog X.w X.K X.mg X.base x k code flds) (hr : Room (k + 1) X.A) (hc : X.calm = true) (tk : Takes X Wx) (hg : Gl X x) (hfl : flds.length ≤ 1000) (ha : FA X Wx (e :: es) fas)
    (hdb : (x == ("__debug__" : Str)) = false := by decide) (he : starEach (e :: es) X.env = (false, eval e X.env) :: starEach es X.env := by rfl) (hpl : (backTo cp (starEach es X.env)).any (·.1) = false := by rfl) :
    FS X Wx (.Raise (some (.Call (.Name x p) (e :: es) [] cp)) none pos) (sRaise x code flds fas) := by
  obtain ⟨C, fI, fd, ps, hm, T, iC, tI, hb, F⟩ := D
  have hx : Passes (L2.CX X.prog X.w) X (fun _ _ _ => False) := fun pins σ H s e s' I c => by
    obtain ⟨_, _, _, _, _, _, _, _, _, _, _, _, z⟩ := c
    exact z.elim
  refine PS.imp (ps_raise hc tk (pmk_oex (ds := []) (dvs := []) T iC tI F hr hb .nil hx hg hm ha hdb he hpl)) fun D σ H ⟨W, env, lh, hH, sr, h⟩ => ?_
  subst hH
  refine goS (k := fun xs lh1 => match pvs xs with
    | some ps => if ps.length = flds.length then .exc ⟨x, fGP code flds ps⟩ env lh1 else .stuck
    | none => .stuck) sr h fun xs lh1 vs W1 e1 s1 r1 h1 => ?_
  split at h1
  · next pl hp =>
    split at h1
    · next hl =>
      have := pvs_some hp
      subst this
      have rp : Reps X.K X.mg W1 pl vs := r1.p
      have hlv : vs.length = flds.length := by rw [← rp.length]; exact hl
      refine ⟨by omega, fun a na => ⟨a, vs, by rw [List.append_nil], hlv, upd_same, fun dx h2 h3 => ?_⟩⟩
      have nd : W1.H dx = none := by rwa [upd_ne h3] at h2
      refine ⟨rfl, dx, fG code flds vs, upd_same, by rw [upd_ne h3, upd_same], nd, ?_⟩
      rw [made_heap na h2 h3]
      exact h1 (.ref C) (some dx) σ ⟨upd W1.H dx (.xd (fG code flds vs)), W1.io, W1.hd⟩ (Ext.new s1.lh nd) (s1.mono (Ext.new s1.lh nd) (s1.lh.new nd)) ⟨C, dx, _, hm, rfl, rfl, upd_same, nMu_new s1.lh nd, RepF.mono (Ext.new s1.lh nd).toEx.toEx0 (repF_fG rp)⟩
    · exact h1.elim
  · exact h1.elim
end
end Z
namespace Z
open PySem PySem.Spec PyProof.Rows L2
end Z
namespace Z
open PySem PySem.Spec PyProof.Rows L2 L2H
structure FnW (P : Program) (w : World) (K : PySem.W.Frag) (mg : Str → Option Value) (base : Heap) (CX : CXT) (k : Nat) (f : Addr) (fd : FuncData) (ps : List Str) (sp : Addr × Obj → Sp) : Prop where
  len : ∀ p vs H Q E, sp p vs H Q E → vs.length = ps.length
  run : ∀ (A : Around) (outer : List Env) (s : Shared) (H : Hp) (args : Args) (us : List Value) (vs : List V) (Q : VK) (E : XK) (p : Addr × Obj), RoomH k A → PinOk outer H s p → Env0 P w K mg base A outer s H → BindsTo s fd args (ps.zip us) → Vals vs us → sp p vs H Q E →
    codeAny (model P w) A (.call (.ref f) args) (CR CX outer P w H s Q E) s
end Z
namespace Z
open PySem PySem.Spec PyProof.Rows L2
section
variable {X : Cx} {Wx : WX} {k n n2 : Nat} {ps ks : List Str} {m z : List LV → LH → Res LV} {x c mn : Str} {p pos apos : Pos} {e o : Expr} {es : List Expr} {kws : List Keyword} {fo : EN → LH → Res LV} {fas fks : EN → LH → Res (List LV)} {b : List LV → List LV → List LV}
theorem fe_callT [L : LamC] [S : Susp] (tk : Takes X Wx) (D : DefF X.prog X.w X.K X.mg X.base x ps k m) (hr : Room k X.A) (hg : Gl X x) (hl : FL fas n) (hn : n = ps.length) (h1 : n = es.length + 1) (ha : FA X Wx (e :: es) fas) (hdb : (x == ("__debug__" : Str)) = false := by decide) (he : starEach (e :: es) X.env = (false, eval e X.env) :: starEach es X.env := by rfl) (hpl : (backTo pos (starEach es X.env)).any (·.1) = false := by rfl) :
    FE X Wx (.Call (.Name x p) (e :: es) [] pos) (fCallD m [] fas) := by
  obtain ⟨f, fd, hm, hk, hb, F⟩ := D
  exact fe_callD tk F hr hg hm hk hb .nil (fun _ => .nil) (by simp; omega) (fun env lh xs lh' h => by rw [hl env lh xs lh' h, h1]) ha hdb he hpl
theorem fe_mkKT [L : LamC] [S : Susp] {y : List LV → LH → Res LV} (tk : Takes X Wx) (hz : ZMk X.K X.mg ps.length x z y) (D : MkK X.prog X.w X.K X.mg X.base x ps n ks b k z) (hr : Room (k + 1) X.A) (hg : Gl X x) (hl : FL fas n) (hl2 : FL fks n2) (hn2 : n2 = ks.length) (ha : FA X Wx (e :: es) fas) (hk : FK X Wx kws fks)
    (hall : (backToKw pos (keywordEach kws X.env)).all (·.1.isSome) = true := by rfl) (hks : (backToKw pos (keywordEach kws X.env)).filterMap (·.1) = ks := by rfl) (hdb : (x == ("__debug__" : Str)) = false := by decide)
    (hst : starEach (e :: es) X.env = (false, eval e X.env) :: starEach es X.env := by rfl) (hpl : ((backTo pos (starEach (e :: es) X.env)).any (·.1) || (backToKw pos (keywordEach kws X.env)).any (·.1.isNone)) = false := by rfl) :
    FE X Wx (.Call (.Name x p) (e :: es) kws pos) (fMakeK y b fas fks) := by
  obtain ⟨C, f, fd, bnd, bV, hm, M, hb, hbl, F⟩ := D
  exact fe_makeK hz tk M F hr hg hm hb hbl ha hk (fun env lh xs lh' h => hl env lh xs lh' h) (fun env lh xs lh' h => by rw [hl2 env lh xs lh' h, hn2]) hall hks hdb hst hpl
end
/-- a def of n slots and the body b, of which exceptions may come -/
def mOfE (n : Nat) (b : EN → LH → SRes) : List LV → LH → Res LV := mOf n b
abbrev WE' (E : XK) : WX := fun c d _ H => E c d H
section
variable {P : Program} {w : World} {K : PySem.W.Frag} {mg : Str → Option Value} {base : Heap} {x qual : Str} {params : Arguments} {body : List Stmt} {scope : Scope} {dvs : List V} {kws : List (Str × V)} {f : Addr} {fd : FuncData}
theorem fn_zDE [L : LamC] [S : Susp] {N ps : List Str} {k : Nat} {b : EN → LH → SRes} (F : FunD K x qual params body scope dvs kws f fd) (S : FnScope N ps scope)
    (hbody : ∀ (cdv : Value) (A : Around) (outer : List Env) (s : Shared) (H : Hp) (E : XK), Room k (A.deeper (envOfC qual scope s.heap.objs.size f cdv)) → Takes (cxOf (L2.CX P w) P w K mg base N qual scope f cdv A outer s H E) (WE' E) →
      FSs (cxOf (L2.CX P w) P w K mg base N qual scope f cdv A outer s H E) (WE' E) body b) :
    FnOk P w K mg base (L2.CX P w) (k + 1) f fd ps (SpZ K mg ps.length (mOfE N.length b)) := by
  refine F.ok S (fun vs H Q E h => h.1) fun cdv A outer s H vs Q E hr h => ⟨_, hbody cdv A outer s H E hr (takes_of rfl rfl rfl rfl), ?_⟩
  obtain ⟨_, W, xs, lh, rfl, l, r, h⟩ := h
  exact z_body l r h
end
end Z
namespace Z
open PySem PySem.Spec PyProof.Rows L2 L2H
theorem oexClsB_ok {C : Addr} {oc : Value} {dd : Option Addr} {cd : ClassData} {sl : Array (Option Value)} (h : oexClsB C oc cd sl.toList = true) :
    ∃ nm q N bs bm sn sub ab col k0 k1 k2 k3 k5, (⟨oc, dd, .cls cd, sl⟩ : Obj) = excClassObj nm q C N bs bm true sn sub ab col dd k0 k1 k2 k3 k5 "ValueError.__new__" ∧ PySem.HandSPX.refsVE bm = true := by
  obtain ⟨sl⟩ := sl
  obtain ⟨nm, bs, mro, ns, qn, hd, sn, sub, ab, col, del⟩ := cd
  unfold oexClsB at h
  dsimp only at h
  split at h
  · next t C' bm k0 k1 k2 k3 n k5 =>
    obtain ⟨h1, h⟩ := Bool.and_eq_true_iff.mp h
    obtain ⟨h2, h⟩ := Bool.and_eq_true_iff.mp h
    obtain ⟨h3, h⟩ := Bool.and_eq_true_iff.mp h
    obtain ⟨h4, h⟩ := Bool.and_eq_true_iff.mp h
    obtain ⟨h5, h6⟩ := Bool.and_eq_true_iff.mp h
    have h1 := of_decide_eq_true h1
    have h2 := of_decide_eq_true h2
    have h6 := of_decide_eq_true h6
    have h5 : del = false := by simpa using h5
    subst h1 h2 h4 h5 h6
    exact ⟨nm, qn, ns, bs, bm, sn, sub, ab, col, k0, k1, k2, k3, k5, rfl, h3⟩
  · cases h
theorem oexB_ok {K : PySem.W.Frag} {C : Addr} (h : oexB K C = true) : OexC K C := by
  obtain ⟨h1, h⟩ := Bool.and_eq_true_iff.mp h
  obtain ⟨h2, h⟩ := Bool.and_eq_true_iff.mp h
  obtain ⟨h3, h⟩ := Bool.and_eq_true_iff.mp h
  obtain ⟨h4, h5⟩ := Bool.and_eq_true_iff.mp h
  refine ⟨?_, He.eqO_ok h2, of_decide_eq_true h3, of_decide_eq_true h4, h5⟩
  split at h1
  · next oc dd cd sl hl =>
    obtain ⟨nm, q, N, bs, bm, sn, sub, ab, col, k0, k1, k2, k3, k5, e, hb⟩ := oexClsB_ok (dd := dd) h1
    exact ⟨nm, q, N, bs, bm, sn, sub, ab, col, dd, k0, k1, k2, k3, k5, by rw [hl, e], hb⟩
  · cases h1
theorem excKB_ok {K : PySem.W.Frag} {C D : Addr} {r : Value} (h : excKB K C D r = true) : ExcK K C D r := by
  obtain ⟨h1, h⟩ := Bool.and_eq_true_iff.mp h
  obtain ⟨h2, h⟩ := Bool.and_eq_true_iff.mp h
  obtain ⟨h3, h⟩ := Bool.and_eq_true_iff.mp h
  obtain ⟨h4, h5⟩ := Bool.and_eq_true_iff.mp h
  exact ⟨oexB_ok h1, of_decide_eq_true h2, He.eqO_ok h3, He.eqO_ok h4, Option.isSome_iff_exists.mp h5⟩
theorem excGB_ok {K : PySem.W.Frag} {C D g : Addr} (h : excGB K C D g = true) : ExcG K C D g := by
  obtain ⟨h1, h⟩ := Bool.and_eq_true_iff.mp h
  obtain ⟨h2, h3⟩ := Bool.and_eq_true_iff.mp h
  exact { toExcK := excKB_ok h1, ty := of_decide_eq_true h2, fn := h3 }
theorem excVB_ok {K : PySem.W.Frag} {C D : Addr} (h : excVB K C D = true) : ExcV K C D := by
  obtain ⟨h1, h2⟩ := Bool.and_eq_true_iff.mp h
  exact { toExcK := excKB_ok h1, ve := of_decide_eq_true h2 }
theorem noB_ok {K : PySem.W.Frag} {C : Addr} {fs : List Str} (h : noB K C fs = true) {f : Str} (hf : f ∈ fs) : PySem.W.findIn K (.ref C) f = some none := He.eqO_ok (List.all_eq_true.mp h f hf)
theorem RaiD.of {P : Program} {w : World} {K : PySem.W.Frag} {mg : Str → Option Value} {base : Heap} {x code : Str} {k : Nat} {flds : List Str} {C fI : Addr} {fd : FuncData} {ps : List Str} (h1 : mg x = some (.ref C)) (h2 : OexC K C) (h3 : PySem.W.findIn K (.ref C) "__init__" = some (some (.ref fI))) (h4 : PySem.W.typeIn K (.ref fI) = some (.type "function"))
    (h5 : L2.Binds K fd ps []) (h6 : FnOk P w K mg base (L2.CX P w) k fI fd ps (SpEG C flds.length (fG code flds))) : RaiD P w K mg base x k code flds := ⟨C, fI, fd, ps, h1, h2, h3, h4, h5, h6⟩
end Z
namespace Z
open PySem PySem.Spec PyProof.Rows L2
end Z
namespace Z
open PySem PySem.Spec PyProof.Rows L2
end Z
namespace Z
open PySem PySem.Spec PyProof.Rows L2
variable {env : EN} {lh : LH} {Q : LV → LH → Prop} {E : LX → LH → Prop} {Qi : Src → LH → Prop}
theorem hrs_fnE {n : Nat} {b : EN → LH → SRes} {xs : List LV} : (mOfE n b xs lh).sp Q E ↔ StartTo n xs (@hide _ ⟨fun e => (b e lh).sp (Dn.fn ((@hide _ ⟨fun v l => (cleanR lh (.ok v l)).sp Q E⟩)) (@hide _ ⟨fun x l => E x (clean lh l)⟩))⟩) := by
  show (cleanR lh (retOf (b (startE n xs) lh))).sp Q E ↔ (b (startE n xs) lh).sp (Dn.fn (fun v l => (cleanR lh (.ok v l)).sp Q E) (fun x l => E x (clean lh l)))
  cases q : b (startE n xs) lh <;> exact Iff.rfl
theorem hrs_callS {m : EN → List LV → LH → Res LV} {fs : EN → LH → Res (List LV)} : (fCallS m fs env lh).sp Q E ↔ (fs env lh).sp ((@hide _ ⟨fun xs l => (m env xs l).sp Q E⟩)) E := by
  unfold fCallS
  exact rs_bind
theorem hrs_lam {n : Nat} {cl : List (Str × Addr)} : (fLam n cl env lh).sp Q E ↔ Q (.pv (.clo n cl)) lh := Iff.rfl
def DctTo (x : LV) (k : List (PV × PV) → Prop) : Prop := ∃ kvs, x = .pv (.dct kvs) ∧ k kvs
theorem hdct_1 {kvs : List (PV × PV)} {k : List (PV × PV) → Prop} : DctTo (.pv (.dct kvs)) k ↔ k kvs := ⟨fun ⟨_, e, q⟩ => by cases e; exact q, fun q => ⟨_, rfl, q⟩⟩
end Z
namespace Z
open PySem PySem.Spec PyProof.Rows L2
end Z
namespace Z
open PySem PySem.Spec PyProof.Rows L2
end Z
namespace Z
open PySem PySem.Spec PyProof.Rows L2 NdefX
end Z
namespace PySem.W
open Lean Elab Tactic Meta PySem PySem.Calls PyProof.Rows
end PySem.W
namespace Z
open PySem PySem.Spec PyProof.Rows L2
end Z
namespace PySem
open PySem.W
section
variable {prog : Program} {w : World} {K : Type} [DecidableEq K] {knd : KeyKind prog w K} {A : Around} {E : Value → Shared → Prop} {s : Shared} {env : Env}
theorem zdictPut {d : Addr} {kvs : List (K × Value)} {k : K} {key v : Value} {Q : Unit → Shared → Prop} (hkey : knd.is k key = true) (hm : s.heap.DictOf knd d kvs)
    (hQ : ∀ h', h'.DictOf knd d (stored kvs k v) → Heap.SameBut d s.heap h' → Q () { s with heap := h' })
    (hsz : kvs.length ≤ sizeLine) :
    wpAny (model prog w) A (dictPut d (knd.hash k) key v) Q E s := by
  obtain ⟨o, es, ep, ho, hc, hd, hk, hp, hn⟩ := hm
  have hes : es.size ≤ sizeLine := by have e1 := hp.length; have e2 : es.toList.length = es.size := by simp
                                      omega
  unfold dictPut
  refine wpAny_bind (wpAny_dictFind_of hkey ho hd hk ?_)
  have hidx : (es.findIdx? fun e => knd.is k e.key) = kvs.findIdx? fun kv => decide (kv.1 = k) := by
    rw [← hp.findIdx k]; obtain ⟨l⟩ := es; simp
  cases hi : es.findIdx? fun e => knd.is k e.key with
  | some i =>
    refine wpAny_updateDict ho hd (hQ _ ⟨_, _, ep, Heap.get?_update_self _ ho (Obj.isFreed_of_dict (Obj.data_mapDict hd _)),
      hc.mapDict _, Obj.data_mapDict hd _, hk.modify _ _, ?_, ?_⟩ (Heap.SameBut.update ..))
    · rw [stored, if_pos (any_of_findIdx_some (hidx ▸ hi))]
      have hl : (es.toList.findIdx? fun e => knd.is k e.key) = some i := by rw [← hi]; obtain ⟨l⟩ := es; simp
      have := hp.modify hn hl v
      obtain ⟨l⟩ := es
      simpa using this
    · rw [stored, if_pos (any_of_findIdx_some (hidx ▸ hi)), keys_map_store]; exact hn
  | none =>
    have hnot : k ∉ kvs.map (·.1) := not_mem_of_findIdx_none (hidx ▸ hi)
    have hany : ¬ (kvs.any fun kv => decide (kv.1 = k)) = true := by
      rw [List.any_eq_true]; rintro ⟨kv, hkv, he⟩
      exact hnot (List.mem_map.mpr ⟨kv, hkv, of_decide_eq_true he⟩)
    refine wpAny_updateDictKeys (hz := hes) ho hd (hQ _ ⟨_, _, ep + 1, Heap.get?_update_self _ ho (Obj.isFreed_of_dict (Obj.data_mapDictKeys hd _)),
      hc.mapDictKeys _, Obj.data_mapDictKeys hd _, hk.push hkey _, ?_, ?_⟩ (Heap.SameBut.update ..))
    · rw [stored, if_neg hany]
      have := hp.append hkey (knd.hash k) v
      obtain ⟨l⟩ := es
      simpa using this
    · rw [stored, if_neg hany, List.map_append, List.nodup_append]
      refine ⟨hn, by simp, ?_⟩
      intro a ha b hb
      simp only [List.map_cons, List.map_nil, List.mem_singleton] at hb
      subst hb
      exact fun e => hnot (e ▸ ha)
theorem zmerge {d o : Addr} {kvs more : List (K × Value)} {Q : Unit → Shared → Prop} (hdo : d ≠ o) (hoS : (o == sysModules) = false)
    (hd : s.heap.DictOf knd d kvs) (ho : s.heap.DictOf knd o more)
    (hQ : ∀ h', h'.DictOf knd d (merged kvs more) → h'.DictOf knd o more → Heap.SameBut d s.heap h' → Q () { s with heap := h' })
    (hsz : kvs.length + more.length ≤ sizeLine) :
    wpAny (model prog w) A (mergeMapping d (.ref o) false) Q E s := by
  obtain ⟨od, esd, epd, hod, hcd, hdd, hkd, hpd, hnd⟩ := id hd
  obtain ⟨oo, eso, epo, hoo, hco, hdo', hko, hpo, hno⟩ := id ho
  have hlen : more.length = eso.size := by rw [← hpo.length]; simp
  unfold mergeMapping
  have loop : wpAny (model prog w) A (do
      let l ← dictEntries o
      let epoch ← dictEpoch o
      forIn (List.range l.size) PUnit.unit fun i (_ : PUnit) => (do
          let l' ← dictEntries o
          match l'[i]? with
            | some e => do
              holding [e.key, e.val] (dictPut d e.hash e.key e.val)
              let ep' ← dictEpoch o
              if (ep' != epoch) = true then do
                  (unsupported "dict.changed-during-merge" : Sem PUnit)
                  pure (ForInStep.yield PUnit.unit)
                else pure (ForInStep.yield PUnit.unit)
            | _ => do
              (unsupported "dict.changed-during-merge" : Sem PUnit)
              pure (ForInStep.yield PUnit.unit) : Sem (ForInStep PUnit))
      pure ()) Q E s := by
    refine wpAny_bind (wpAny_dictEntries hoo hdo' ?_)
    refine wpAny_bind (wpAny_dictEpoch hoo hdo' ?_)
    refine wpAny_bind ?_
    rw [List.range_eq_range']
    refine wpAny_forIn_list _
      (fun rest _ s' => ∃ h' i, s' = { s with heap := h' } ∧ rest = List.range' i (eso.size - i) ∧ i ≤ eso.size ∧ h'.DictOf knd d (merged kvs (more.take i)) ∧ h'.get? o = some oo ∧ Heap.SameBut d s.heap h')
      _ ?_ ?_ _ _ ⟨s.heap, 0, rfl, by simp, Nat.zero_le _, by simpa [merged] using hd, hoo, Heap.SameBut.refl _ _⟩
    · rintro x rest b s' ⟨h', i, rfl, hr, hi, hd', hoo', hs'⟩
      have hlt : i < eso.size := by
        rcases Nat.lt_or_ge i eso.size with h | h
        · exact h
        · rw [Nat.sub_eq_zero_of_le h] at hr; simp at hr
      obtain ⟨rfl, hrest⟩ : x = i ∧ rest = List.range' (i + 1) (eso.size - (i + 1)) := by
        have e : eso.size - i = (eso.size - (i + 1)) + 1 := by omega
        rw [e, List.range'_succ] at hr
        injection hr with h1 h2
        exact ⟨h1, h2⟩
      refine wpAny_bind (wpAny_dictEntries hoo' hdo' ?_)
      rw [Array.getElem?_eq_getElem hlt]
      obtain ⟨kv, hkv⟩ : ∃ kv, more[x]? = some kv := ⟨more[x]'(by rw [hlen]; exact hlt), List.getElem?_eq_getElem _⟩
      obtain ⟨k, v⟩ := kv
      obtain ⟨hkey, hval⟩ := hpo.get? (e := eso[x]) (by simp [hlt]) hkv
      obtain ⟨k', hkey', hhash⟩ := hko eso[x] (Array.getElem_mem hlt)
      obtain rfl : k' = k := knd.inj _ _ _ hkey' hkey
      show wpAny _ _ (holding [eso[x].key, eso[x].val] (dictPut d eso[x].hash eso[x].key eso[x].val) >>= _) _ _ _
      rw [hhash, hval]
      have hmx : (merged kvs (more.take x)).length ≤ sizeLine := by
        have e1 := merged_length_le kvs (more.take x)
        have e2 : (more.take x).length ≤ more.length := by rw [List.length_take]; omega
        omega
      refine wpAny_bind (wpAny_holding (zdictPut (hsz := hmx) hkey hd' fun h'' hd'' hs'' => ?_))
      have hoo'' : h''.get? o = some oo := (hs''.2 o (Ne.symm hdo)).trans hoo'
      refine wpAny_bind (wpAny_dictEpoch hoo'' hdo' ?_)
      rw [if_neg (by simp)]
      exact wpAny_pure ⟨h'', x + 1, rfl, hrest, hlt, by rw [merged_take_succ kvs more x (k', v) hkv]; exact hd'', hoo'', hs'.trans hs''⟩
    · rintro b s' ⟨h', i, rfl, hr, hi, hd', hoo', hs'⟩
      have hin : i = eso.size := by
        rcases Nat.lt_or_ge i eso.size with h | h
        · have e : eso.size - i = (eso.size - (i + 1)) + 1 := by omega
          rw [e, List.range'_succ] at hr; exact nomatch hr
        · exact Nat.le_antisymm hi h
      refine wpAny_pure (hQ h' ?_ ⟨oo, eso, epo, hoo', hco, hdo', hko, hpo, hno⟩ hs')
      rw [hin, ← hlen, List.take_length] at hd'; exact hd'
  with_reducible refine wpAny_bind ?_
  with_reducible refine wpAny_isInstance ho.typeIs isSubtype_dict_dict ?_
  simp only [if_true]
  with_reducible refine wpAny_bind ?_
  with_reducible refine wpAny_specialOf ho.typeIs F.slot_dict_iter.lookup ?_
  simp only [beq_self_eq_true]
  rw [pure_bind]
  dsimp only
  rw [if_neg (by rw [hoS]; exact Bool.false_ne_true)]
  with_reducible refine wpAny_bind ?_
  with_reducible refine wpAny_dictEntries hod hdd ?_
  simp only [Bool.false_eq_true, if_false]
  split
  · with_reducible refine wpAny_bind ?_
    with_reducible refine wpAny_dictEntries hoo hdo' ?_
    have hloop : ∀ f : DictEntry → PUnit → Sem (ForInStep PUnit), (∀ e ∈ eso.toList, ∀ c, f e c = pure (ForInStep.yield c)) → forIn eso PUnit.unit f = (pure PUnit.unit : Sem PUnit) := fun f hf => by
      rw [← Array.forIn_toList]
      exact forIn_yield_id _ hf
    rw [hloop _ (fun e he c => ?_)]
    · exact wpAny_bind (wpAny_pure loop)
    · obtain ⟨k, hkey, _⟩ := hko e (Array.mem_toList_iff.mp he)
      have hv := knd.byValue k _ hkey
      split
      · next a ha => rw [ha] at hv; cases hv
      · rfl
  · exact loop
theorem zdisplay {T1 Tk Tv : Sem Value} {Q : Value → Shared → Prop}
    (h : wpAny (model prog w) A T1 (fun m s1 => wpAny (model prog w) A (mergeMapping s.heap.objs.size m false) (fun _ s2 => wpAny (model prog w) A (subDict [(Tk, Tv)]) (fun sub s3 => wpAny (model prog w) A (mergeMapping s.heap.objs.size (.ref sub) false) (fun _ s4 => Q (.ref s.heap.objs.size) s4) (fun _ _ => False) s3) E s2) (fun _ _ => False) s1) E { s with heap := s.heap.push { cls := .type "dict", data := .dict #[] } }) :
    wpAny (model prog w) A (dictDisplay [(none, T1), (some Tk, Tv)]) Q E s := by
  unfold dictDisplay
  simp only [List.forIn_cons, List.forIn_nil, bind_assoc, pure_bind, List.isEmpty_nil, if_true]
  with_reducible refine wpAny_bind ?_
  with_reducible refine wpAny_alloc ?_
  with_reducible refine wpAny_bind ?_
  refine wpAny_holding (wpAny_mono h (fun m s1 h1 => ?_) fun _ _ e => e)
  with_reducible refine wpAny_bind ?_
  refine wpAny_onRaise (wpAny_tryCatch (wpAny_onRaise (wpAny_holding (wpAny_mono h1 (fun _ s2 h2 => ?_) fun _ _ e => e.elim))))
  rw [if_neg (by simp)]
  simp only [pure_bind]
  rw [if_neg (by simp)]
  simp only [bind_assoc, pure_bind]
  with_reducible refine wpAny_bind ?_
  refine wpAny_holding (wpAny_mono h2 (fun sub s3 h3 => ?_) fun _ _ e => e)
  with_reducible refine wpAny_bind ?_
  refine wpAny_onRaise (wpAny_holding (wpAny_mono h3 (fun _ s4 h4 => ?_) fun _ _ e => e.elim))
  exact wpAny_pure h4
end
end PySem
namespace Z
open PySem PySem.Spec PyProof.Rows L2
def tDispU (te tk tv : TE) : TE := fun σ H Q => ∀ p, H p = none → te σ (upd H p (.dK [])) fun x H1 => ∃ a hs, x = .ref a ∧ a ≠ p ∧ Rd H1 a (.dK hs) ∧ H1 p = some (.dK []) ∧
  ∀ q, (upd H1 p (.dK hs)) q = none → tPairs [(tk, tv)] σ (upd (upd H1 p (.dK hs)) q (.dK [])) fun ps H2 => H2 q = some (.dK []) ∧ H2 p = some (.dK hs) ∧ q ≠ p ∧
    ∃ kvs : List (Key × V), ps = kvs.map (fun kv => (kV kv.1, kv.2)) ∧ kvs.length ≤ 15 ∧ hs.length + 15 ≤ sizeLine ∧ Q (.ref p) (upd (upd H2 q (.dK (mergeK [] kvs))) p (.dK (mergeK hs (mergeK [] kvs))))
theorem pe_dispU {X : Cx} {pos : Pos} {e k v : Expr} {te tk tv : TE} (he : PE X e te) (hk : PE X k tk) (hv : PE X v tv) : PE X (.Dict [none, some k] [e, v] pos) (tDispU te tk tv) := by
  refine ⟨fun pins s σ H Q I q => ?_⟩
  have hn := I.hok.fresh (Nat.le_refl s.heap.objs.size)
  have I1 := I.laid (a := s.heap.objs.size) (o := .dK []) (h' := s.heap.push { cls := .type "dict", data := .dict #[] }) (t' := s.toks) (fun _ _ q => Heap.get?_push_of_some _ q) (Nat.le_refl _) (dk_empty s.heap I.big)
  have q1 := q _ hn
  rw [arm_eval_Dict]
  refine wpAny_bind (wpAny_standAt ?_)
  refine zdisplay (prog := X.prog) (w := X.w) (T1 := do let x ← eval e X.env; standAt pos; pure x) (Tk := eval k X.env) (Tv := do let x ← eval v X.env; standAt pos; pure x) ?_
  refine wpAny_bind (thn (he.run pins _ σ _ _ I1 q1) fun m s1 ⟨x, H1, I2, rx, a, hs, ex, hne, hr, hp, q2⟩ => wpAny_bind (wpAny_standAt (wpAny_pure ?_)))
  subst ex
  cases rx
  obtain ⟨z1, lo1, vs, rel, dd⟩ := dk_rd I2.hok hr
  obtain ⟨z0, lo0, vs0, rel0, dd0⟩ := dk_of I2.hok hp
  cases rel0
  have hnd : (vs.map (·.1)).Nodup := let ⟨_, _, _, _, _, _, _, _, hn⟩ := dd; hn
  have hl : vs.length ≤ sizeLine := by rw [← rel.length]; exact z1
  refine zmerge (knd := mixKind X.prog X.w) (Ne.symm hne) lo1 dd0 dd (fun h1 d1 _ hs1 => ?_) (by simpa using hl)
  rw [merged_nil_of_nodup vs hnd] at d1
  have he1 : ∃ q, h1.get? s.heap.objs.size = some q := let ⟨q, _, _, hq, _⟩ := d1; ⟨q, hq⟩
  have I3 := d_write (t' := s1.toks) I2 (by rw [hp]; exact True.intro) hs1 he1 (dk_new z1 lo0 rel d1)
  have hn2 := I3.hok.fresh (Nat.le_refl h1.objs.size)
  have I4 := I3.laid (a := h1.objs.size) (o := .dK []) (h' := h1.push { cls := .type "dict", data := .dict #[] }) (t' := s1.toks) (fun _ _ q => Heap.get?_push_of_some _ q) (Nat.le_refl _) (dk_empty h1 I3.big)
  refine wpAny_subDict (knd := mixKind X.prog X.w) (by simp) ?_
  refine thn ((pps_cons hk hv pps_nil).run pins _ σ _ _ I4 (q2 _ hn2)) fun ws s2 ⟨ps, H2, I5, rel2, e2, e3, hqp, kvs, ep, lk, lz, q4⟩ => ?_
  subst ep
  obtain ⟨rs, c, rk⟩ := carries_of (P := X.prog) (w := X.w) rel2
  obtain ⟨_, lo2, vs2, r2, dd2⟩ := dk_of I5.hok e2
  cases r2
  refine ⟨rs, c, dd2, fun h2 d2 hs2 => ?_⟩
  have hz : (mergeK [] kvs).length ≤ sizeLine := by
    have h1 := length_mergeK kvs []
    rw [List.length_nil] at h1
    rw [sizeLine_eq]; omega
  have rk2 : KV (mergeK [] kvs) (merged [] rs) := rk.merge .nil
  have he2 : ∃ q, h2.get? h1.objs.size = some q := let ⟨q, _, _, hq, _⟩ := d2; ⟨q, hq⟩
  have I6 := d_write (t' := s2.toks + ws.length) I5 (by rw [e2]; exact True.intro) hs2 he2 (dk_new hz lo2 rk2 d2)
  have e6 : (upd H2 h1.objs.size (.dK (mergeK [] kvs))) s.heap.objs.size = some (.dK hs) := by rw [upd_ne (Ne.symm hqp)]; exact e3
  obtain ⟨_, lo6, vs6, r6, dd6⟩ := dk_of I6.hok e6
  have hm : (merged ([] : List (Key × Value)) rs).length ≤ 15 := by
    rw [← rk2.length]
    have h1 := length_mergeK kvs []
    rw [List.length_nil] at h1
    omega
  refine zmerge (knd := mixKind X.prog X.w) (Ne.symm hqp) lo2 dd6 d2 (fun h3 d3 _ hs3 => ?_) (by rw [← r6.length]; omega)
  have he3 : ∃ q, h3.get? s.heap.objs.size = some q := let ⟨q, _, _, hq, _⟩ := d3; ⟨q, hq⟩
  have hz3 : (mergeK hs (mergeK [] kvs)).length ≤ sizeLine := by
    have h1 := length_mergeK (mergeK [] kvs) hs
    have h2 := length_mergeK kvs []
    rw [List.length_nil] at h2
    omega
  exact ⟨.ref s.heap.objs.size, _, d_write I6 (by rw [e6]; exact True.intro) hs3 he3 (dk_new hz3 lo6 (rk2.merge r6) d3), rfl, q4⟩
end Z
namespace Z
open PySem PySem.Spec PyProof.Rows L2
def fDispU (z : List (PV × LV) → LH → Res LV) (fd fk fv : EN → LH → Res LV) (env : EN) (lh : LH) : Res LV := (noX (fd env lh)).bind fun x lh1 => match dctOf x lh1 with
  | some kvs0 => if kvs0.length + 15 ≤ sizeLine then (noX (fPairs [(fk, fv)] env lh1)).bind fun xs lh3 => (match keysOf xs with
    | some kvs => z (mergeD kvs0 (mergeD [] kvs)) lh3
    | none => .stuck) else .stuck
  | none => .stuck
theorem fe_dispU [L : LamC] [S : Susp] {X : Cx} {Wx : WX} {pos : Pos} {d k v : Expr} {fd fk fv : EN → LH → Res LV} {z : List (PV × LV) → LH → Res LV} (hz : ZEndD X.K X.mg z) (hd : FE X Wx d fd) (hk : FE X Wx k fk) (hv : FE X Wx v fv) : FE X Wx (.Dict [none, some k] [d, v] pos) (fDispU z fd fk fv) := by
  refine PE.imp (pe_dispU hd hk hv) fun σ H Q ⟨W, env, lh, hH, sr, h⟩ => ?_
  subst hH
  intro p hp
  have mk := Z.Mk.start (u := .dK []) sr.lh hp
  have t1 : ∀ a, a ∈ W.hd → W.H a ≠ none := fun a h => sr.lh.mu a (.inr h)
  refine ⟨⟨upd W.H p (.dK []), W.io, p :: W.hd⟩, env, lh, rfl, ⟨mk.lh, sr.sl.mono mk.ex⟩, ?_⟩
  unfold fDispU at h
  cases e : fd env lh with
  | exc y l => rw [e] at h; exact h.elim
  | stuck => rw [e] at h; exact h.elim
  | ok x lh1 =>
    rw [e] at h
    have h : tR X.K X.mg (LRep X.K X.mg) W (WE Wx σ) (match dctOf x lh1 with
      | some kvs0 => if kvs0.length + 15 ≤ sizeLine then (noX (fPairs [(fk, fv)] env lh1)).bind fun xs lh3 => (match keysOf xs with
        | some kvs => z (mergeD kvs0 (mergeD [] kvs)) lh3
        | none => .stuck) else .stuck
      | none => .stuck) Q := h
    split at h
    · next kvs0 hk0 =>
      split at h
      · next hlen =>
        cases e2 : fPairs [(fk, fv)] env lh1 with
        | exc y l => rw [e2] at h; exact h.elim
        | stuck => rw [e2] at h; exact h.elim
        | ok xs lh3 =>
          rw [e2] at h
          have h : tR X.K X.mg (LRep X.K X.mg) W (WE Wx σ) (match keysOf xs with
            | some kvs => z (mergeD kvs0 (mergeD [] kvs)) lh3
            | none => .stuck) Q := h
          split at h
          · next kvs hkv =>
            intro vx W2 x1 l1 r1
            have mk2 := mk.step x1 l1
            obtain ⟨a, hs, rfl, rd, rel⟩ := dct_rd l1 r1 hk0
            have hpm : p ∈ W2.hd := by rw [mk2.hd]; exact List.mem_cons_self ..
            have hne : a ≠ p := fun z => by
              subst z
              have hmu : W2.Mu a := .inr hpm
              cases x with
              | pv q =>
                cases q with
                | dct ys => cases r1 with | dct _ n _ => exact n hmu
                | _ => cases hk0
              | ref n =>
                have hk0 : (match lh1[n]? with
                  | some (.dct kvs) => some kvs
                  | _ => none) = some kvs0 := hk0
                split at hk0
                · next kk hkk =>
                  obtain ⟨a', u, h1, h2, _, hn2⟩ := io_at l1 hkk (by intro z; cases z)
                  have ha : V.ref a = V.ref a' := r1.2 a' h1
                  cases ha
                  exact (l1.hid a hpm).2 (List.mem_of_getElem? h1)
                · cases hk0
            refine ⟨a, hs, rfl, hne, rd, mk2.at_, ?_⟩
            have mk3 := mk2.put hp t1 (.dK hs)
            intro q hq
            have t3 : ∀ a, a ∈ W2.hd → (upd W2.H p (.dK hs)) a ≠ none := fun a h => mk3.lh.mu a (.inr h)
            have mkq := Z.Mk.start (u := .dK []) mk3.lh hq
            refine tPairs_of (K := X.K) (mg := X.mg) (W := ⟨upd (upd W2.H p (.dK hs)) q (.dK []), W2.io, q :: W2.hd⟩) [(fk, fv)] ⟨mkq.lh, sr.sl.mono (mk3.ex.trans mkq.ex)⟩ e2 fun W5 vs x5 l5 r5 => ?_
            have mkq5 := mkq.step x5 l5
            obtain ⟨hs2, f1, f2, f3⟩ := keysOf_rep r5 hkv
            have hqp : q ≠ p := fun z => by
              subst z
              have hq : upd W2.H q (.dK hs) q = none := hq
              rw [upd_same] at hq
              cases hq
            have atp : W5.H p = some (.dK hs) := (mkq5.old p hpm).trans upd_same
            have hx : xs.length ≤ 1 := by
              have : xs.length = 1 := by
                obtain ⟨k1, l1, e1, h⟩ := bind_ok_of e2
                obtain ⟨v1, l2, e3, h⟩ := bind_ok_of h
                obtain ⟨ys, l3, e4, h⟩ := bind_ok_of h
                cases e4
                cases h
                rfl
              omega
            refine ⟨mkq5.at_, atp, hqp, hs2, f1, by omega, by rw [← lrepD_len rel]; exact hlen, ?_⟩
            have mkq6 := mkq5.put hq t3 (.dK (mergeK [] hs2))
            obtain ⟨e7, l7, _, _⟩ := mkq6.froze hq t3
            have mk7 := mk3.step e7 l7
            have mk8 := mk7.put hp t1 (.dK (mergeK hs (mergeK [] hs2)))
            have ex67 : Ex ⟨upd W5.H q (.dK (mergeK [] hs2)), W5.io, W5.hd⟩ ⟨upd W5.H q (.dK (mergeK [] hs2)), W5.io, W2.hd⟩ :=
              ⟨⟨fun a h => .inl (h.imp id fun h => by rw [mkq6.hd]; exact List.mem_cons_of_mem _ h), fun a o h _ => ⟨o, h, .inl rfl⟩⟩, fun _ h => h, Nat.le_refl _, fun _ _ _ h => h⟩
            have rk : LRepD X.K X.mg ⟨upd W5.H q (.dK (mergeK [] hs2)), W5.io, W2.hd⟩ (mergeD [] kvs) (mergeK [] hs2) := merge_rep ((f2.mono mkq5.put_ex).mono ex67) .nil
            have r0 : LRepD X.K X.mg ⟨upd W5.H q (.dK (mergeK [] hs2)), W5.io, W2.hd⟩ kvs0 hs := (rel.mono mk2.put_ex).mono e7.toEx
            exact hz W _ lh3 _ (mergeK hs (mergeK [] hs2)) p _ Q mk8 hp t1 ((merge_rep rk r0).mono mk7.put_ex) h
          · exact h.elim
      · exact h.elim
    · exact h.elim
end Z
namespace Z
open PySem PySem.Spec PyProof.Rows L2
end Z
namespace L2
open PySem PySem.Spec PyProof.Rows
end L2
namespace Z
open PySem PySem.Spec PyProof.Rows L2
end Z
namespace Z
open PySem PySem.Spec PyProof.Rows L2
end Z
namespace Z
open PySem PySem.Spec PyProof.Rows L2
/-- a def's promise where no repr is under way -/
structure FnG (P : Program) (w : World) (K : PySem.W.Frag) (mg : Str → Option Value) (base : Heap) (CX : CXT) (k : Nat) (f : Addr) (fd : FuncData) (ps : List Str) (sp : Sp) : Prop where
  lenG : ∀ vs H Q E, sp vs H Q E → vs.length = ps.length
  runG : ∀ (A : Around) (out : List Env) (s : Shared) (H : Hp) (ar : Args) (us : List Value) (vs : List V) (Q : VK) (E : XK), A.guards = some [] → Room k A → Env0 P w K mg base A out s H → BindsTo s fd ar (ps.zip us) → Vals vs us → sp vs H Q E →
    codeAny (model P w) A (.call (.ref f) ar) (CR CX out P w H s Q E) s
theorem FnG.of {P : Program} {w : World} {K : PySem.W.Frag} {mg : Str → Option Value} {base : Heap} {CX : CXT} {k : Nat} {f : Addr} {fd : FuncData} {ps : List Str} {sp : Sp} (F : FnOk P w K mg base CX k f fd ps sp) : FnG P w K mg base CX k f fd ps sp :=
  ⟨F.len, fun A out s H ar us vs Q E _ => F.run A out s H ar us vs Q E⟩
theorem fnG_of {CX : CXT} {P : Program} {w : World} {K : PySem.W.Frag} {mg : Str → Option Value} {base : Heap} {k : Nat} {f : Addr} {nm ql : Str} {par : Arguments} {bd : List Stmt} {sco : Scope} {dv kv dc pm cv ct oc : Value} {an od : Option Addr}
    {sl : Array (Option Value)} {N ps : List Str} {sp : Sp} (lk : K.lookup f = some ⟨oc, od, .func (PySem.W.fnOf nm ql par bd sco dv kv dc pm an cv ct), sl⟩) (hcd : PySem.W.codeIn K cv ql = true) (S : FnScope N ps sco)
    (hlen : ∀ vs H Q E, sp vs H Q E → vs.length = ps.length)
    (hb : ∀ (A : Around) (out : List Env) (s : Shared) (H : Hp) (vs : List V) (Q : VK) (E : XK), A.guards = some [] → Room k (A.deeper (envOfC ql sco s.heap.objs.size f cv)) → sp vs H Q E →
      ∃ t, PSs (cxOf CX P w K mg base N ql sco f cv A out s H E) bd t ∧ t { nx := fun _ h => Q .non h, rt := Q } (L2.start N vs) H) :
    FnG P w K mg base CX (k + 1) f (PySem.W.fnOf nm ql par bd sco dv kv dc pm an cv ct) ps sp where
  lenG := hlen
  runG A out s H ar us vs Q E hg hr e0 bt rv q := by
    have kept : ∀ b o, base.get? b = some o → s.heap.get? b = some o := fun b o z => (e0.bs b o z).1
    have kin : K.In s.heap := e0.mod.kin.keeps kept
    refine codeAny_call_function hr.depth (kin _ _ lk) rfl S.co S.gen rfl (PySem.W.codeRec_of kin hcd) (bt _ _ _ _ ?_)
    refine wpAny_newFunctionEnv_cells S.kind (fun y hy => ?_) fun env he s1 x => ?_
    · obtain ⟨n, v⟩ := y
      exact (S.par n (List.of_mem_zip hy).1).imp id fun z => ⟨z, PySem.W.cellsFrom_some _ _ _ (.inl z)⟩
    · subst he
      obtain ⟨t, ht, hq⟩ := hb A out s H vs Q E hg (hr.deeper _) q
      refine ⟨(e0.mod.nolimit.keeps kept).keeps x.toInCall.keep, codeAny_func (wpAny_mono (ht.run [] s1 (L2.start N vs) H _ (inv_start S hr.hd e0 (hlen _ _ _ _ q) rv x) hq) (fun fl s' z => ?_) fun e s' z => z)⟩
      cases fl with
      | next => let ⟨_, h, J, z⟩ := z; exact ⟨.non, h, J.os, J.bare, J.base, J.hok, rfl, z⟩
      | ret u => let ⟨v, _, h, J, r, z⟩ := z; exact ⟨v, h, J.os, J.bare, J.base, J.hok, r, z⟩
      | brk => let ⟨_, _, _, z⟩ := z; exact z.elim
      | cont => let ⟨_, _, _, z⟩ := z; exact z.elim
section
variable {P : Program} {w : World} {K : PySem.W.Frag} {mg : Str → Option Value} {base : Heap} {x qual : Str} {params : Arguments} {body : List Stmt} {scope : Scope} {dvs : List V} {kws : List (Str × V)} {f : Addr} {fd : FuncData}
theorem fn_zG [L : LamC] [S : Susp] {N ps : List Str} {k : Nat} {b : EN → LH → SRes} (F : FunD K x qual params body scope dvs kws f fd) (S : FnScope N ps scope)
    (hbody : ∀ (cdv : Value) (A : Around) (outer : List Env) (s : Shared) (H : Hp) (E : XK), A.guards = some [] → Room k (A.deeper (envOfC qual scope s.heap.objs.size f cdv)) →
      FSs (cxOf (L2.CX P w) P w K mg base N qual scope f cdv A outer s H E) WF body b) :
    FnG P w K mg base (L2.CX P w) (k + 1) f fd ps (SpZ K mg ps.length (mOf N.length (sNoX b))) := by
  obtain ⟨oc, od, dV, kV, doc, pm, an, cdv, ct, osl, rfl, lk, hcd, _, _⟩ := F.ex
  refine fnG_of lk hcd S (fun vs H Q E h => h.1) fun A outer s H vs Q E hg hr h => ⟨_, fss_noX (Wx := fun c d _ H => E c d H) (hbody cdv A outer s H E hg hr), ?_⟩
  obtain ⟨_, W, xs, lh, rfl, l, r, h⟩ := h
  exact z_body l r h
theorem fnG_cxf {k : Nat} {ps : List Str} {sp : Sp} (F : FnG P w K mg base (L2.CX P w) k f fd ps sp) : FnG P w K mg base CXF k f fd ps sp :=
  ⟨F.lenG, fun A out s H ar us vs Q E h0 h1 h2 h3 h4 h5 => codeAny_mono (F.runG A out s H ar us vs Q E h0 h1 h2 h3 h4 h5) fun r s' q => by
    cases r with
    | ok fl => cases fl <;> exact q
    | error e =>
      obtain ⟨_, _, H', c, d, _, _, _, _, _, _, _, z⟩ := q
      exact ⟨c, d, H', z⟩⟩
end
end Z
namespace Z
open PySem PySem.Spec PyProof.Rows L2
/-- the script's object -/
abbrev scO (vs : List Value) : Obj := { cls := .type "list", data := .seq vs.toArray }
abbrev noO : Obj := { cls := .none, data := .fields #[] }
/-- what is known of the heap at the law's call: the script (unless the module has it), the tables -/
def hp0 (K : PySem.W.Frag) (a : Addr) (vs : List Value) (ns : List Int) (T : List Addr) : Hp := fun b =>
  if b ∈ T then some (.tbl #[]) else if b = a ∧ K.lookup a = none then some (.frz (scO vs) (.lst (ns.map V.int))) else none
section
variable {P : Program} {w : World} {K : PySem.W.Frag} {mg mb : Str → Option Value} {a : Addr} {vs : List Value} {ns : List Int} {T : List Addr} {h : Heap}
theorem hp0_some {b : Addr} {u : HO} (z : hp0 K a vs ns T b = some u) : (b ∈ T ∧ u = .tbl #[]) ∨ (b = a ∧ K.lookup a = none ∧ u = .frz (scO vs) (.lst (ns.map V.int))) := by
  unfold hp0 at z
  split at z
  · next m => cases z; exact .inl ⟨m, rfl⟩
  · split at z
    · next m => cases z; exact .inr ⟨m.1, m.2, rfl⟩
    · cases z
theorem hp0_free {b : Addr} {o : Obj} (ho : h.get? a = some (scO vs)) (hT : ∀ t ∈ T, h.get? t = some noO) (e : h.get? b = some o) (n1 : ∀ x n, o.data ≠ .seq x n) (n2 : o.data ≠ .fields #[]) : hp0 K a vs ns T b = none := by
  cases z : hp0 K a vs ns T b with
  | none => rfl
  | some u =>
    rcases hp0_some z with ⟨m, _⟩ | ⟨rfl, _, _⟩
    · have q := (hT b m).symm.trans e
      cases q
      exact absurd rfl n2
    · have q := ho.symm.trans e
      cases q
      exact absurd rfl (n1 _ _)
end
theorem lawG_run {P : Program} {w : World} {K : PySem.W.Frag} {mg mb : Str → Option Value} {CX : CXT} {k : Nat} {fa a : Addr} {cs : List (Addr × Addr)} {fd : FuncData} {x : Str} {sp : Sp} {st : Shared} {vs : List Value} {ns : List Int}
    (kin : K.In st.heap) (gn : st.heap.Ns mainGlobals mg) (bn : st.heap.Ns builtinsNs mb) (bb : ∀ y : Str, y ≠ "__name__" → mb y = bootBuiltins y) (nl : st.heap.NoLimit) (g0 : st.gens = #[])
    (tT : ∀ p ∈ cs, st.heap.get? p.2 = some noO) (tN : ∀ p ∈ cs, K.lookup p.2 = none) (tC : ∀ p ∈ cs, PySem.W.CodeHd st.heap p.1 p.2)
    (bm : ∃ (m : Addr) (ob : Obj), mg "__builtins__" = some (.ref m) ∧ m ≠ builtinsNs ∧ st.heap.get? m = some ob ∧ ob.cls = .type "module" ∧ ob.dict = some builtinsNs ∧ ob.data = .plain)
    (obj : st.heap.get? a = some (scO vs)) (iar : IntsAre vs ns) (few : ns.length ≤ sizeLine) (hr : Room k callerA)
    (F : ∀ base : Heap, K.In base → base.Ns mainGlobals mg → (∀ p ∈ cs, LamX.TabB base mg p.1 p.2) → FnG P w K mg base CX k fa fd [x] sp) (bd : ∀ (s : Shared) (u : Value), BindsTo s fd ⟨[u], []⟩ [(x, u)])
    (hsp : ∀ H : Hp, (∀ p ∈ cs, H p.2 = some (.tbl #[])) → SqL K H a (ns.map V.int) → sp [.ref a] H (fun v _ => v = .bl true) fun _ _ _ => False) (noX : ∀ H e s', CX [] H st (fun _ _ _ => False) e s' → False) :
    codeAny (model P w) callerA (.call (.ref fa) ⟨[.ref a], []⟩) (fun r s' => r = .ok (.ret (.bool true)) ∧ OldK st.heap s'.heap ∧ s'.os = st.os ∧ AllBare s'.gens) st := by
  let T := cs.map (·.2)
  have hT : ∀ t ∈ T, st.heap.get? t = some noO := fun t ht => by
    obtain ⟨p, hp, rfl⟩ := List.mem_map.mp ht
    exact tT p hp
  have inT : ∀ p ∈ cs, p.2 ∈ T := fun p hp => List.mem_map.mpr ⟨p, hp, rfl⟩
  have aT : a ∉ T := fun z => by
    have q := obj.symm.trans (hT a z)
    cases q
  have vint := vals_ints iar
  have vlen := iar.length
  let H : Hp := hp0 K a vs ns T
  have atT : ∀ p ∈ cs, H p.2 = some (.tbl #[]) := fun p hp => if_pos (inT p hp)
  have fr : ∀ {b : Addr} {o : Obj}, st.heap.get? b = some o → (∀ x n, o.data ≠ .seq x n) → o.data ≠ .fields #[] → (hidT st.heap H).get? b = some o := fun e n1 n2 => hidT_get e (hp0_free obj hT e n1 n2)
  have nsF : ∀ {b : Addr} {m : Str → Option Value}, st.heap.Ns b m → (hidT st.heap H).Ns b m := fun {b m} z => by
    obtain ⟨o, es, ep, e, d, r⟩ := z
    exact ⟨o, es, ep, fr e (fun x n q => by rw [d] at q; cases q) (fun q => by rw [d] at q; cases q), d, r⟩
  have kinF : K.In (hidT st.heap H) := fun b o e => by
    refine hidT_get (kin b o e) ?_
    cases z : H b with
    | none => rfl
    | some u =>
      rcases hp0_some z with ⟨m, _⟩ | ⟨rfl, n, _⟩
      · obtain ⟨p, hp, rfl⟩ := List.mem_map.mp m
        rw [tN p hp] at e
        cases e
      · rw [n] at e
        cases e
  have sq : SqL K H a (ns.map V.int) := by
    cases kl : K.lookup a with
    | none => exact .inl (.inr ⟨scO vs, (if_neg aT).trans (if_pos ⟨rfl, kl⟩)⟩)
    | some o =>
      have q := obj.symm.trans (kin a o kl)
      cases q
      exact .inr ⟨_, vs.toArray, _, kl, rfl, rfl, rfl, by rw [List.size_toArray, vlen]; exact few, by simpa using vint⟩
  have hok : HOk P w H st.heap := fun b u z => by
    rcases hp0_some z with ⟨m, rfl⟩ | ⟨rfl, _, rfl⟩
    · exact hT b m
    · exact ⟨obj, by rw [List.length_map]; exact few, vs, _, vint, obj⟩
  have tab : ∀ p ∈ cs, LamX.TabB (hidT st.heap H) mg p.1 p.2 := fun p hp => by
    refine ⟨?_, ?_, fun q => ?_⟩
    · obtain ⟨o, us, f1, f2, f3, f4, f5, f6, f7, e, c1, c2, c3, rest⟩ := tC p hp
      refine ⟨o, us, f1, f2, f3, f4, f5, f6, f7, fr e (fun x n q => by rw [c2] at q; cases q) (fun q => ?_), c1, c2, c3, rest⟩
      rw [c2] at q
      cases q
      simp at c3
    · obtain ⟨m, ob, b1, b2, b3, b4, b5, b6⟩ := bm
      refine ⟨m, ob, b1, b2, fun q => ?_, fun q => ?_, fr b3 (fun x n q => by rw [b6] at q; cases q) (fun q => by rw [b6] at q; cases q), b4, b5, b6⟩
      · obtain ⟨o, es, ep, e, d, _⟩ := gn
        rw [← q, b3] at e
        cases e
        rw [d] at b6
        cases b6
      · have z := (tT p hp).symm.trans (q ▸ b3)
        cases z
        cases b6
    · obtain ⟨o, es, ep, e, d, _⟩ := gn
      have z := (tT p hp).symm.trans (q ▸ e)
      cases z
      cases d
  have e0 : Env0 P w K mg (hidT st.heap H) callerA [] st H := by
    obtain ⟨mc, l1, l2⟩ := nl
    refine ⟨rfl, ⟨kinF, nsF gn, ⟨mb, nsF bn, bb⟩, ⟨mc, nsF l1, l2⟩⟩, fun b o z => of_hidT z, Nat.le_of_eq (hidT_size _ _), trivial, fun b z => ?_, hok, .of_eq g0⟩
    cases z
  refine codeAny_mono ((F _ kinF (nsF gn) tab).runG callerA [] st H ⟨[.ref a], []⟩ [.ref a] [.ref a] _ _ rfl hr e0 (bd st (.ref a)) (.cons rfl .nil) (hsp H atT sq)) fun r s' z => ?_
  match r, z with
  | .error e, z => exact (noX H e s' z).elim
  | .ok (.ret u), z =>
    obtain ⟨v, H', so, sb, un, hok', rv, q⟩ := z
    cases (show v = .bl true from q)
    cases (show u = Value.bool true from rv)
    have noN : ∀ b : Addr, b ∉ frs ([] : List Env) := fun b z => by cases z
    have stay : ∀ b o, b ∉ T → st.heap.get? b = some o → s'.heap.get? b = some o := fun b o nb e => by
      cases q : H b with
      | none => exact un.keep b o e q (noN b) (by simp)
      | some u =>
        rcases hp0_some q with ⟨m, _⟩ | ⟨rfl, _, rfl⟩
        · exact absurd m nb
        · have q2 := (hok' b _ (un.frzs b _ _ q)).1
          rw [obj] at e
          cases e
          exact q2
    have grow : ∀ t ∈ T, ∃ more : Array Value, s'.heap.get? t = some { cls := .none, data := .fields more } := fun t ht => by
      obtain ⟨p, hp, rfl⟩ := List.mem_map.mp ht
      obtain ⟨more, z⟩ := un.tbls p.2 #[] (atT p hp)
      exact ⟨_, hok' p.2 _ z⟩
    refine ⟨rfl, ⟨fun b o e => ?_, fun b o e => ?_⟩, so, sb⟩
    · by_cases m : b ∈ T
      · obtain ⟨more, q⟩ := grow b m
        have z := (hT b m).symm.trans e
        cases z
        obtain ⟨p, hp, rfl⟩ := List.mem_map.mp m
        exact .inr (.inl ⟨((tC p hp).tab (tT p hp)).isCodeTable, rfl, #[], more, rfl, by rw [Array.empty_append]; exact q⟩)
      · exact .inl (stay b o m e)
    · by_cases m : b ∈ T
      · obtain ⟨more, q⟩ := grow b m
        exact ⟨_, q⟩
      · exact ⟨o, stay b o m e⟩
/-- what is wanted of a law's def that calls repr -/
def LawG (l : PySem.W.OpenLaw) (w : World) (K : PySem.W.Frag) (CX : CXT) (k n : Nat) (x : Str) (mg : Str → Option Value) (fa : Addr) (h : Heap) : Prop :=
  ∃ (fd : FuncData) (cs : List (Addr × Addr)) (sp : Sp), (∀ p ∈ cs, h.get? p.2 = some noO) ∧ (∀ p ∈ cs, K.lookup p.2 = none) ∧ (∀ p ∈ cs, PySem.W.CodeHd h p.1 p.2) ∧ (∀ (s : Shared) (u : Value), BindsTo s fd ⟨[u], []⟩ [(x, u)]) ∧
    (∀ (H : Hp) (a : Addr) (ns : List Int), ns.length ≤ n → (∀ z ∈ ns, Builtin.Int.intBits z ≤ 1048576) → (∀ p ∈ cs, H p.2 = some (.tbl #[])) → SqL K H a (ns.map V.int) → sp [.ref a] H (fun v _ => v = .bl true) fun _ _ _ => False) ∧
    ∀ base : Heap, K.In base → base.Ns mainGlobals mg → (∀ p ∈ cs, LamX.TabB base mg p.1 p.2) → FnG l.prog w K mg base CX k fa fd [x] sp
theorem walk_G {l : PySem.W.OpenLaw} {n k : Nat} {q : Program} {loose : List Str} {XP : (Str → Option Value) → Heap → Prop} {YP : World → Heap → Prop} {d : DefRec} {CX : World → CXT} {x : Str}
    (hn : l.most = some n) (hn2 : n ≤ sizeLine) (hdf : d.params.defaults = []) (hr : Room k callerA)
    (F : ∀ (w : World) (mg : Str → Option Value) (fa : Addr) (h : Heap), YP w h → h.Ns mainGlobals mg → mg d.name = some (.ref fa) → ∃ K : PySem.W.Frag, K.In h ∧ LawG l w K (CX w) k n x mg fa h)
    (noX : ∀ (w : World) (H : Hp) (s : Shared) (e : Value) (s' : Shared), CX w [] H s (fun _ _ _ => False) e s' → False) : PySem.W.WalkO q loose XP YP l.row.toRowW d [] fun f vs => PySem.call f vs :=
  Att.attach_callB hn hdf fun w _ st mg mb fa o pm cd doc a vs ns G Y ho hd hcd hmg obj iar few bits gs => by
    obtain ⟨K, kin, fd, cs, sp, t1, t2, t3, bd, hsp, hF⟩ := F w mg fa _ Y G.T.g hmg
    exact lawG_run kin G.T.g G.T.b G.T.builtins G.T.nolimit gs t1 t2 t3 G.T.bmain obj iar (Nat.le_trans few hn2) hr hF bd (fun H hH hS => hsp H a ns few bits hH hS) fun H e s' => noX w H st e s'
end Z
namespace Z
open PySem PySem.Spec PyProof.Rows L2
mutual
def datD : PV → Option PyData
  | .non => some .none
  | .bl b => some (.bool b)
  | .int i => some (.int i)
  | .str s => some (.str s)
  | .tup xs => (datDs xs).map .tuple
  | .lst xs => (datDs xs).map .list
  | .dct kvs => (datDk kvs).map .dict
  | _ => none
def datDs : List PV → Option (List PyData)
  | [] => some []
  | x :: r => (datD x).bind fun d => (datDs r).map fun ds => d :: ds
def datDk : List (PV × PV) → Option (List (PyData × PyData))
  | [] => some []
  | (k, x) :: r => (datD k).bind fun c => (datD x).bind fun d => (datDk r).map fun ds => (c, d) :: ds
end
def kD : Key → PyData
  | .inl i => .int i
  | .inr x => .str x
theorem datD_kP (k : Key) : datD (kP k) = some (kD k) := by cases k <;> rfl
theorem keyIs_rd {h : Heap} {k : Key} {u : Value} (e : keyIs k u = true) : Reads h u (kD k) [] := by
  rcases keyIs_shape e with ⟨i, t, rfl, rfl⟩ | ⟨x, t, rfl, rfl⟩
  · exact .int i t
  · exact .str x t
/-- the head knows the dict of modules -/
def SysK (K : PySem.W.Frag) : Prop := (K.lookup sysModules).isSome = true
section
variable {X : Cx} {pins : List (Addr × Obj)} {σ : L2.St} {W : Wd} {s : Shared}
theorem sys_free (hk : SysK X.K) (I : Inv X pins σ W.H s) : W.H sysModules = none := by
  obtain ⟨o, e⟩ := Option.isSome_iff_exists.mp hk
  exact (I.bs sysModules o (I.ok.mod.kin _ _ e)).2
theorem frl_ne (hk : SysK X.K) (I : Inv X pins σ W.H s) {a : Addr} {vs : List V} (f : FrL W a vs) : a ≠ sysModules := fun e => by
  have h := sys_free hk I
  rw [← e] at h
  exact rd_some f.1 h
mutual
theorem rep_rdD [L : LamC] [S : Susp] (hk : SysK X.K) (I : Inv X pins σ W.H s) : ∀ {p : PV} {v : V} {u : Value} {d : PyData}, Rep X.K X.mg W p v → RelV v u → datD p = some d → ∃ as, Reads s.heap u d as ∧ sysModules ∉ as
  | .non, _, _, _, .non, ru, h => by cases h; cases ru; exact ⟨_, .none, by simp⟩
  | .bl _, _, _, _, .bl, ru, h => by cases h; cases ru; exact ⟨_, .bool _, by simp⟩
  | .int _, _, _, _, .int, ru, h => by cases h; obtain ⟨t, rfl⟩ := ru; exact ⟨_, .int _ _, by simp⟩
  | .str _, _, _, _, .str, ru, h => by cases h; obtain ⟨t, rfl⟩ := ru; exact ⟨_, .str _ _, by simp⟩
  | .tup xs, _, _, _, .tup f r, ru, h => by
    obtain ⟨ds, e, rfl⟩ := Option.map_eq_some_iff.mp h
    cases ru
    obtain ⟨its, rv, ⟨o, h1, h2, n, h3⟩, _⟩ := I.tuple f.sq
    obtain ⟨as, q, n1⟩ := reps_rdD hk I r rv e
    exact ⟨as, .tuple h1 h2 h3 q, n1⟩
  | .lst xs, _, _, _, .lst f r, ru, h => by
    obtain ⟨ds, e, rfl⟩ := Option.map_eq_some_iff.mp h
    cases ru
    obtain ⟨its, rv, ⟨o, n, h1, h2, _, h3⟩, _⟩ := I.list (f.sq (K := X.K))
    obtain ⟨as, q, n1⟩ := reps_rdD hk I r rv e
    exact ⟨_, .list h1 h2 h3 q, fun z => by
      rcases List.mem_cons.mp z with z | z
      · exact frl_ne hk I f z.symm
      · exact n1 z⟩
  | .dct kvs, _, _, _, .dct (a := a) (hs := hs) f nm r, ru, h => by
    obtain ⟨ds, e, rfl⟩ := Option.map_eq_some_iff.mp h
    cases ru
    obtain ⟨_, s1, vs, kv, o, es, ep, h1, h2, h3, _, hp, _⟩ := (show ObjOk X.prog X.w W.H s.heap a (.dK hs) from f.ok I.hok)
    obtain ⟨as, bs, q1, q2, n1, n2⟩ := repd_rdD hk I r kv hp e
    refine ⟨_, .dict h1 h2.1 h3 q1 q2, fun z => ?_⟩
    rcases List.mem_cons.mp z with z | z
    · rw [← z] at s1
      exact absurd s1 (by simp)
    · rcases List.mem_append.mp z with z | z
      · exact n1 z
      · exact n2 z
  | .obj _ _, _, _, _, _, _, h | .glob _, _, _, _, _, _, h | .scr _, _, _, _, _, _, h | .dcT _, _, _, _, _, _, h | .bt _, _, _, _, _, _, h | .clo _ _, _, _, _, _, _, h | .exc _ _ _ _, _, _, _, _, _, h => by cases h
theorem reps_rdD [L : LamC] [S : Susp] (hk : SysK X.K) (I : Inv X pins σ W.H s) : ∀ {p : List PV} {v : List V} {u : List Value} {d : List PyData}, Reps X.K X.mg W p v → Vals v u → datDs p = some d → ∃ as, ReadsAll s.heap u d as ∧ sysModules ∉ as
  | [], _, _, _, .nil, .nil, h => by cases h; exact ⟨_, .nil, by simp⟩
  | x :: xs, _, _, _, .cons r t, .cons rv tv, h => by
    obtain ⟨d, e1, h⟩ := Option.bind_eq_some_iff.mp h
    obtain ⟨ds, e2, rfl⟩ := Option.map_eq_some_iff.mp h
    obtain ⟨as, q1, n1⟩ := rep_rdD hk I r rv e1
    obtain ⟨bs, q2, n2⟩ := reps_rdD hk I t tv e2
    exact ⟨_, .cons q1 q2, fun z => by
      rcases List.mem_append.mp z with z | z
      · exact n1 z
      · exact n2 z⟩
theorem repd_rdD [L : LamC] [S : Susp] (hk : SysK X.K) (I : Inv X pins σ W.H s) : ∀ {p : List (PV × PV)} {v : List (Key × V)} {vs : List (Key × Value)} {es : List DictEntry} {d : List (PyData × PyData)}, RepD X.K X.mg W p v → KV v vs → Pairs (mixKind X.prog X.w) es vs → datDk p = some d →
    ∃ as bs, ReadsAll s.heap (es.map (·.key)) (d.map (·.1)) as ∧ ReadsAll s.heap (es.map (·.val)) (d.map (·.2)) bs ∧ sysModules ∉ as ∧ sysModules ∉ bs
  | [], _, _, _, _, .nil, .nil, .nil, h => by cases h; exact ⟨_, _, .nil, .nil, by simp, by simp⟩
  | (_, x) :: xs, _, _, _, _, .cons (k := k) r t, .cons ⟨e, rv⟩ tv, .cons hk1 hv1 ps, h => by
    unfold datDk at h
    rw [datD_kP] at h
    obtain ⟨c, e0, h⟩ := Option.bind_eq_some_iff.mp h
    obtain ⟨d, e1, h⟩ := Option.bind_eq_some_iff.mp h
    obtain ⟨ds, e2, rfl⟩ := Option.map_eq_some_iff.mp h
    cases e0
    obtain ⟨as, q1, n1⟩ := rep_rdD hk I r rv e1
    obtain ⟨bs, cs, q2, q3, n2, n3⟩ := repd_rdD hk I t tv ps e2
    rw [← hv1] at q1
    have hk2 := keyIs_rd (h := s.heap) hk1
    rw [← e] at hk2
    refine ⟨_, _, .cons hk2 q2, .cons q1 q3, ?_, fun z => ?_⟩
    · simpa using n2
    · rcases List.mem_append.mp z with z | z
      · exact n1 z
      · exact n3 z
end
end
/-- the text of data -/
def shD (p : PV) : Str := ((datD p).map PyData.shown).getD Str.empty
def shB (p : PV) : Bool := match datD p with
  | some d => d.showable && decide (d.depth < 60) && decide (d.shown.length ≤ sizeLine)
  | none => false
theorem shB_iff {p : PV} (h : shB p = true) : ∃ d, datD p = some d ∧ d.showable = true ∧ d.depth < 60 ∧ d.shown.length ≤ sizeLine ∧ shD p = d.shown := by
  unfold shB at h
  split at h
  · next d e =>
    simp only [Bool.and_eq_true, decide_eq_true_eq] at h
    exact ⟨d, e, h.1.1, h.1.2, h.2, by unfold shD; rw [e]; rfl⟩
  · cases h
theorem shB_of {p : PV} {d : PyData} (e : datD p = some d) (h1 : d.showable = true) (h2 : d.depth < 60) (h3 : d.shown.length ≤ sizeLine) : shB p = true := by
  unfold shB
  rw [e]
  simp [h1, h2, h3]
section
variable {X : Cx} {k : Nat} {Wx : WX} {e : Expr} {fe : EN → LH → Res LV} {pos : Pos}
def zFmtD (x : LV) (lh : LH) : Res LV := match x with
  | .pv (.dct kvs) => if shB (.dct kvs) = true then .ok (.pv (.str (shD (.dct kvs)))) lh else .stuck
  | _ => .stuck
theorem fe_fmtD [L : LamC] [S : Susp] (hk : SysK X.K) (hr : Room k X.A) (hg : X.A.guards = some []) (he : FE X Wx e fe) : FE X Wx (.FormattedValue e (-1) none pos) (fUn zFmtD fe) := by
  refine ⟨fun pins s σ H Q I ⟨W, env, lh, hH, sr, h⟩ => ?_⟩
  subst hH
  refine wpAny_FormattedValue_plain (thn (he.run pins s σ W.H (fun x H1 => ∃ W1 kvs lh1, W1.H = H1 ∧ LhR X.K X.mg W1 lh1 ∧ Rep X.K X.mg W1 (.dct kvs) x ∧ shB (.dct kvs) = true ∧ Q (.str (shD (.dct kvs))) H1) I ⟨W, env, lh, rfl, sr, ?_⟩) fun v s1 hv => ?_)
  · unfold fUn at h
    cases q : fe env lh with
    | ok x lh1 =>
      rw [q] at h
      intro v W1 e1 l1 r1
      have h1 : tR X.K X.mg (LRep X.K X.mg) W1 (WE Wx σ) (zFmtD x lh1) Q := h.mono e1
      unfold zFmtD at h1
      split at h1
      · next kvs =>
        split at h1
        · next hz => exact ⟨W1, kvs, lh1, rfl, l1, r1, hz, fin h1 l1 Rep.str⟩
        · exact h1.elim
      · exact h1.elim
    | exc y lh1 =>
      rw [q] at h
      exact h
    | stuck =>
      rw [q] at h
      exact h.elim
  · obtain ⟨x, H1, I1, r1, W1, kvs, lh1, rfl, _, rp, hb, q⟩ := hv
    obtain ⟨d, hd, hs, hde, hz, et⟩ := shB_iff hb
    rw [et] at q
    obtain ⟨as, rd, nm⟩ := rep_rdD hk I1 rp r1 hd
    have hu := hr.un
    cases rp with
    | dct =>
      cases r1
      exact formatField_of_reads rd hs (fun _ => nm) hg (by omega) (fun _ _ e => e) (fun h' t tk hk => ⟨.str _, W1.H, I1.kept hk, ⟨_, rfl⟩, q⟩) hz
end
end Z
namespace Z
open PySem PySem.Spec PyProof.Rows L2
section
variable {X : Cx} {k : Nat} {f g : Addr} {fd : FuncData} {ps : List Str} {sp : Sp} {m z : List LV → LH → Res LV} {c : Str}
theorem runG_at {CX : CXT} {A : Around} {E : L2.St → XK} {pins : List (Addr × Obj)} {σ : L2.St} {H : Hp} {s : Shared} {Q : VK} {us : List Value} {vs : List V} (F : FnG X.prog X.w X.K X.mg X.base CX k f fd ps sp) (hg : A.guards = some []) (hr : Room k A) (hA : A.frames = X.A.frames) (hb : Binds X.K fd ps []) (hx : PassesAt CX X σ (E σ))
    (I : Inv X pins σ H s) (r : Vals vs us) (h : sp vs H Q (E σ)) : wpAny (model X.prog X.w) A (call (.ref f) us) (EP X pins σ Q) X.xe s := by
  have len : us.length = ps.length := by rw [← r.length]; exact F.lenG _ _ _ _ h
  have en := I.env0
  have e0 : Env0 X.prog X.w X.K X.mg X.base A X.stack s H := ⟨by rw [hA]; exact en.frames, en.mod, en.bs, en.bsz, en.funs, en.frf, en.hok, en.bare⟩
  have bt : BindsTo s fd ⟨us, []⟩ (ps.zip us) := by have := hb s us I.kIn (by simpa using len); simpa using this
  refine wpAny_call (codeAny_mono (F.runG A X.stack s H ⟨us, []⟩ us vs Q (E σ) hg hr e0 bt r h) fun o s' hq => ?_)
  match o, hq with
  | .error e, hq => exact hx pins H s e s' I hq
  | .ok (.ret u), hq => exact I.after hq
/-- repr of an own instance whose __repr__ writes data -/
def MthsG [L : LamC] [S : Susp] (P : Program) (w : World) (K : PySem.W.Frag) (mg : Str → Option Value) (base : Heap) (cs : List Str) (m : Str) (ps : List Str) (k : Nat) (z : List LV → LH → Res LV) : Prop :=
  ∃ (g : Addr) (fd : FuncData), MthsF K mg cs m g ∧ L2.Binds K fd ps [] ∧ FnG P w K mg base (L2.CX P w) k g fd ps (SpZ K mg ps.length z)
theorem call_ownReprG (F : FnG X.prog X.w X.K X.mg X.base (L2.CX X.prog X.w) k g fd ps sp) (hG : X.A.guards = some []) (hr : Room (k + 2) X.A) (hb : Binds X.K fd ps []) : CallR X (.builtin "repr") (rOwnS X.K "__repr__" g sp) := by
  intro pins s σ H xs us Q J r h
  obtain ⟨a, C, dx, fs, rfl, hH, cl, mt, hsp⟩ := h
  rw [Vals.ref1 r]
  obtain ⟨m, fr⟩ := J.fr
  obtain ⟨od, I⟩ := inst_at J hH
  refine PySem.W.repr_K hr.in1.units0 fr J.ok.mod.kin I mt.at_ mt.fn (wpAny_mono (runG_at (us := [.ref a]) (vs := [.ref a]) (E := WE WF) F hG (hr.in1.mono (Nat.le_succ _)) rfl hb (passAt takes0 σ) J (.cons rfl .nil) hsp) (fun r1 s1 ⟨w, H1, J1, r2, y, ey, q⟩ => ?_) fun _ _ z => z)
  subst ey
  obtain ⟨t, rfl⟩ := r2
  exact ⟨.str y, H1, J1, ⟨t, rfl⟩, q⟩
theorem cz_ownReprG [L : LamC] [S : Susp] {cs : List Str} (D : MthsG X.prog X.w X.K X.mg X.base cs "__repr__" ps k z) (hG : X.A.guards = some []) (hr : Room (k + 2) X.A) (hp : ps.length = 1) : CallZ X (.builtin "repr") (zOwnS cs z) := by
  obtain ⟨g, fd, hm, hb, F⟩ := D
  exact .of (call_ownReprG F hG hr hb) fun W E xs lh vs Q l r q => zOwnS_end hm hp l r q
end
end Z
namespace K05
open PySem PySem.Spec PyProof.Rows L2 Z
def p_WORDS : PV := .tup [.str "yes", .str "not", .str "and", .str "or", .str "near", .str "any", .str "back", .str "then", .str "either", .str "again", .str "leap", .str "paint", .str "redraw", .str "when", .str "do", .str "else", .str "end"]
def b_mk_Web_marks_ties (xs zs : List LV) : List LV := xs ++ zs
def N_law_bag : List Str := ["_law_script", "_law_mixed", "_law_cell"]
def b_law_bag : EN → LH → SRes := (sSeq (sAsg (fC (.int 4934)) (gN 1))
  (sSeq (sFor (fSrc (fSl (fName 0) none (some (fC (.int 63))))) (gN 2)
  (sAsg (fBin (zII gMod) (fArgs zInt (fCons (fBin zAdd (fBin zAdd (fBin (zII gMul) (fName 1) (fC (.int 52361))) (fBin (zII gMul) (fBin (zII gMod) (fArgs zInt (fCons (fName 2) fNil)) (fC (.int 1000193))) (fC (.int 877)))) (fC (.int 29))) fNil)) (fC (.int 2147483587))) (gN 1)))
  (sRet (fArgs zLstM (fCons (fArgs zListCD (fCons (fSl (fName 0) none (some (fC (.int 63)))) fNil)) (fCons (fC (.int 0)) (fCons (fC (.int 0)) (fCons (fName 1) (fCons (fC (.int 0)) fNil)))))))))
def m_law_bag : List LV → LH → Res LV := mOf 3 (sNoX b_law_bag)
def N_law_draw : List Str := ["_law_bag_here", "_law_many", "_law_cell", "_law_digit", "_law_twice"]
def b_law_draw : EN → LH → SRes := (sSeq (sAsg (fBin zAdd (fBin zIx (fName 0) (fC (.int 4))) (fC (.int 1))) (gSubZ (fName 0) (fC (.int 4))))
  (sSeq (sIf (tAndZ (tV (fBin (zEqD false) (fBin zIx (fName 0) (fC (.int 2))) (fC (.int 0)))) (tV (fBin (zII gLt) (fBin zIx (fName 0) (fC (.int 1))) (fArgs zLenA (fCons (fBin zIx (fName 0) (fC (.int 0))) fNil)))))
  (sSeq (sAsg (fBin zIx (fBin zIx (fName 0) (fC (.int 0))) (fBin zIx (fName 0) (fC (.int 1)))) (gN 2))
  (sSeq (sAsg (fBin zAdd (fBin zIx (fName 0) (fC (.int 1))) (fC (.int 1))) (gSubZ (fName 0) (fC (.int 1))))
  (sIf (tV (fBin (zII gGe) (fArgs zAbs (fCons (fName 2) fNil)) (fBin (zII gPow) (fC (.int 10)) (fC (.int 18)))))
  (sAsg (fArgs zAbs (fCons (fName 2) fNil)) (gSubZ (fName 0) (fC (.int 2))))
  (sAsg (fBin (zII gMod) (fArgs zInt (fCons (fBin zAdd (fBin zAdd (fBin (zII gMul) (fBin zIx (fName 0) (fC (.int 3))) (fC (.int 43261))) (fBin (zII gMul) (fBin (zII gMod) (fArgs zInt (fCons (fName 2) fNil)) (fC (.int 1000193))) (fC (.int 757)))) (fC (.int 41))) fNil)) (fC (.int 2147483629))) (gSubZ (fName 0) (fC (.int 3)))))))
  sNext)
  (sSeq (sIf (tV (fBin (zII gGt) (fBin zIx (fName 0) (fC (.int 2))) (fC (.int 0))))
  (sSeq (sAsg (fBin (zII gMod) (fArgs zInt (fCons (fBin zIx (fName 0) (fC (.int 2))) fNil)) (fName 1)) (gN 3))
  (sSeq (sAsg (fBin (zII gDiv) (fBin zIx (fName 0) (fC (.int 2))) (fName 1)) (gSubZ (fName 0) (fC (.int 2))))
  (sRet (fName 3))))
  sNext)
  (sSeq (sAsg (fBin (zII gMod) (fArgs zInt (fCons (fBin zAdd (fBin (zII gMul) (fBin zIx (fName 0) (fC (.int 3))) (fBin zIx (fName 0) (fC (.int 3)))) (fBin (zII gMul) (fBin zIx (fName 0) (fC (.int 4))) (fC (.int 9103)))) fNil)) (fC (.int 2147483549))) (gN 4))
  (sSeq (sAsg (fBin (zII gMod) (fArgs zInt (fCons (fBin zAdd (fBin zAdd (fBin (zII gMul) (fName 4) (fC (.int 17783))) (fBin (zII gMul) (fBin zIx (fName 0) (fC (.int 3))) (fC (.int 59183)))) (fC (.int 53029))) fNil)) (fC (.int 2147483629))) (gSubZ (fName 0) (fC (.int 3))))
  (sRet (fBin (zII gMod) (fArgs zInt (fCons (fBin (zII gDiv) (fBin zIx (fName 0) (fC (.int 3))) (fC (.int 64))) fNil)) (fName 1))))))))
def m_law_draw : List LV → LH → Res LV := mOf 5 (sNoX b_law_draw)
def N_law_one : List Str := ["_law_bag_here", "_law_things"]
def b_law_one : EN → LH → SRes := (sRet (fBin zIx (fName 1) (fCallD m_law_draw [] (fCons (fName 0) (fCons (fArgs zLenA (fCons (fName 1) fNil)) fNil)))))
def m_law_one : List LV → LH → Res LV := mOf 2 (sNoX b_law_one)
def N_law_names : List Str := ["_law_bag_here"]
def b_law_names : EN → LH → SRes := (sRet (fCallD m_law_one [] (fCons (fName 0) (fCons (fArgs zLst (fCons (fArgs zLst (fCons (fC (.str "a")) (fCons (fC (.str "b")) (fCons (fC (.str "k")) (fCons (fC (.str "m")) fNil))))) (fCons (fArgs zLst (fCons (fC (.str "b")) (fCons (fC (.str "a")) (fCons (fC (.str "m")) (fCons (fC (.str "k")) fNil))))) (fCons (fArgs zLst (fCons (fC (.str "a")) (fCons (fC (.str "b")) (fCons (fC (.str "a")) (fCons (fC (.str "b")) fNil))))) (fCons (fArgs zLst (fCons (fC (.str "q")) (fCons (fC (.str "qa")) (fCons (fC (.str "qa")) (fCons (fC (.str "qq")) fNil))))) (fCons (fArgs zLst (fCons (fC (.str "zebra")) (fCons (fC (.str "x")) (fCons (fC (.str "ties")) (fCons (fC (.str "tie")) fNil))))) (fCons (fArgs zLst (fCons (fC (.str "abcdefgh")) (fCons (fC (.str "h")) (fCons (fC (.str "ys")) (fCons (fC (.str "nots")) fNil))))) fNil))))))) fNil))))
def m_law_names : List LV → LH → Res LV := mOf 1 (sNoX b_law_names)
def N_law_square : List Str := ["_law_size", "_law_at"]
def b_law_square : EN → LH → SRes := (sRet (fLc zLst [1] (fRng (fCons (fBin (zII gMul) (fName 0) (fName 0)) fNil)) (gN 1) tYesZ (fArgs zTup (fCons (fBin (zII gDiv) (fName 1) (fName 0)) (fCons (fBin (zII gSub) (fName 1) (fBin (zII gMul) (fBin (zII gDiv) (fName 1) (fName 0)) (fName 0))) fNil)))))
def m_law_square : List LV → LH → Res LV := mOf 2 (sNoX b_law_square)
def N_law_plain : List Str := ["_law_bag_here", "_law_names_here", "_law_top", "_law_size", "_law_spots", "_law_cords", "_law_name", "_law_node", "_law_many", "_law_x", "_law_y"]
def b_law_plain : EN → LH → SRes := (sSeq (sAsg (fBin zAdd (fC (.int 1)) (fCallD m_law_draw [] (fCons (fName 0) (fCons (fName 2) fNil)))) (gN 3))
  (sSeq (sPar 4 5 (fCons fMkD (fCons fMkD fNil)))
  (sSeq (sFor (fSrc (fSl (fName 1) none (some (fC (.int 2))))) (gN 6)
  (sAsg (fLc zLst [7] (fRng (fCons (fName 3) fNil)) (gN 7) (tV (fBin (zEqD false) (fCallD m_law_draw [] (fCons (fName 0) (fCons (fC (.int 2)) fNil))) (fC (.int 1)))) (fName 7)) (gSubZ (fName 4) (fName 6))))
  (sSeq (sFor (fSrc (fSl (fName 1) (some (fC (.int 2))) none)) (gN 6)
  (sSeq (sAsg (fCallD m_law_one [] (fCons (fName 0) (fCons (fArgs zLst (fCons (fC (.int 2)) (fCons (fC (.int 3)) (fCons (fC (.int 5)) fNil)))) fNil))) (gN 8))
  (sAsg (fLc zLst [9, 10] (fSrc (fCallD m_law_square [] (fCons (fName 3) fNil))) (gTupZ 2 (gCons (gN 9) (gCons (gN 10) gNil))) (tV (fBin (zEqD false) (fCallD m_law_draw [] (fCons (fName 0) (fCons (fName 8) fNil))) (fC (.int 0)))) (fArgs zTup (fCons (fName 9) (fCons (fName 10) fNil)))) (gSubZ (fName 5) (fName 6)))))
  (sRet (fArgs zTup (fCons (fName 3) (fCons (fFrz (fName 4)) (fCons (fFrz (fName 5)) fNil)))))))))
def m_law_plain : List LV → LH → Res LV := mOf 11 (sNoX b_law_plain)
def N_Web_eq : List Str := ["self", "other", "same"]
def b_Web_eq : EN → LH → SRes := (sSeq (sIf (tNotZ (tV (fArgs (zIsi ownK ownC) (fCons (fName 1) (fCons (fC (.glob "Web")) fNil)))))
  (sRet (fC (.bl false)))
  sNext)
  (sSeq (sAsg (fAnd (fBin (zEqD false) (fFld ["Web"] "own_size" (fName 0)) (fFld ["Web"] "own_size" (fName 1))) (fBin zEqW (fFld ["Web"] "own_marks" (fName 0)) (fFld ["Web"] "own_marks" (fName 1)))) (gN 2))
  (sRet (fAnd (fName 2) (fBin zEqW (fFld ["Web"] "own_ties" (fName 0)) (fFld ["Web"] "own_ties" (fName 1)))))))
def m_Web_eq : List LV → LH → Res LV := mOf 3 (sNoX b_Web_eq)
def N_is_name : List Str := ["value", "letter"]
def b_is_name : EN → LH → SRes := (sSeq (sIf (tOrZ (tNotZ (tV (fArgs (zIsi ownK ownC) (fCons (fName 0) (fCons (fC (.bt "str")) fNil))))) (tNotZ (tV (fChain (zII gLe) (zII gLe) (fC (.int 1)) (fArgs zLenA (fCons (fName 0) fNil)) (fC (.int 8))))))
  (sRet (fC (.bl false)))
  sNext)
  (sRet (fAnd (fBin (zIn true) (fName 0) (fC p_WORDS)) (fArgs (zAll fun bs => bs.all id) (fCons (fLc zLst [1] (fSrcS (fName 0)) (gN 1) tYesZ (fBin (zIn false) (fName 1) (fC (.str "abcdefghijklmnopqrstuvwxyz")))) fNil)))))
def m_is_name : List LV → LH → Res LV := mOf 2 (sNoX b_is_name)
def N_is_count : List Str := ["value", "least", "most"]
def b_is_count : EN → LH → SRes := (sRet (fAnd (fArgs (zIsi ownK ownC) (fCons (fName 0) (fCons (fC (.bt "int")) fNil))) (fAnd (fNot (fArgs (zIsi ownK ownC) (fCons (fName 0) (fCons (fC (.bt "bool")) fNil)))) (fChain (zII gLe) (zII gLe) (fName 1) (fName 0) (fName 2)))))
def m_is_count : List LV → LH → Res LV := mOf 3 (sNoX b_is_count)
def N_check_node : List Str := ["size", "node"]
def b_check_node : EN → LH → SRes := (sIf (tNotZ (tV (fCallD m_is_count [] (fCons (fName 1) (fCons (fC (.int 0)) (fCons (fBin (zII gSub) (fName 0) (fC (.int 1))) fNil))))))
  (sRaise "InvalidNode" "InvalidNode" ["node"] (fCons (fName 1) fNil))
  sNext)
def m_check_node : List LV → LH → Res LV := mOfE 2 b_check_node
def N_clean_marks : List Str := ["size", "marks", "name", "node"]
def b_clean_marks : EN → LH → SRes := (sSeq (sFor (fSrcD kyD (fName 1)) (gN 2)
  (sSeq (sIf (tNotZ (tV (fCallD m_is_name [] (fCons (fName 2) fNil))))
  sStuck
  sNext)
  (sFor (fSrc (fBin zIx (fName 1) (fName 2))) (gN 3)
  (sExpr (fCallD m_check_node [] (fCons (fName 0) (fCons (fName 3) fNil)))))))
  (sRet (fDc zDc [2] (fSrc (fArgs zSorted (fCons (fName 1) fNil))) (gN 2) (tV (fBin (zII gGt) (fArgs zLenA (fCons (fBin zIx (fName 1) (fName 2)) fNil)) (fC (.int 0)))) (fName 2) (fArgs zSortSet (fCons (fBin zIx (fName 1) (fName 2)) fNil)))))
def m_clean_marks : List LV → LH → Res LV := mOfE 4 b_clean_marks
def N_check_pair : List Str := ["size", "pair"]
def b_check_pair : EN → LH → SRes := (sSeq (sIf (tOrZ (tNotZ (tV (fArgs (zIsi ownK ownC) (fCons (fName 1) (fCons (fC (.bt "tuple")) fNil))))) (tV (fBin (zEqD true) (fArgs zLenA (fCons (fName 1) fNil)) (fC (.int 2)))))
  (sRaise "InvalidTie" "InvalidTie" ["tie"] (fCons (fName 1) fNil))
  sNext)
  (sIf (tOrZ (tNotZ (tV (fCallD m_is_count [] (fCons (fBin zIx (fName 1) (fC (.int 0))) (fCons (fC (.int 0)) (fCons (fBin (zII gSub) (fName 0) (fC (.int 1))) fNil)))))) (tNotZ (tV (fCallD m_is_count [] (fCons (fBin zIx (fName 1) (fC (.int 1))) (fCons (fC (.int 0)) (fCons (fBin (zII gSub) (fName 0) (fC (.int 1))) fNil)))))))
  (sRaise "InvalidTie" "InvalidTie" ["tie"] (fCons (fName 1) fNil))
  sNext))
def m_check_pair : List LV → LH → Res LV := mOfE 2 b_check_pair
def N_clean_ties : List Str := ["size", "ties", "kind", "pair"]
def b_clean_ties : EN → LH → SRes := (sSeq (sFor (fSrcD kyD (fName 1)) (gN 2)
  (sSeq (sIf (tNotZ (tV (fCallD m_is_name [] (fCons (fName 2) fNil))))
  sStuck
  sNext)
  (sFor (fSrc (fBin zIx (fName 1) (fName 2))) (gN 3)
  (sExpr (fCallD m_check_pair [] (fCons (fName 0) (fCons (fName 3) fNil)))))))
  (sRet (fDc zDc [2] (fSrc (fArgs zSorted (fCons (fName 1) fNil))) (gN 2) (tV (fBin (zII gGt) (fArgs zLenA (fCons (fBin zIx (fName 1) (fName 2)) fNil)) (fC (.int 0)))) (fName 2) (fArgs zSortSet (fCons (fBin zIx (fName 1) (fName 2)) fNil)))))
def m_clean_ties : List LV → LH → Res LV := mOfE 4 b_clean_ties
def N_Web_init : List Str := ["self", "size", "marks", "ties"]
def b_Web_init : EN → LH → SRes := (sSeq (sIf (tNotZ (tV (fCallD m_is_count [] (fCons (fName 1) (fCons (fC (.int 1)) (fCons (fC (.int 300)) fNil))))))
  sStuck
  sNext)
  (sSeq (sFldZ ["Web"] "own_size" (fName 0) (fName 1))
  (sSeq (sFldZ ["Web"] "own_marks" (fName 0) (fCallD m_clean_marks [] (fCons (fName 1) (fCons (fIfE (tV (fBin (zIsN false) (fName 2) (fC .non))) fMkD0 (fName 2)) fNil))))
  (sFldZ ["Web"] "own_ties" (fName 0) (fCallD m_clean_ties [] (fCons (fName 1) (fCons (fIfE (tV (fBin (zIsN false) (fName 3) (fC .non))) fMkD0 (fName 3)) fNil)))))))
def m_Web_init : List LV → LH → Res LV := mOfE 4 b_Web_init
def N_law_web : List Str := ["_law_plain_here", "_law_spots", "_law_cords", "_law_name"]
def b_law_web : EN → LH → SRes := (sSeq (sPar 1 2 (fCons fMkD (fCons fMkD fNil)))
  (sSeq (sFor (fSrcD kyD (fBin zIx (fName 0) (fC (.int 1)))) (gN 3)
  (sAsg (fArgs zListCD (fCons (fBin zIx (fBin zIx (fName 0) (fC (.int 1))) (fName 3)) fNil)) (gSubZ (fName 1) (fName 3))))
  (sSeq (sFor (fSrcD kyD (fBin zIx (fName 0) (fC (.int 2)))) (gN 3)
  (sAsg (fArgs zListCD (fCons (fBin zIx (fBin zIx (fName 0) (fC (.int 2))) (fName 3)) fNil)) (gSubZ (fName 2) (fName 3))))
  (sRet (fMakeK (zMakeF "Web" m_Web_init) b_mk_Web_marks_ties (fCons (fBin zIx (fName 0) (fC (.int 0))) fNil) (fCons (fFrz (fName 1)) (fCons (fFrz (fName 2)) fNil)))))))
def m_law_web : List LV → LH → Res LV := mOf 4 (sNoX b_law_web)
def N_Web_painted : List Str := ["self", "name", "nodes"]
def b_Web_painted : EN → LH → SRes := (sSeq (sIf (tNotZ (tV (fCallD m_is_name [] (fCons (fName 1) fNil))))
  (sRaise "InvalidName" "InvalidName" ["name"] (fCons (fName 1) fNil))
  sNext)
  (sRet (fMakeK (zMakeF "Web" m_Web_init) b_mk_Web_marks_ties (fCons (fFld ["Web"] "own_size" (fName 0)) fNil) (fCons (fDispU zDc (fFld ["Web"] "own_marks" (fName 0)) (fName 1) (fArgs zListCD (fCons (fName 2) fNil))) (fCons (fFld ["Web"] "own_ties" (fName 0)) fNil)))))
def m_Web_painted : List LV → LH → Res LV := mOfE 3 b_Web_painted
def N_Web_redrawn : List Str := ["self", "name", "pairs"]
def b_Web_redrawn : EN → LH → SRes := (sSeq (sIf (tNotZ (tV (fCallD m_is_name [] (fCons (fName 1) fNil))))
  (sRaise "InvalidName" "InvalidName" ["name"] (fCons (fName 1) fNil))
  sNext)
  (sRet (fMakeK (zMakeF "Web" m_Web_init) b_mk_Web_marks_ties (fCons (fFld ["Web"] "own_size" (fName 0)) fNil) (fCons (fFld ["Web"] "own_marks" (fName 0)) (fCons (fDispU zDc (fFld ["Web"] "own_ties" (fName 0)) (fName 1) (fArgs zListCD (fCons (fName 2) fNil))) fNil)))))
def m_Web_redrawn : List LV → LH → Res LV := mOfE 3 b_Web_redrawn
def N_Web_repr : List Str := ["self"]
def b_Web_repr : EN → LH → SRes := (sRet (jsL [(fC (.str "Web(")), (fUn zFmt (fFld ["Web"] "own_size" (fName 0))), (fC (.str ", marks=")), (fUn zFmtD (fFld ["Web"] "own_marks" (fName 0))), (fC (.str ", ties=")), (fUn zFmtD (fFld ["Web"] "own_ties" (fName 0))), (fC (.str ")"))] Str.empty))
def m_Web_repr : List LV → LH → Res LV := mOf 1 (sNoX b_Web_repr)
def N_law : List Str := ["_law_script", "_law_bag_here", "_law_lap", "_law_names_here", "_law_plain_here", "_law_size", "_law_web_here", "_law_node", "_law_name", "_law_kind", "_law_pair", "_law_flipped", "_law_x", "_law_own", "_law_tied", "_law_one_here", "_law_others", "_law_other", "_law_value"]
def b_law : EN → LH → SRes := (sSeq (sAsg (fCallD m_law_bag [] (fCons (fName 0) fNil)) (gN 1))
  (sSeq (sFor (fRng (fCons (fC (.int 4)) fNil)) (gN 2)
  (sSeq (sAsg (fCallD m_law_names [] (fCons (fName 1) fNil)) (gN 3))
  (sSeq (sAsg (fCallD m_law_plain [] (fCons (fName 1) (fCons (fName 3) (fCons (fC (.int 4)) fNil)))) (gN 4))
  (sSeq (sAsg (fArgs zTup (fCons (fBin zIx (fName 4) (fC (.int 0))) (fCons (fCallD m_law_web [] (fCons (fName 4) fNil)) fNil))) (gTupZ 2 (gCons (gN 5) (gCons (gN 6) gNil))))
  (sSeq (sIf (tOrZ (tV (fBin (zOwnEq true ["Web"] ownK m_Web_eq) (fName 6) (fCallD m_law_web [] (fCons (fName 4) fNil)))) (tNotZ (tV (fBin (zOwnEq false ["Web"] ownK m_Web_eq) (fName 6) (fName 6)))))
  (sRet (fC (.bl false)))
  sNext)
  (sSeq (sAsg (fArgs zTup (fCons (fCallD m_law_draw [] (fCons (fName 1) (fCons (fName 5) fNil))) (fCons (fBin zIx (fName 3) (fCallD m_law_draw [] (fCons (fName 1) (fCons (fC (.int 2)) fNil)))) (fCons (fBin zIx (fName 3) (fBin zAdd (fC (.int 2)) (fCallD m_law_draw [] (fCons (fName 1) (fCons (fC (.int 2)) fNil))))) fNil)))) (gTupZ 3 (gCons (gN 7) (gCons (gN 8) (gCons (gN 9) gNil)))))
  (sSeq (sAsg (fArgs zTup (fCons (fName 7) (fCons (fCallD m_law_draw [] (fCons (fName 1) (fCons (fName 5) fNil))) fNil))) (gN 10))
  (sSeq (sAsg (fLc zLst [12] (fRng (fCons (fName 5) fNil)) (gN 12) (tV (fBin (zEqD true) (fBin (zIn false) (fName 12) (fGet2 (fBin zIx (fName 4) (fC (.int 1))) (fName 8) (fArgs zLst fNil))) (fBin (zEqD false) (fName 12) (fName 7)))) (fName 12)) (gN 11))
  (sSeq (sAsg (fGet2 (fBin zIx (fName 4) (fC (.int 2))) (fName 9) (fArgs zLst fNil)) (gN 13))
  (sSeq (sAsg (fLc zLst [15] (fSrc (fCallD m_law_square [] (fCons (fName 5) fNil))) (gN 15) (tV (fBin (zEqD true) (fBin (zIn false) (fName 15) (fName 13)) (fBin (zEqD false) (fName 15) (fName 10)))) (fName 15)) (gN 14))
  (sSeq (sAsg (fArgs zLst (fCons (fMethD "Web" "painted" m_Web_painted [] (fName 6) (fCons (fName 8) (fCons (fName 11) fNil))) (fCons (fMethD "Web" "redrawn" m_Web_redrawn [] (fName 6) (fCons (fName 9) (fCons (fName 14) fNil))) (fCons (fMakeK (zMakeF "Web" m_Web_init) b_mk_Web_marks_ties (fCons (fBin zAdd (fName 5) (fC (.int 1))) fNil) (fCons (fBin zIx (fName 4) (fC (.int 1))) (fCons (fBin zIx (fName 4) (fC (.int 2))) fNil))) fNil)))) (gN 16))
  (sSeq (sIf (tV (fBin (zIn false) (fC (.bl true)) (fLc zLst [17] (fSrc (fName 16)) (gN 17) tYesZ (fOr (fBin (zOwnEq false ["Web"] ownK m_Web_eq) (fName 17) (fName 6)) (fBin (zOwnEq false ["Web"] ownK m_Web_eq) (fName 6) (fName 17))))))
  (sRet (fC (.bl false)))
  sNext)
  (sSeq (sIf (tV (fBin (zOwnEq true ["Web"] ownK m_Web_eq) (fMethD "Web" "painted" m_Web_painted [] (fBin zIx (fName 16) (fC (.int 0))) (fCons (fName 8) (fCons (fBin zIx (fBin zIx (fName 4) (fC (.int 1))) (fName 8)) fNil))) (fName 6)))
  (sRet (fC (.bl false)))
  sNext)
  (sSeq (sIf (tV (fBin (zOwnEq true ["Web"] ownK m_Web_eq) (fMethD "Web" "redrawn" m_Web_redrawn [] (fBin zIx (fName 16) (fC (.int 1))) (fCons (fName 9) (fCons (fBin zIx (fBin zIx (fName 4) (fC (.int 2))) (fName 9)) fNil))) (fName 6)))
  (sRet (fC (.bl false)))
  sNext)
  (sIf (tV (fBin (zIn false) (fC (.bl true)) (fLc zLst [18] (fSrc (fArgs zLst (fCons (fC .non) (fCons (fName 5) (fCons (fArgs (zOwnS ["Web"] m_Web_repr) (fCons (fName 6) fNil)) (fCons (fArgs zTup (fCons (fName 5) (fCons (fBin zIx (fName 4) (fC (.int 1))) (fCons (fBin zIx (fName 4) (fC (.int 2))) fNil)))) fNil)))))) (gN 18) tYesZ (fBin (zOwnEq false ["Web"] ownK m_Web_eq) (fName 6) (fName 18)))))
  (sRet (fC (.bl false)))
  sNext)))))))))))))))
  (sRet (fC (.bl true)))))
def m_law : List LV → LH → Res LV := mOf 19 (sNoX b_law)
end K05
namespace K05
open PySem PySem.Spec PyProof.Rows L2 Z
structure Facts [L : LamC] [S : Susp] (P : Program) (w : World) (K : PySem.W.Frag) (mg : Str → Option Value) : Prop where
  F_law_bag : ∃ fd, FunD K "_law_bag" "_law_bag" (defArgs st_law_bag) (defBody st_law_bag) (defScope st_law_bag) [] [] (He.fAd K ("_law_bag", none)) fd
  g_law_bag : mg "_law_bag" = some (.ref (He.fAd K ("_law_bag", none)))
  F_law_draw : ∃ fd, FunD K "_law_draw" "_law_draw" (defArgs st_law_draw) (defBody st_law_draw) (defScope st_law_draw) [] [] (He.fAd K ("_law_draw", none)) fd
  g_law_draw : mg "_law_draw" = some (.ref (He.fAd K ("_law_draw", none)))
  F_law_one : ∃ fd, FunD K "_law_one" "_law_one" (defArgs st_law_one) (defBody st_law_one) (defScope st_law_one) [] [] (He.fAd K ("_law_one", none)) fd
  g_law_one : mg "_law_one" = some (.ref (He.fAd K ("_law_one", none)))
  F_law_names : ∃ fd, FunD K "_law_names" "_law_names" (defArgs st_law_names) (defBody st_law_names) (defScope st_law_names) [] [] (He.fAd K ("_law_names", none)) fd
  g_law_names : mg "_law_names" = some (.ref (He.fAd K ("_law_names", none)))
  F_law_square : ∃ fd, FunD K "_law_square" "_law_square" (defArgs st_law_square) (defBody st_law_square) (defScope st_law_square) [] [] (He.fAd K ("_law_square", none)) fd
  g_law_square : mg "_law_square" = some (.ref (He.fAd K ("_law_square", none)))
  F_law_plain : ∃ fd, FunD K "_law_plain" "_law_plain" (defArgs st_law_plain) (defBody st_law_plain) (defScope st_law_plain) [] [] (He.fAd K ("_law_plain", none)) fd
  g_law_plain : mg "_law_plain" = some (.ref (He.fAd K ("_law_plain", none)))
  F_Web_eq : ∃ fd, FunD K "__eq__" "Web.__eq__" (defArgs st_Web_eq) (defBody st_Web_eq) (defScope st_Web_eq) [] [] (He.fAd K ("Web", some "__eq__")) fd
  F_is_name : ∃ fd, FunD K "is_name" "is_name" (defArgs st_is_name) (defBody st_is_name) (defScope st_is_name) [] [] (He.fAd K ("is_name", none)) fd
  g_is_name : mg "is_name" = some (.ref (He.fAd K ("is_name", none)))
  F_is_count : ∃ fd, FunD K "is_count" "is_count" (defArgs st_is_count) (defBody st_is_count) (defScope st_is_count) [] [] (He.fAd K ("is_count", none)) fd
  g_is_count : mg "is_count" = some (.ref (He.fAd K ("is_count", none)))
  F_check_node : ∃ fd, FunD K "check_node" "check_node" (defArgs st_check_node) (defBody st_check_node) (defScope st_check_node) [] [] (He.fAd K ("check_node", none)) fd
  g_check_node : mg "check_node" = some (.ref (He.fAd K ("check_node", none)))
  F_clean_marks : ∃ fd, FunD K "clean_marks" "clean_marks" (defArgs st_clean_marks) (defBody st_clean_marks) (defScope st_clean_marks) [] [] (He.fAd K ("clean_marks", none)) fd
  g_clean_marks : mg "clean_marks" = some (.ref (He.fAd K ("clean_marks", none)))
  F_check_pair : ∃ fd, FunD K "check_pair" "check_pair" (defArgs st_check_pair) (defBody st_check_pair) (defScope st_check_pair) [] [] (He.fAd K ("check_pair", none)) fd
  g_check_pair : mg "check_pair" = some (.ref (He.fAd K ("check_pair", none)))
  F_clean_ties : ∃ fd, FunD K "clean_ties" "clean_ties" (defArgs st_clean_ties) (defBody st_clean_ties) (defScope st_clean_ties) [] [] (He.fAd K ("clean_ties", none)) fd
  g_clean_ties : mg "clean_ties" = some (.ref (He.fAd K ("clean_ties", none)))
  F_Web_init : ∃ fd, FunD K "__init__" "Web.__init__" (defArgs st_Web_init) (defBody st_Web_init) (defScope st_Web_init) [] [("marks", .non), ("ties", .non)] (He.fAd K ("Web", some "__init__")) fd
  F_law_web : ∃ fd, FunD K "_law_web" "_law_web" (defArgs st_law_web) (defBody st_law_web) (defScope st_law_web) [] [] (He.fAd K ("_law_web", none)) fd
  g_law_web : mg "_law_web" = some (.ref (He.fAd K ("_law_web", none)))
  F_Web_painted : ∃ fd, FunD K "painted" "Web.painted" (defArgs st_Web_painted) (defBody st_Web_painted) (defScope st_Web_painted) [] [] (He.fAd K ("Web", some "painted")) fd
  F_Web_redrawn : ∃ fd, FunD K "redrawn" "Web.redrawn" (defArgs st_Web_redrawn) (defBody st_Web_redrawn) (defScope st_Web_redrawn) [] [] (He.fAd K ("Web", some "redrawn")) fd
  F_Web_repr : ∃ fd, FunD K "__repr__" "Web.__repr__" (defArgs st_Web_repr) (defBody st_Web_repr) (defScope st_Web_repr) [] [] (He.fAd K ("Web", some "__repr__")) fd
  F_law : ∃ fd, FunD K "law" "law" (defArgs st_law) (defBody st_law) (defScope st_law) [] [] (He.fAd K ("law", none)) fd
  g_law : mg "law" = some (.ref (He.fAd K ("law", none)))
  g_Web : mg "Web" = some (.ref (He.ga K "Web"))
  mk_Web : L2.Mk K (He.ga K "Web") (He.fAd K ("Web", some "__init__"))
  m_Web_eq : EqF K mg ["Web"] ownK (He.fAd K ("Web", some "__eq__"))
  m_Web_painted : MthF K mg "Web" "painted" (He.fAd K ("Web", some "painted"))
  m_Web_redrawn : MthF K mg "Web" "redrawn" (He.fAd K ("Web", some "redrawn"))
  m_Web_repr : MthsF K mg ["Web"] "__repr__" (He.fAd K ("Web", some "__repr__"))
  F_RedrawError_init : ∃ fd, SupD P K "__init__" "RedrawError.__init__" (defArgs st_RedrawError_init) (defBody st_RedrawError_init) (defScope st_RedrawError_init) (He.ga K "RedrawError") (He.fAd K ("RedrawError", some "__init__")) fd
  g_RedrawError : mg "RedrawError" = some (.ref (He.ga K "RedrawError"))
  F_InvalidName_init : ∃ fd, SupD P K "__init__" "InvalidName.__init__" (defArgs st_InvalidName_init) (defBody st_InvalidName_init) (defScope st_InvalidName_init) (He.ga K "InvalidName") (He.fAd K ("InvalidName", some "__init__")) fd
  g_InvalidName : mg "InvalidName" = some (.ref (He.ga K "InvalidName"))
  eg_InvalidName : ExcG K (He.ga K "InvalidName") (He.ga K "InvalidName") (He.fAd K ("RedrawError", some "__init__"))
  ev_InvalidName : ExcV K (He.ga K "InvalidName") (He.ga K "RedrawError")
  no_InvalidName : noB K (He.ga K "InvalidName") ["name", "code"] = true
  in_InvalidName : PySem.W.findIn K (.ref (He.ga K "InvalidName")) "__init__" = some (some (.ref (He.fAd K ("InvalidName", some "__init__")))) ∧ PySem.W.typeIn K (.ref (He.fAd K ("InvalidName", some "__init__"))) = some (.type "function")
  F_InvalidNode_init : ∃ fd, SupD P K "__init__" "InvalidNode.__init__" (defArgs st_InvalidNode_init) (defBody st_InvalidNode_init) (defScope st_InvalidNode_init) (He.ga K "InvalidNode") (He.fAd K ("InvalidNode", some "__init__")) fd
  g_InvalidNode : mg "InvalidNode" = some (.ref (He.ga K "InvalidNode"))
  eg_InvalidNode : ExcG K (He.ga K "InvalidNode") (He.ga K "InvalidNode") (He.fAd K ("RedrawError", some "__init__"))
  ev_InvalidNode : ExcV K (He.ga K "InvalidNode") (He.ga K "RedrawError")
  no_InvalidNode : noB K (He.ga K "InvalidNode") ["node", "code"] = true
  in_InvalidNode : PySem.W.findIn K (.ref (He.ga K "InvalidNode")) "__init__" = some (some (.ref (He.fAd K ("InvalidNode", some "__init__")))) ∧ PySem.W.typeIn K (.ref (He.fAd K ("InvalidNode", some "__init__"))) = some (.type "function")
  F_InvalidTie_init : ∃ fd, SupD P K "__init__" "InvalidTie.__init__" (defArgs st_InvalidTie_init) (defBody st_InvalidTie_init) (defScope st_InvalidTie_init) (He.ga K "InvalidTie") (He.fAd K ("InvalidTie", some "__init__")) fd
  g_InvalidTie : mg "InvalidTie" = some (.ref (He.ga K "InvalidTie"))
  eg_InvalidTie : ExcG K (He.ga K "InvalidTie") (He.ga K "InvalidTie") (He.fAd K ("RedrawError", some "__init__"))
  ev_InvalidTie : ExcV K (He.ga K "InvalidTie") (He.ga K "RedrawError")
  no_InvalidTie : noB K (He.ga K "InvalidTie") ["tie", "code"] = true
  in_InvalidTie : PySem.W.findIn K (.ref (He.ga K "InvalidTie")) "__init__" = some (some (.ref (He.fAd K ("InvalidTie", some "__init__")))) ∧ PySem.W.typeIn K (.ref (He.fAd K ("InvalidTie", some "__init__"))) = some (.type "function")
  fld_own_marks : FldF K mg ["Web"] "own_marks"
  fld_own_size : FldF K mg ["Web"] "own_size"
  fld_own_ties : FldF K mg ["Web"] "own_ties"
  n_abs : mg "abs" = none
  n_all : mg "all" = none
  n_bool : mg "bool" = none
  n_int : mg "int" = none
  n_isinstance : mg "isinstance" = none
  n_len : mg "len" = none
  n_list : mg "list" = none
  n_range : mg "range" = none
  n_repr : mg "repr" = none
  n_set : mg "set" = none
  n_sorted : mg "sorted" = none
  n_str : mg "str" = none
  n_tuple : mg "tuple" = none
  i_MOST_LETTERS : ∃ t, mg "MOST_LETTERS" = some (.int 8 t)
  i_MOST_NODES_webs : ∃ t, mg "MOST_NODES_webs" = some (.int 300 t)
  s_LETTERS : ∃ t, mg "LETTERS" = some (.str "abcdefghijklmnopqrstuvwxyz" t)
  r_WORDS : mg "WORDS" = some (.ref (He.ga K "WORDS")) ∧ ∀ W, Rep K mg W p_WORDS (.ref (He.ga K "WORDS"))
  top_super : (P.main.scope.names.lookup ("super" : Str)).isSome = false
  n_super : mg "super" = none
  own : OwnF K mg ownK ownC
  sysm : SysK K
section
variable [L : LamC] [S : Susp] {P : Program} {w : World} {K : PySem.W.Frag} {mg : Str → Option Value} {base : Heap}
theorem sc_RedrawError_init : NdefX.NScope ["self", "code", "__class__"] ["self", "code"] ["__class__"] (defScope st_RedrawError_init) := NdefX.nscope_by (by decide +kernel)
theorem fn_RedrawError_init (t : Facts P w K mg) {fd : FuncData} (F : SupD P K "__init__" "RedrawError.__init__" (defArgs st_RedrawError_init) (defBody st_RedrawError_init) (defScope st_RedrawError_init) (He.ga K "RedrawError") (He.fAd K ("RedrawError", some "__init__")) fd) : FnOk P w K mg base (L2.CX P w) 2 (He.fAd K ("RedrawError", some "__init__")) fd ["self", "code"] (SpEV K (He.ga K "RedrawError") "code") :=
  fn_excV (k := 0) (cn := "code") (fld := "code") F sc_RedrawError_init rfl rfl rfl rfl rfl (by decide) (by decide) rfl rfl rfl t.top_super t.n_super (rest_V rfl rfl rfl rfl)
theorem sc_InvalidName_init : NdefX.NScope ["self", "name", "__class__"] ["self", "name"] ["__class__"] (defScope st_InvalidName_init) := NdefX.nscope_by (by decide +kernel)
theorem fn_InvalidName_init (t : Facts P w K mg) {fd : FuncData} (F : SupD P K "__init__" "InvalidName.__init__" (defArgs st_InvalidName_init) (defBody st_InvalidName_init) (defScope st_InvalidName_init) (He.ga K "InvalidName") (He.fAd K ("InvalidName", some "__init__")) fd) : FnOk P w K mg base (L2.CX P w) 4 (He.fAd K ("InvalidName", some "__init__")) fd ["self", "name"] (SpEG (He.ga K "InvalidName") 1 (fG "InvalidName" ["name"])) := by
  obtain ⟨gd, G⟩ := t.F_RedrawError_init
  exact fn_excG (code := "InvalidName") (D0 := He.ga K "RedrawError") F sc_InvalidName_init rfl rfl rfl rfl rfl rfl rfl t.top_super t.n_super t.eg_InvalidName t.ev_InvalidName (noB_ok t.no_InvalidName (by decide)) (fn_RedrawError_init t G) (G.binds0 fun _ _ _ _ _ _ us hl => match us, hl with | [_, _], _ => rfl) rfl (rest_G1 t.eg_InvalidName.ox (noB_ok t.no_InvalidName (by decide)) rfl rfl rfl rfl)
theorem rai_InvalidName (t : Facts P w K mg) : RaiD P w K mg base "InvalidName" 4 "InvalidName" ["name"] := by
  obtain ⟨fd, F⟩ := t.F_InvalidName_init
  exact .of t.g_InvalidName t.eg_InvalidName.ox t.in_InvalidName.1 t.in_InvalidName.2 (F.binds0 fun _ _ _ _ _ _ us hl => match us, hl with | [_, _], _ => rfl) (fn_InvalidName_init t F)
theorem sc_InvalidNode_init : NdefX.NScope ["self", "node", "__class__"] ["self", "node"] ["__class__"] (defScope st_InvalidNode_init) := NdefX.nscope_by (by decide +kernel)
theorem fn_InvalidNode_init (t : Facts P w K mg) {fd : FuncData} (F : SupD P K "__init__" "InvalidNode.__init__" (defArgs st_InvalidNode_init) (defBody st_InvalidNode_init) (defScope st_InvalidNode_init) (He.ga K "InvalidNode") (He.fAd K ("InvalidNode", some "__init__")) fd) : FnOk P w K mg base (L2.CX P w) 4 (He.fAd K ("InvalidNode", some "__init__")) fd ["self", "node"] (SpEG (He.ga K "InvalidNode") 1 (fG "InvalidNode" ["node"])) := by
  obtain ⟨gd, G⟩ := t.F_RedrawError_init
  exact fn_excG (code := "InvalidNode") (D0 := He.ga K "RedrawError") F sc_InvalidNode_init rfl rfl rfl rfl rfl rfl rfl t.top_super t.n_super t.eg_InvalidNode t.ev_InvalidNode (noB_ok t.no_InvalidNode (by decide)) (fn_RedrawError_init t G) (G.binds0 fun _ _ _ _ _ _ us hl => match us, hl with | [_, _], _ => rfl) rfl (rest_G1 t.eg_InvalidNode.ox (noB_ok t.no_InvalidNode (by decide)) rfl rfl rfl rfl)
theorem rai_InvalidNode (t : Facts P w K mg) : RaiD P w K mg base "InvalidNode" 4 "InvalidNode" ["node"] := by
  obtain ⟨fd, F⟩ := t.F_InvalidNode_init
  exact .of t.g_InvalidNode t.eg_InvalidNode.ox t.in_InvalidNode.1 t.in_InvalidNode.2 (F.binds0 fun _ _ _ _ _ _ us hl => match us, hl with | [_, _], _ => rfl) (fn_InvalidNode_init t F)
theorem sc_InvalidTie_init : NdefX.NScope ["self", "tie", "__class__"] ["self", "tie"] ["__class__"] (defScope st_InvalidTie_init) := NdefX.nscope_by (by decide +kernel)
theorem fn_InvalidTie_init (t : Facts P w K mg) {fd : FuncData} (F : SupD P K "__init__" "InvalidTie.__init__" (defArgs st_InvalidTie_init) (defBody st_InvalidTie_init) (defScope st_InvalidTie_init) (He.ga K "InvalidTie") (He.fAd K ("InvalidTie", some "__init__")) fd) : FnOk P w K mg base (L2.CX P w) 4 (He.fAd K ("InvalidTie", some "__init__")) fd ["self", "tie"] (SpEG (He.ga K "InvalidTie") 1 (fG "InvalidTie" ["tie"])) := by
  obtain ⟨gd, G⟩ := t.F_RedrawError_init
  exact fn_excG (code := "InvalidTie") (D0 := He.ga K "RedrawError") F sc_InvalidTie_init rfl rfl rfl rfl rfl rfl rfl t.top_super t.n_super t.eg_InvalidTie t.ev_InvalidTie (noB_ok t.no_InvalidTie (by decide)) (fn_RedrawError_init t G) (G.binds0 fun _ _ _ _ _ _ us hl => match us, hl with | [_, _], _ => rfl) rfl (rest_G1 t.eg_InvalidTie.ox (noB_ok t.no_InvalidTie (by decide)) rfl rfl rfl rfl)
theorem rai_InvalidTie (t : Facts P w K mg) : RaiD P w K mg base "InvalidTie" 4 "InvalidTie" ["tie"] := by
  obtain ⟨fd, F⟩ := t.F_InvalidTie_init
  exact .of t.g_InvalidTie t.eg_InvalidTie.ox t.in_InvalidTie.1 t.in_InvalidTie.2 (F.binds0 fun _ _ _ _ _ _ us hl => match us, hl with | [_, _], _ => rfl) (fn_InvalidTie_init t F)
theorem sc_law_bag : FnScope N_law_bag ["_law_script"] (defScope st_law_bag) := ⟨rfl, rfl, rfl, by decide +kernel, rfl, by decide +kernel, by decide +kernel⟩
theorem ok_law_bag (t : Facts P w K mg) : DefF P w K mg base "_law_bag" ["_law_script"] 1 m_law_bag := by
  obtain ⟨fd, F⟩ := t.F_law_bag
  exact ⟨_, fd, t.g_law_bag, F.kp, (F.bindsN fun _ _ _ _ _ _ us hl => match us, hl with | [_], _ => rfl), fn_zD F sc_law_bag fun cdv A outer s H E hr => (show FSs _ WF (defBody st_law_bag) b_law_bag from
  (fss_cons (fs_set (i := 1) sc_law_bag.nd rfl fe_int)
  (fss_cons (fs_for (passes_of rfl) rfl (fi_list (fe_sl fe_name fo_none (fo_some fe_int))) (fg_name (i := 2) sc_law_bag.nd)
  (fss_one (fs_set (i := 1) sc_law_bag.nd rfl (fe_bin oz_mod (fe_callTy cz_int rfl t.n_int (by decide +kernel) (fa_cons (fe_bin oz_add (fe_bin oz_add (fe_bin oz_mul fe_name fe_int) (fe_bin oz_mul (fe_bin oz_mod (fe_callTy cz_int rfl t.n_int (by decide +kernel) (fa_cons fe_name fa_nil)) fe_int) fe_int)) fe_int) fa_nil)) fe_int))))
  (fss_one (fs_ret (fe_lstM (fl_cons (fl_cons (fl_cons (fl_cons (fl_cons fl_nil))))) (ha := (fa_cons (fe_callTy (cz_listA rfl) rfl t.n_list (by decide +kernel) (fa_cons (fe_sl fe_name fo_none (fo_some fe_int)) fa_nil)) (fa_cons fe_int (fa_cons fe_int (fa_cons fe_name (fa_cons fe_int fa_nil))))))))))))⟩
theorem sc_law_draw : FnScope N_law_draw ["_law_bag_here", "_law_many"] (defScope st_law_draw) := ⟨rfl, rfl, rfl, by decide +kernel, rfl, by decide +kernel, by decide +kernel⟩
theorem ok_law_draw (t : Facts P w K mg) : DefF P w K mg base "_law_draw" ["_law_bag_here", "_law_many"] 1 m_law_draw := by
  obtain ⟨fd, F⟩ := t.F_law_draw
  exact ⟨_, fd, t.g_law_draw, F.kp, (F.bindsN fun _ _ _ _ _ _ us hl => match us, hl with | [_, _], _ => rfl), fn_zD F sc_law_draw fun cdv A outer s H E hr => (show FSs _ WF (defBody st_law_draw) b_law_draw from
  (fss_cons (fs_asg (fe_bin oz_add (fe_ix (Room.u1 hr) fe_name fe_int) fe_int) (fg_sub (Room.u1 hr) fe_name fe_int))
  (fss_cons (fs_if (FW.ft (fw_and (ft_cmp (oz_eqD (Room.u64 hr)) (fe_ix (Room.u1 hr) fe_name fe_int) fe_int) (fw_and1 (ft_cmp oz_lt (fe_ix (Room.u1 hr) fe_name fe_int) (fe_callB cz_lenA rfl t.n_len (by decide +kernel) (fa_cons (fe_ix (Room.u1 hr) fe_name fe_int) fa_nil))))))
  (fss_cons (fs_set (i := 2) sc_law_draw.nd rfl (fe_ix (Room.u1 hr) (fe_ix (Room.u1 hr) fe_name fe_int) (fe_ix (Room.u1 hr) fe_name fe_int)))
  (fss_cons (fs_asg (fe_bin oz_add (fe_ix (Room.u1 hr) fe_name fe_int) fe_int) (fg_sub (Room.u1 hr) fe_name fe_int))
  (fss_one (fs_if (ft_cmp oz_ge (fe_callB cz_abs rfl t.n_abs (by decide +kernel) (fa_cons fe_name fa_nil)) (fe_bin oz_pow fe_int fe_int))
  (fss_one (fs_asg (fe_callB cz_abs rfl t.n_abs (by decide +kernel) (fa_cons fe_name fa_nil)) (fg_sub (Room.u1 hr) fe_name fe_int)))
  (fss_one (fs_asg (fe_bin oz_mod (fe_callTy cz_int rfl t.n_int (by decide +kernel) (fa_cons (fe_bin oz_add (fe_bin oz_add (fe_bin oz_mul (fe_ix (Room.u1 hr) fe_name fe_int) fe_int) (fe_bin oz_mul (fe_bin oz_mod (fe_callTy cz_int rfl t.n_int (by decide +kernel) (fa_cons fe_name fa_nil)) fe_int) fe_int)) fe_int) fa_nil)) fe_int) (fg_sub (Room.u1 hr) fe_name fe_int)))))))
  fss_nil)
  (fss_cons (fs_if (ft_cmp oz_gt (fe_ix (Room.u1 hr) fe_name fe_int) fe_int)
  (fss_cons (fs_set (i := 3) sc_law_draw.nd rfl (fe_bin oz_mod (fe_callTy cz_int rfl t.n_int (by decide +kernel) (fa_cons (fe_ix (Room.u1 hr) fe_name fe_int) fa_nil)) fe_name))
  (fss_cons (fs_asg (fe_bin oz_div (fe_ix (Room.u1 hr) fe_name fe_int) fe_name) (fg_sub (Room.u1 hr) fe_name fe_int))
  (fss_one (fs_ret fe_name))))
  fss_nil)
  (fss_cons (fs_set (i := 4) sc_law_draw.nd rfl (fe_bin oz_mod (fe_callTy cz_int rfl t.n_int (by decide +kernel) (fa_cons (fe_bin oz_add (fe_bin oz_mul (fe_ix (Room.u1 hr) fe_name fe_int) (fe_ix (Room.u1 hr) fe_name fe_int)) (fe_bin oz_mul (fe_ix (Room.u1 hr) fe_name fe_int) fe_int)) fa_nil)) fe_int))
  (fss_cons (fs_asg (fe_bin oz_mod (fe_callTy cz_int rfl t.n_int (by decide +kernel) (fa_cons (fe_bin oz_add (fe_bin oz_add (fe_bin oz_mul fe_name fe_int) (fe_bin oz_mul (fe_ix (Room.u1 hr) fe_name fe_int) fe_int)) fe_int) fa_nil)) fe_int) (fg_sub (Room.u1 hr) fe_name fe_int))
  (fss_one (fs_ret (fe_bin oz_mod (fe_callTy cz_int rfl t.n_int (by decide +kernel) (fa_cons (fe_bin oz_div (fe_ix (Room.u1 hr) fe_name fe_int) fe_int) fa_nil)) fe_name)))))))))⟩
theorem sc_law_one : FnScope N_law_one ["_law_bag_here", "_law_things"] (defScope st_law_one) := ⟨rfl, rfl, rfl, by decide +kernel, rfl, by decide +kernel, by decide +kernel⟩
theorem ok_law_one (t : Facts P w K mg) : DefF P w K mg base "_law_one" ["_law_bag_here", "_law_things"] 2 m_law_one := by
  obtain ⟨fd, F⟩ := t.F_law_one
  exact ⟨_, fd, t.g_law_one, F.kp, (F.bindsN fun _ _ _ _ _ _ us hl => match us, hl with | [_, _], _ => rfl), fn_zD F sc_law_one fun cdv A outer s H E hr => (show FSs _ WF (defBody st_law_one) b_law_one from
  (fss_one (fs_ret (fe_ix (Room.u1 hr) fe_name (fe_call (ok_law_draw t) (hr.mono (by decide)) rfl (fl_cons (fl_cons fl_nil)) rfl rfl (fa_cons fe_name (fa_cons (fe_callB cz_lenA rfl t.n_len (by decide +kernel) (fa_cons fe_name fa_nil)) fa_nil)))))))⟩
theorem sc_law_names : FnScope N_law_names ["_law_bag_here"] (defScope st_law_names) := ⟨rfl, rfl, rfl, by decide +kernel, rfl, by decide +kernel, by decide +kernel⟩
theorem ok_law_names (t : Facts P w K mg) : DefF P w K mg base "_law_names" ["_law_bag_here"] 3 m_law_names := by
  obtain ⟨fd, F⟩ := t.F_law_names
  exact ⟨_, fd, t.g_law_names, F.kp, (F.bindsN fun _ _ _ _ _ _ us hl => match us, hl with | [_], _ => rfl), fn_zD F sc_law_names fun cdv A outer s H E hr => (show FSs _ WF (defBody st_law_names) b_law_names from
  (fss_one (fs_ret (fe_call (ok_law_one t) (hr.mono (by decide)) rfl (fl_cons (fl_cons fl_nil)) rfl rfl (fa_cons fe_name (fa_cons (fe_lst (fl_cons (fl_cons (fl_cons (fl_cons (fl_cons (fl_cons fl_nil)))))) (ha := (fa_cons (fe_lst (fl_cons (fl_cons (fl_cons (fl_cons fl_nil)))) (ha := (fa_cons fe_str (fa_cons fe_str (fa_cons fe_str (fa_cons fe_str fa_nil)))))) (fa_cons (fe_lst (fl_cons (fl_cons (fl_cons (fl_cons fl_nil)))) (ha := (fa_cons fe_str (fa_cons fe_str (fa_cons fe_str (fa_cons fe_str fa_nil)))))) (fa_cons (fe_lst (fl_cons (fl_cons (fl_cons (fl_cons fl_nil)))) (ha := (fa_cons fe_str (fa_cons fe_str (fa_cons fe_str (fa_cons fe_str fa_nil)))))) (fa_cons (fe_lst (fl_cons (fl_cons (fl_cons (fl_cons fl_nil)))) (ha := (fa_cons fe_str (fa_cons fe_str (fa_cons fe_str (fa_cons fe_str fa_nil)))))) (fa_cons (fe_lst (fl_cons (fl_cons (fl_cons (fl_cons fl_nil)))) (ha := (fa_cons fe_str (fa_cons fe_str (fa_cons fe_str (fa_cons fe_str fa_nil)))))) (fa_cons (fe_lst (fl_cons (fl_cons (fl_cons (fl_cons fl_nil)))) (ha := (fa_cons fe_str (fa_cons fe_str (fa_cons fe_str (fa_cons fe_str fa_nil)))))) fa_nil)))))))) fa_nil))))))⟩
theorem sc_law_square : FnScope N_law_square ["_law_size"] (defScope st_law_square) := ⟨rfl, rfl, rfl, by decide +kernel, rfl, by decide +kernel, by decide +kernel⟩
theorem ok_law_square (t : Facts P w K mg) : DefF P w K mg base "_law_square" ["_law_size"] 1 m_law_square := by
  obtain ⟨fd, F⟩ := t.F_law_square
  exact ⟨_, fd, t.g_law_square, F.kp, (F.bindsN fun _ _ _ _ _ _ us hl => match us, hl with | [_], _ => rfl), fn_zD F sc_law_square fun cdv A outer s H E hr => (show FSs _ WF (defBody st_law_square) b_law_square from
  (fss_one (fs_ret (fe_lc zLst_end rfl sc_law_square.nd (fi_rng1 rfl t.n_range (fa_cons (fe_bin oz_mul fe_name fe_name) fa_nil)) (blkOk_by (own := [("_law_at", 1)]) (N := N_law_square) (sc := (defScope st_law_square)) (by decide +kernel)) (by decide) (fun _ _ _ _ _ => (fg_name (i := 1) sc_law_square.nd)) (fun _ _ _ _ _ => fts_nil) (fun _ _ _ _ _ => (fe_tup (fl_cons (fl_cons fl_nil)) (ha := (fa_cons (fe_bin oz_div fe_name fe_name) (fa_cons (fe_bin oz_sub fe_name (fe_bin oz_mul (fe_bin oz_div fe_name fe_name) fe_name)) fa_nil)))))))))⟩
theorem sc_law_plain : FnScope N_law_plain ["_law_bag_here", "_law_names_here", "_law_top"] (defScope st_law_plain) := ⟨rfl, rfl, rfl, by decide +kernel, rfl, by decide +kernel, by decide +kernel⟩
theorem ok_law_plain (t : Facts P w K mg) : DefF P w K mg base "_law_plain" ["_law_bag_here", "_law_names_here", "_law_top"] 3 m_law_plain := by
  obtain ⟨fd, F⟩ := t.F_law_plain
  exact ⟨_, fd, t.g_law_plain, F.kp, (F.bindsN fun _ _ _ _ _ _ us hl => match us, hl with | [_, _, _], _ => rfl), fn_zD F sc_law_plain fun cdv A outer s H E hr => (show FSs _ WF (defBody st_law_plain) b_law_plain from
  (fss_cons (fs_set (i := 3) sc_law_plain.nd rfl (fe_bin oz_add fe_int (fe_call (ok_law_draw t) (hr.mono (by decide)) rfl (fl_cons (fl_cons fl_nil)) rfl rfl (fa_cons fe_name (fa_cons fe_name fa_nil)))))
  (fss_cons (fs_par (i := 4) (j := 5) rfl sc_law_plain.nd rfl rfl (by decide) rfl rfl (fa_cons fe_dnewM (fa_cons fe_dnewM fa_nil)))
  (fss_cons (fs_for (passes_of rfl) rfl (fi_list (fe_sl fe_name fo_none (fo_some fe_int))) (fg_name (i := 6) sc_law_plain.nd)
  (fss_one (fs_asg (fe_lc zLst_end rfl sc_law_plain.nd (fi_rng1 rfl t.n_range (fa_cons fe_name fa_nil)) (blkOk_by (own := [("_law_node", 7)]) (N := N_law_plain) (sc := (defScope st_law_plain)) (by decide +kernel)) (by decide) (fun _ _ _ _ _ => (fg_name (i := 7) sc_law_plain.nd)) (fun _ _ _ _ _ => (fts_one (ft_cmp (oz_eqD (Room.u64 hr)) (fe_call (ok_law_draw t) (hr.mono (by decide)) rfl (fl_cons (fl_cons fl_nil)) rfl rfl (fa_cons fe_name (fa_cons fe_int fa_nil))) fe_int))) (fun _ _ _ _ _ => fe_name)) (fg_sub (Room.u1 hr) fe_name fe_name))))
  (fss_cons (fs_for (passes_of rfl) rfl (fi_list (fe_sl fe_name (fo_some fe_int) fo_none)) (fg_name (i := 6) sc_law_plain.nd)
  (fss_cons (fs_set (i := 8) sc_law_plain.nd rfl (fe_call (ok_law_one t) (hr.mono (by decide)) rfl (fl_cons (fl_cons fl_nil)) rfl rfl (fa_cons fe_name (fa_cons (fe_lst (fl_cons (fl_cons (fl_cons fl_nil))) (ha := (fa_cons fe_int (fa_cons fe_int (fa_cons fe_int fa_nil))))) fa_nil))))
  (fss_one (fs_asg (fe_lc zLst_end rfl sc_law_plain.nd (fi_list (fe_call (ok_law_square t) (hr.mono (by decide)) rfl (fl_cons fl_nil) rfl rfl (fa_cons fe_name fa_nil))) (blkOk_by (own := [("_law_x", 9), ("_law_y", 10)]) (N := N_law_plain) (sc := (defScope st_law_plain)) (by decide +kernel)) (by decide) (fun _ _ _ _ _ => (fg_tup rfl (fgs_cons (fg_name (i := 9) sc_law_plain.nd) (fgs_cons (fg_name (i := 10) sc_law_plain.nd) fgs_nil)))) (fun _ _ _ _ _ => (fts_one (ft_cmp (oz_eqD (Room.u64 hr)) (fe_call (ok_law_draw t) (hr.mono (by decide)) rfl (fl_cons (fl_cons fl_nil)) rfl rfl (fa_cons fe_name (fa_cons fe_name fa_nil))) fe_int))) (fun _ _ _ _ _ => (fe_tup (fl_cons (fl_cons fl_nil)) (ha := (fa_cons fe_name (fa_cons fe_name fa_nil)))))) (fg_sub (Room.u1 hr) fe_name fe_name)))))
  (fss_one (fs_ret (fe_tup (fl_cons (fl_cons (fl_cons fl_nil))) (ha := (fa_cons fe_name (fa_cons (fe_frz fe_name) (fa_cons (fe_frz fe_name) fa_nil))))))))))))⟩
theorem sc_Web_eq : FnScope N_Web_eq ["self", "other"] (defScope st_Web_eq) := ⟨rfl, rfl, rfl, by decide +kernel, rfl, by decide +kernel, by decide +kernel⟩
theorem ok_Web_eq (t : Facts P w K mg) : EqD P w K mg base ["Web"] ownK ["self", "other"] 1 m_Web_eq := by
  obtain ⟨fd, F⟩ := t.F_Web_eq
  exact ⟨_, fd, t.m_Web_eq, (F.bindsN fun _ _ _ _ _ _ us hl => match us, hl with | [_, _], _ => rfl), fn_zD F sc_Web_eq fun cdv A outer s H E hr => (show FSs _ WF (defBody st_Web_eq) b_Web_eq from
  (fss_cons (fs_if (ft_not (ft_val (fe_callB (cz_isi t.own) rfl t.n_isinstance (by decide +kernel) (fa_cons fe_name (fa_cons (fe_glob rfl t.g_Web) fa_nil)))))
  (fss_one (fs_ret fe_bl))
  fss_nil)
  (fss_cons (fs_set (i := 2) sc_Web_eq.nd rfl (fe_and (fe_cmp (oz_eqD (Room.u64 hr)) (fe_fld t.fld_own_size fe_name) (fe_fld t.fld_own_size fe_name)) (fe_one (fe_cmp (oz_eqW (Room.u hr)) (fe_fld t.fld_own_marks fe_name) (fe_fld t.fld_own_marks fe_name)))))
  (fss_one (fs_ret (fe_and fe_name (fe_one (fe_cmp (oz_eqW (Room.u hr)) (fe_fld t.fld_own_ties fe_name) (fe_fld t.fld_own_ties fe_name)))))))))⟩
theorem sc_is_name : FnScope N_is_name ["value"] (defScope st_is_name) := ⟨rfl, rfl, rfl, by decide +kernel, rfl, by decide +kernel, by decide +kernel⟩
theorem ok_is_name (t : Facts P w K mg) : DefF P w K mg base "is_name" ["value"] 1 m_is_name := by
  obtain ⟨fd, F⟩ := t.F_is_name
  exact ⟨_, fd, t.g_is_name, F.kp, (F.bindsN fun _ _ _ _ _ _ us hl => match us, hl with | [_], _ => rfl), fn_zD F sc_is_name fun cdv A outer s H E hr => (show FSs _ WF (defBody st_is_name) b_is_name from
  (fss_cons (fs_if (FW.ft (fw_or (ft_not (ft_val (fe_callB (cz_isi t.own) rfl t.n_isinstance (by decide +kernel) (fa_cons fe_name (fa_cons (fe_bt rfl t.n_str (by decide +kernel)) fa_nil))))) (fw_or1 (ft_not (ft_chain oz_le oz_le zii_noexc fe_int (fe_callB cz_lenA rfl t.n_len (by decide +kernel) (fa_cons fe_name fa_nil)) (fe_gintE rfl t.i_MOST_LETTERS))))))
  (fss_one (fs_ret fe_bl))
  fss_nil)
  (fss_one (fs_ret (fe_and (fe_cmp (oz_notIn (Room.u hr)) fe_name (fe_gref rfl t.r_WORDS.1 t.r_WORDS.2)) (fe_one (fe_callB (cz_all rfl) rfl t.n_all (by decide +kernel) (fa_cons (fe_lc zLst_end rfl sc_is_name.nd (fi_str fe_name) (blkOk_by (own := [("letter", 1)]) (N := N_is_name) (sc := (defScope st_is_name)) (by decide +kernel)) (by decide) (fun _ _ _ _ _ => (fg_name (i := 1) sc_is_name.nd)) (fun _ _ _ _ _ => fts_nil) (fun _ _ _ _ _ => (fe_cmp (oz_in (Room.u hr)) fe_name (fe_gstrE rfl t.s_LETTERS)))) fa_nil))))))))⟩
theorem sc_is_count : FnScope N_is_count ["value", "least", "most"] (defScope st_is_count) := ⟨rfl, rfl, rfl, by decide +kernel, rfl, by decide +kernel, by decide +kernel⟩
theorem ok_is_count (t : Facts P w K mg) : DefF P w K mg base "is_count" ["value", "least", "most"] 1 m_is_count := by
  obtain ⟨fd, F⟩ := t.F_is_count
  exact ⟨_, fd, t.g_is_count, F.kp, (F.bindsN fun _ _ _ _ _ _ us hl => match us, hl with | [_, _, _], _ => rfl), fn_zD F sc_is_count fun cdv A outer s H E hr => (show FSs _ WF (defBody st_is_count) b_is_count from
  (fss_one (fs_ret (fe_and (fe_callB (cz_isi t.own) rfl t.n_isinstance (by decide +kernel) (fa_cons fe_name (fa_cons (fe_bt rfl t.n_int (by decide +kernel)) fa_nil))) (fe_and (fe_not (fe_callB (cz_isi t.own) rfl t.n_isinstance (by decide +kernel) (fa_cons fe_name (fa_cons (fe_bt rfl t.n_bool (by decide +kernel)) fa_nil)))) (fe_one (fe_chain oz_le oz_le zii_noexc fe_name fe_name fe_name)))))))⟩
theorem sc_check_node : FnScope N_check_node ["size", "node"] (defScope st_check_node) := ⟨rfl, rfl, rfl, by decide +kernel, rfl, by decide +kernel, by decide +kernel⟩
theorem ok_check_node (t : Facts P w K mg) : DefF P w K mg base "check_node" ["size", "node"] 6 m_check_node := by
  obtain ⟨fd, F⟩ := t.F_check_node
  exact ⟨_, fd, t.g_check_node, F.kp, (F.bindsN fun _ _ _ _ _ _ us hl => match us, hl with | [_, _], _ => rfl), fn_zDE F sc_check_node fun cdv A outer s H E hr tk => (show FSs _ (WE' E) (defBody st_check_node) b_check_node from
  (fss_one (fs_if (ft_not (ft_val (fe_callT tk (ok_is_count t) (hr.mono (by decide)) rfl (fl_cons (fl_cons (fl_cons fl_nil))) rfl rfl (fa_cons fe_name (fa_cons fe_int (fa_cons (fe_bin oz_sub fe_name fe_int) fa_nil))))))
  (fss_one (fs_raise (rai_InvalidNode t) (hr.mono (by walk_at "z8")) rfl tk rfl (by decide) (fa_cons fe_name fa_nil)))
  fss_nil)))⟩
theorem sc_clean_marks : FnScope N_clean_marks ["size", "marks"] (defScope st_clean_marks) := ⟨rfl, rfl, rfl, by decide +kernel, rfl, by decide +kernel, by decide +kernel⟩
theorem ok_clean_marks (t : Facts P w K mg) : DefF P w K mg base "clean_marks" ["size", "marks"] 7 m_clean_marks := by
  obtain ⟨fd, F⟩ := t.F_clean_marks
  exact ⟨_, fd, t.g_clean_marks, F.kp, (F.bindsN fun _ _ _ _ _ _ us hl => match us, hl with | [_, _], _ => rfl), fn_zDE F sc_clean_marks fun cdv A outer s H E hr tk => (show FSs _ (WE' E) (defBody st_clean_marks) b_clean_marks from
  (fss_cons (fs_for (passes_of rfl) rfl (fi_keys fe_name) (fg_name (i := 2) sc_clean_marks.nd)
  (fss_cons (fs_if (ft_not (ft_val (fe_callT tk (ok_is_name t) (hr.mono (by decide)) rfl (fl_cons fl_nil) rfl rfl (fa_cons fe_name fa_nil))))
  fss_stuck
  fss_nil)
  (fss_one (fs_for (passes_of rfl) rfl (fi_list (fe_ix (Room.u1 hr) fe_name fe_name)) (fg_name (i := 3) sc_clean_marks.nd)
  (fss_one (fs_expr (fe_callT tk (ok_check_node t) (hr.mono (by decide)) rfl (fl_cons (fl_cons fl_nil)) rfl rfl (fa_cons fe_name (fa_cons fe_name fa_nil)))))))))
  (fss_one (fs_ret (fe_dc zDc_end rfl sc_clean_marks.nd (fi_list (fe_callB (cz_sorted rfl) rfl t.n_sorted (by decide +kernel) (fa_cons fe_name fa_nil))) (blkOk_by (own := [("name", 2)]) (N := N_clean_marks) (sc := (defScope st_clean_marks)) (by decide +kernel)) (by decide) (fun _ _ _ _ _ => (fg_name (i := 2) sc_clean_marks.nd)) (fun _ _ _ _ _ => (fts_one (ft_cmp oz_gt (fe_callB cz_lenA rfl t.n_len (by decide +kernel) (fa_cons (fe_ix (Room.u1 hr) fe_name fe_name) fa_nil)) fe_int))) (fun _ _ _ _ _ => fe_name) (fun _ _ _ _ _ => (fe_sortSet (Room.u64 hr) rfl rfl t.n_sorted rfl t.n_set (fa_cons (fe_ix (Room.u1 hr) fe_name fe_name) fa_nil))))))))⟩
theorem sc_check_pair : FnScope N_check_pair ["size", "pair"] (defScope st_check_pair) := ⟨rfl, rfl, rfl, by decide +kernel, rfl, by decide +kernel, by decide +kernel⟩
theorem ok_check_pair (t : Facts P w K mg) : DefF P w K mg base "check_pair" ["size", "pair"] 6 m_check_pair := by
  obtain ⟨fd, F⟩ := t.F_check_pair
  exact ⟨_, fd, t.g_check_pair, F.kp, (F.bindsN fun _ _ _ _ _ _ us hl => match us, hl with | [_, _], _ => rfl), fn_zDE F sc_check_pair fun cdv A outer s H E hr tk => (show FSs _ (WE' E) (defBody st_check_pair) b_check_pair from
  (fss_cons (fs_if (FW.ft (fw_or (ft_not (ft_val (fe_callB (cz_isi t.own) rfl t.n_isinstance (by decide +kernel) (fa_cons fe_name (fa_cons (fe_bt rfl t.n_tuple (by decide +kernel)) fa_nil))))) (fw_or1 (ft_cmp (oz_neD (Room.u64 hr)) (fe_callB cz_lenA rfl t.n_len (by decide +kernel) (fa_cons fe_name fa_nil)) fe_int))))
  (fss_one (fs_raise (rai_InvalidTie t) (hr.mono (by walk_at "z8")) rfl tk rfl (by decide) (fa_cons fe_name fa_nil)))
  fss_nil)
  (fss_one (fs_if (FW.ft (fw_or (ft_not (ft_val (fe_callT tk (ok_is_count t) (hr.mono (by decide)) rfl (fl_cons (fl_cons (fl_cons fl_nil))) rfl rfl (fa_cons (fe_ix (Room.u1 hr) fe_name fe_int) (fa_cons fe_int (fa_cons (fe_bin oz_sub fe_name fe_int) fa_nil)))))) (fw_or1 (ft_not (ft_val (fe_callT tk (ok_is_count t) (hr.mono (by decide)) rfl (fl_cons (fl_cons (fl_cons fl_nil))) rfl rfl (fa_cons (fe_ix (Room.u1 hr) fe_name fe_int) (fa_cons fe_int (fa_cons (fe_bin oz_sub fe_name fe_int) fa_nil)))))))))
  (fss_one (fs_raise (rai_InvalidTie t) (hr.mono (by walk_at "z8")) rfl tk rfl (by decide) (fa_cons fe_name fa_nil)))
  fss_nil))))⟩
theorem sc_clean_ties : FnScope N_clean_ties ["size", "ties"] (defScope st_clean_ties) := ⟨rfl, rfl, rfl, by decide +kernel, rfl, by decide +kernel, by decide +kernel⟩
theorem ok_clean_ties (t : Facts P w K mg) : DefF P w K mg base "clean_ties" ["size", "ties"] 7 m_clean_ties := by
  obtain ⟨fd, F⟩ := t.F_clean_ties
  exact ⟨_, fd, t.g_clean_ties, F.kp, (F.bindsN fun _ _ _ _ _ _ us hl => match us, hl with | [_, _], _ => rfl), fn_zDE F sc_clean_ties fun cdv A outer s H E hr tk => (show FSs _ (WE' E) (defBody st_clean_ties) b_clean_ties from
  (fss_cons (fs_for (passes_of rfl) rfl (fi_keys fe_name) (fg_name (i := 2) sc_clean_ties.nd)
  (fss_cons (fs_if (ft_not (ft_val (fe_callT tk (ok_is_name t) (hr.mono (by decide)) rfl (fl_cons fl_nil) rfl rfl (fa_cons fe_name fa_nil))))
  fss_stuck
  fss_nil)
  (fss_one (fs_for (passes_of rfl) rfl (fi_list (fe_ix (Room.u1 hr) fe_name fe_name)) (fg_name (i := 3) sc_clean_ties.nd)
  (fss_one (fs_expr (fe_callT tk (ok_check_pair t) (hr.mono (by decide)) rfl (fl_cons (fl_cons fl_nil)) rfl rfl (fa_cons fe_name (fa_cons fe_name fa_nil)))))))))
  (fss_one (fs_ret (fe_dc zDc_end rfl sc_clean_ties.nd (fi_list (fe_callB (cz_sorted rfl) rfl t.n_sorted (by decide +kernel) (fa_cons fe_name fa_nil))) (blkOk_by (own := [("kind", 2)]) (N := N_clean_ties) (sc := (defScope st_clean_ties)) (by decide +kernel)) (by decide) (fun _ _ _ _ _ => (fg_name (i := 2) sc_clean_ties.nd)) (fun _ _ _ _ _ => (fts_one (ft_cmp oz_gt (fe_callB cz_lenA rfl t.n_len (by decide +kernel) (fa_cons (fe_ix (Room.u1 hr) fe_name fe_name) fa_nil)) fe_int))) (fun _ _ _ _ _ => fe_name) (fun _ _ _ _ _ => (fe_sortSet (Room.u64 hr) rfl rfl t.n_sorted rfl t.n_set (fa_cons (fe_ix (Room.u1 hr) fe_name fe_name) fa_nil))))))))⟩
theorem sc_Web_init : FnScope N_Web_init ["self", "size", "marks", "ties"] (defScope st_Web_init) := ⟨rfl, rfl, rfl, by decide +kernel, rfl, by decide +kernel, by decide +kernel⟩
theorem fn_Web_init (t : Facts P w K mg) {fd : FuncData} (F : FunD K "__init__" "Web.__init__" (defArgs st_Web_init) (defBody st_Web_init) (defScope st_Web_init) [] [("marks", .non), ("ties", .non)] (He.fAd K ("Web", some "__init__")) fd) : FnOk P w K mg base (L2.CX P w) 8 (He.fAd K ("Web", some "__init__")) fd ["self", "size", "marks", "ties"] (SpZ K mg 4 m_Web_init) :=
  fn_zDE F sc_Web_init fun cdv A outer s H E hr tk => (show FSs _ (WE' E) (defBody st_Web_init) b_Web_init from
  (fss_cons (fs_if (ft_not (ft_val (fe_callT tk (ok_is_count t) (hr.mono (by decide)) rfl (fl_cons (fl_cons (fl_cons fl_nil))) rfl rfl (fa_cons fe_name (fa_cons fe_int (fa_cons (fe_gintE rfl t.i_MOST_NODES_webs) fa_nil))))))
  fss_stuck
  fss_nil)
  (fss_cons (fs_fld t.fld_own_size fe_name fe_name)
  (fss_cons (fs_fld t.fld_own_marks fe_name (fe_callT tk (ok_clean_marks t) (hr.mono (by decide)) rfl (fl_cons (fl_cons fl_nil)) rfl rfl (fa_cons fe_name (fa_cons (fe_ifE (ft_cmp oz_isN fe_name fe_non) fe_dnew0 fe_name) fa_nil))))
  (fss_one (fs_fld t.fld_own_ties fe_name (fe_callT tk (ok_clean_ties t) (hr.mono (by decide)) rfl (fl_cons (fl_cons fl_nil)) rfl rfl (fa_cons fe_name (fa_cons (fe_ifE (ft_cmp oz_isN fe_name fe_non) fe_dnew0 fe_name) fa_nil)))))))))
theorem mk_Web_marks_ties (t : Facts P w K mg) : MkK P w K mg base "Web" ["self", "size", "marks", "ties"] 1 ["marks", "ties"] b_mk_Web_marks_ties 8 m_Web_init := by
  obtain ⟨fd, F⟩ := t.F_Web_init
  obtain ⟨mv, hb⟩ := FunD.kbinds0 (ps := ["self", "size", "marks", "ties"]) F 2 ["marks", "ties"] [] (fun us _ ws => us ++ ws) (by simp [He.DefD.kws]) (fun q h => by cases h) (fun r1 _ r3 => r1.append r3) (fun D doc pm an cdv ct us mv ws h1 h2 h3 => match us, mv, ws, h1, h2, h3 with | [_, _], [], [_, _], _, _, _ => rfl)
  exact ⟨_, _, fd, _, _, t.g_Web, t.mk_Web, hb, fun W xs vs zs us a r1 r2 h1 h2 => ⟨by simp [b_mk_Web_marks_ties, h1, h2], vs ++ us, rfl, r1.append r2⟩, fn_Web_init t F⟩
theorem sc_law_web : FnScope N_law_web ["_law_plain_here"] (defScope st_law_web) := ⟨rfl, rfl, rfl, by decide +kernel, rfl, by decide +kernel, by decide +kernel⟩
theorem ok_law_web (t : Facts P w K mg) : DefF P w K mg base "_law_web" ["_law_plain_here"] 10 m_law_web := by
  obtain ⟨fd, F⟩ := t.F_law_web
  exact ⟨_, fd, t.g_law_web, F.kp, (F.bindsN fun _ _ _ _ _ _ us hl => match us, hl with | [_], _ => rfl), fn_zD F sc_law_web fun cdv A outer s H E hr => (show FSs _ WF (defBody st_law_web) b_law_web from
  (fss_cons (fs_par (i := 1) (j := 2) rfl sc_law_web.nd rfl rfl (by decide) rfl rfl (fa_cons fe_dnewM (fa_cons fe_dnewM fa_nil)))
  (fss_cons (fs_for (passes_of rfl) rfl (fi_keys (fe_ix (Room.u1 hr) fe_name fe_int)) (fg_name (i := 3) sc_law_web.nd)
  (fss_one (fs_asg (fe_callTy (cz_listA rfl) rfl t.n_list (by decide +kernel) (fa_cons (fe_ix (Room.u1 hr) (fe_ix (Room.u1 hr) fe_name fe_int) fe_name) fa_nil)) (fg_sub (Room.u1 hr) fe_name fe_name))))
  (fss_cons (fs_for (passes_of rfl) rfl (fi_keys (fe_ix (Room.u1 hr) fe_name fe_int)) (fg_name (i := 3) sc_law_web.nd)
  (fss_one (fs_asg (fe_callTy (cz_listA rfl) rfl t.n_list (by decide +kernel) (fa_cons (fe_ix (Room.u1 hr) (fe_ix (Room.u1 hr) fe_name fe_int) fe_name) fa_nil)) (fg_sub (Room.u1 hr) fe_name fe_name))))
  (fss_one (fs_ret (fe_mkK zMk_F (mk_Web_marks_ties t) (hr.mono (by decide)) rfl (fl_cons fl_nil) (fl_cons (fl_cons fl_nil)) rfl (fa_cons (fe_ix (Room.u1 hr) fe_name fe_int) fa_nil) (fk_cons (fe_frz fe_name) (fk_cons (fe_frz fe_name) fk_nil)))))))))⟩
theorem sc_Web_painted : FnScope N_Web_painted ["self", "name", "nodes"] (defScope st_Web_painted) := ⟨rfl, rfl, rfl, by decide +kernel, rfl, by decide +kernel, by decide +kernel⟩
theorem ok_Web_painted (t : Facts P w K mg) : MthD P w K mg base "Web" "painted" ["self", "name", "nodes"] 10 m_Web_painted := by
  obtain ⟨fd, F⟩ := t.F_Web_painted
  exact ⟨_, fd, t.m_Web_painted, (F.bindsN fun _ _ _ _ _ _ us hl => match us, hl with | [_, _, _], _ => rfl), fn_zDE F sc_Web_painted fun cdv A outer s H E hr tk => (show FSs _ (WE' E) (defBody st_Web_painted) b_Web_painted from
  (fss_cons (fs_if (ft_not (ft_val (fe_callT tk (ok_is_name t) (hr.mono (by decide)) rfl (fl_cons fl_nil) rfl rfl (fa_cons fe_name fa_nil))))
  (fss_one (fs_raise (rai_InvalidName t) (hr.mono (by walk_at "z8")) rfl tk rfl (by decide) (fa_cons fe_name fa_nil)))
  fss_nil)
  (fss_one (fs_ret (fe_mkKT tk zMk_F (mk_Web_marks_ties t) (hr.mono (by decide)) rfl (fl_cons fl_nil) (fl_cons (fl_cons fl_nil)) rfl (fa_cons (fe_fld t.fld_own_size fe_name) fa_nil) (fk_cons (fe_dispU zDc_end (fe_fld t.fld_own_marks fe_name) fe_name (fe_callTy (cz_listA rfl) rfl t.n_list (by decide +kernel) (fa_cons fe_name fa_nil))) (fk_cons (fe_fld t.fld_own_ties fe_name) fk_nil)))))))⟩
theorem sc_Web_redrawn : FnScope N_Web_redrawn ["self", "name", "pairs"] (defScope st_Web_redrawn) := ⟨rfl, rfl, rfl, by decide +kernel, rfl, by decide +kernel, by decide +kernel⟩
theorem ok_Web_redrawn (t : Facts P w K mg) : MthD P w K mg base "Web" "redrawn" ["self", "name", "pairs"] 10 m_Web_redrawn := by
  obtain ⟨fd, F⟩ := t.F_Web_redrawn
  exact ⟨_, fd, t.m_Web_redrawn, (F.bindsN fun _ _ _ _ _ _ us hl => match us, hl with | [_, _, _], _ => rfl), fn_zDE F sc_Web_redrawn fun cdv A outer s H E hr tk => (show FSs _ (WE' E) (defBody st_Web_redrawn) b_Web_redrawn from
  (fss_cons (fs_if (ft_not (ft_val (fe_callT tk (ok_is_name t) (hr.mono (by decide)) rfl (fl_cons fl_nil) rfl rfl (fa_cons fe_name fa_nil))))
  (fss_one (fs_raise (rai_InvalidName t) (hr.mono (by walk_at "z8")) rfl tk rfl (by decide) (fa_cons fe_name fa_nil)))
  fss_nil)
  (fss_one (fs_ret (fe_mkKT tk zMk_F (mk_Web_marks_ties t) (hr.mono (by decide)) rfl (fl_cons fl_nil) (fl_cons (fl_cons fl_nil)) rfl (fa_cons (fe_fld t.fld_own_size fe_name) fa_nil) (fk_cons (fe_fld t.fld_own_marks fe_name) (fk_cons (fe_dispU zDc_end (fe_fld t.fld_own_ties fe_name) fe_name (fe_callTy (cz_listA rfl) rfl t.n_list (by decide +kernel) (fa_cons fe_name fa_nil))) fk_nil)))))))⟩
theorem sc_Web_repr : FnScope N_Web_repr ["self"] (defScope st_Web_repr) := ⟨rfl, rfl, rfl, by decide +kernel, rfl, by decide +kernel, by decide +kernel⟩
theorem ok_Web_repr (t : Facts P w K mg) : MthsG P w K mg base ["Web"] "__repr__" ["self"] 1 m_Web_repr := by
  obtain ⟨fd, F⟩ := t.F_Web_repr
  exact ⟨_, fd, t.m_Web_repr, (F.bindsN fun _ _ _ _ _ _ us hl => match us, hl with | [_], _ => rfl), fn_zG F sc_Web_repr fun cdv A outer s H E hG hr => (show FSs _ WF (defBody st_Web_repr) b_Web_repr from
  (fss_one (fs_ret (fe_joined (fj_cons fe_str (fj_cons (fe_fmt (fe_fld t.fld_own_size fe_name)) (fj_cons fe_str (fj_cons (fe_fmtD t.sysm hr hG (fe_fld t.fld_own_marks fe_name)) (fj_cons fe_str (fj_cons (fe_fmtD t.sysm hr hG (fe_fld t.fld_own_ties fe_name)) (fj_cons fe_str fj_nil)))))))))))⟩
theorem sc_law : FnScope N_law ["_law_script"] (defScope st_law) := ⟨rfl, rfl, rfl, by decide +kernel, rfl, by decide +kernel, by decide +kernel⟩
theorem ok_law (t : Facts P w K mg) {fd : FuncData} (F : FunD K "law" "law" (defArgs st_law) (defBody st_law) (defScope st_law) [] [] (He.fAd K ("law", none)) fd) : FnG P w K mg base (L2.CX P w) 11 (He.fAd K ("law", none)) fd ["_law_script"] (SpZ K mg 1 m_law) :=
  fn_zG F sc_law fun cdv A outer s H E hG hr => (show FSs _ WF (defBody st_law) b_law from
  (fss_cons (fs_set (i := 1) sc_law.nd rfl (fe_call (ok_law_bag t) (hr.mono (by decide)) rfl (fl_cons fl_nil) rfl rfl (fa_cons fe_name fa_nil)))
  (fss_cons (fs_for (passes_of rfl) rfl (fi_rng1 rfl t.n_range (fa_cons fe_int fa_nil)) (fg_name (i := 2) sc_law.nd)
  (fss_cons (fs_set (i := 3) sc_law.nd rfl (fe_call (ok_law_names t) (hr.mono (by decide)) rfl (fl_cons fl_nil) rfl rfl (fa_cons fe_name fa_nil)))
  (fss_cons (fs_set (i := 4) sc_law.nd rfl (fe_call (ok_law_plain t) (hr.mono (by decide)) rfl (fl_cons (fl_cons (fl_cons fl_nil))) rfl rfl (fa_cons fe_name (fa_cons fe_name (fa_cons fe_int fa_nil)))))
  (fss_cons (fs_asg (fe_tup (fl_cons (fl_cons fl_nil)) (ha := (fa_cons (fe_ix (Room.u1 hr) fe_name fe_int) (fa_cons (fe_call (ok_law_web t) (hr.mono (by decide)) rfl (fl_cons fl_nil) rfl rfl (fa_cons fe_name fa_nil)) fa_nil)))) (fg_tup rfl (fgs_cons (fg_name (i := 5) sc_law.nd) (fgs_cons (fg_name (i := 6) sc_law.nd) fgs_nil))))
  (fss_cons (fs_if (FW.ft (fw_or (ft_cmp (oz_ownNe (ok_Web_eq t) t.own (hr.mono (by decide)) rfl) fe_name (fe_call (ok_law_web t) (hr.mono (by decide)) rfl (fl_cons fl_nil) rfl rfl (fa_cons fe_name fa_nil))) (fw_or1 (ft_not (ft_cmp (oz_ownEq (ok_Web_eq t) t.own (hr.mono (by decide)) rfl) fe_name fe_name)))))
  (fss_one (fs_ret fe_bl))
  fss_nil)
  (fss_cons (fs_asg (fe_tup (fl_cons (fl_cons (fl_cons fl_nil))) (ha := (fa_cons (fe_call (ok_law_draw t) (hr.mono (by decide)) rfl (fl_cons (fl_cons fl_nil)) rfl rfl (fa_cons fe_name (fa_cons fe_name fa_nil))) (fa_cons (fe_ix (Room.u1 hr) fe_name (fe_call (ok_law_draw t) (hr.mono (by decide)) rfl (fl_cons (fl_cons fl_nil)) rfl rfl (fa_cons fe_name (fa_cons fe_int fa_nil)))) (fa_cons (fe_ix (Room.u1 hr) fe_name (fe_bin oz_add fe_int (fe_call (ok_law_draw t) (hr.mono (by decide)) rfl (fl_cons (fl_cons fl_nil)) rfl rfl (fa_cons fe_name (fa_cons fe_int fa_nil))))) fa_nil))))) (fg_tup rfl (fgs_cons (fg_name (i := 7) sc_law.nd) (fgs_cons (fg_name (i := 8) sc_law.nd) (fgs_cons (fg_name (i := 9) sc_law.nd) fgs_nil)))))
  (fss_cons (fs_set (i := 10) sc_law.nd rfl (fe_tup (fl_cons (fl_cons fl_nil)) (ha := (fa_cons fe_name (fa_cons (fe_call (ok_law_draw t) (hr.mono (by decide)) rfl (fl_cons (fl_cons fl_nil)) rfl rfl (fa_cons fe_name (fa_cons fe_name fa_nil))) fa_nil)))))
  (fss_cons (fs_setLc (i := 11) zLst_end rfl sc_law.nd rfl rfl (sw_true rfl rfl rfl (by decide +kernel)) (fi_rng1 rfl t.n_range (fa_cons fe_name fa_nil)) (blkOk_by (own := [("_law_x", 12)]) (N := N_law) (sc := (defScope st_law)) (by decide +kernel)) (by decide) (fun _ _ _ _ _ => (fg_name (i := 12) sc_law.nd)) (fun _ _ _ _ _ => (fts_one (ft_cmp (oz_neD (Room.u64 hr)) (fe_cmp (oz_in (Room.u hr)) fe_name (fe_get2 (Room.u1 hr) (fe_ix (Room.u1 hr) fe_name fe_int) fe_name (fe_lst fl_nil (ha := fa_nil)))) (fe_cmp (oz_eqD (Room.u64 hr)) fe_name fe_name)))) (fun _ _ _ _ _ => fe_name))
  (fss_cons (fs_set (i := 13) sc_law.nd rfl (fe_get2 (Room.u1 hr) (fe_ix (Room.u1 hr) fe_name fe_int) fe_name (fe_lst fl_nil (ha := fa_nil))))
  (fss_cons (fs_setLc (i := 14) zLst_end rfl sc_law.nd rfl rfl (sw_true rfl rfl rfl (by decide +kernel)) (fi_list (fe_call (ok_law_square t) (hr.mono (by decide)) rfl (fl_cons fl_nil) rfl rfl (fa_cons fe_name fa_nil))) (blkOk_by (own := [("_law_one_here", 15)]) (N := N_law) (sc := (defScope st_law)) (by decide +kernel)) (by decide) (fun _ _ _ _ _ => (fg_name (i := 15) sc_law.nd)) (fun _ _ _ _ _ => (fts_one (ft_cmp (oz_neD (Room.u64 hr)) (fe_cmp (oz_in (Room.u hr)) fe_name fe_name) (fe_cmp (oz_eqD (Room.u64 hr)) fe_name fe_name)))) (fun _ _ _ _ _ => fe_name))
  (fss_cons (fs_set (i := 16) sc_law.nd rfl (fe_lst (fl_cons (fl_cons (fl_cons fl_nil))) (ha := (fa_cons (fe_mth (ok_Web_painted t) (hr.mono (by decide)) (fl_cons (fl_cons fl_nil)) rfl fe_name (fa_cons fe_name (fa_cons fe_name fa_nil))) (fa_cons (fe_mth (ok_Web_redrawn t) (hr.mono (by decide)) (fl_cons (fl_cons fl_nil)) rfl fe_name (fa_cons fe_name (fa_cons fe_name fa_nil))) (fa_cons (fe_mkK zMk_F (mk_Web_marks_ties t) (hr.mono (by decide)) rfl (fl_cons fl_nil) (fl_cons (fl_cons fl_nil)) rfl (fa_cons (fe_bin oz_add fe_name fe_int) fa_nil) (fk_cons (fe_ix (Room.u1 hr) fe_name fe_int) (fk_cons (fe_ix (Room.u1 hr) fe_name fe_int) fk_nil))) fa_nil))))))
  (fss_cons (fs_if (ft_cmp (oz_in (Room.u hr)) fe_bl (fe_lc zLst_end rfl sc_law.nd (fi_list fe_name) (blkOk_by (own := [("_law_other", 17)]) (N := N_law) (sc := (defScope st_law)) (by decide +kernel)) (by decide) (fun _ _ _ _ _ => (fg_name (i := 17) sc_law.nd)) (fun _ _ _ _ _ => fts_nil) (fun _ _ _ _ _ => (fe_or (fe_cmp (oz_ownEq (ok_Web_eq t) t.own (hr.mono (by decide)) rfl) fe_name fe_name) (fe_one (fe_cmp (oz_ownEq (ok_Web_eq t) t.own (hr.mono (by decide)) rfl) fe_name fe_name))))))
  (fss_one (fs_ret fe_bl))
  fss_nil)
  (fss_cons (fs_if (ft_cmp (oz_ownNe (ok_Web_eq t) t.own (hr.mono (by decide)) rfl) (fe_mth (ok_Web_painted t) (hr.mono (by decide)) (fl_cons (fl_cons fl_nil)) rfl (fe_ix (Room.u1 hr) fe_name fe_int) (fa_cons fe_name (fa_cons (fe_ix (Room.u1 hr) (fe_ix (Room.u1 hr) fe_name fe_int) fe_name) fa_nil))) fe_name)
  (fss_one (fs_ret fe_bl))
  fss_nil)
  (fss_cons (fs_if (ft_cmp (oz_ownNe (ok_Web_eq t) t.own (hr.mono (by decide)) rfl) (fe_mth (ok_Web_redrawn t) (hr.mono (by decide)) (fl_cons (fl_cons fl_nil)) rfl (fe_ix (Room.u1 hr) fe_name fe_int) (fa_cons fe_name (fa_cons (fe_ix (Room.u1 hr) (fe_ix (Room.u1 hr) fe_name fe_int) fe_name) fa_nil))) fe_name)
  (fss_one (fs_ret fe_bl))
  fss_nil)
  (fss_one (fs_if (ft_cmp (oz_in (Room.u hr)) fe_bl (fe_lc zLst_end rfl sc_law.nd (fi_list (fe_lst (fl_cons (fl_cons (fl_cons (fl_cons fl_nil)))) (ha := (fa_cons fe_non (fa_cons fe_name (fa_cons (fe_callB (cz_ownReprG (ok_Web_repr t) hG (hr.mono (by decide)) rfl) rfl t.n_repr (by decide +kernel) (fa_cons fe_name fa_nil)) (fa_cons (fe_tup (fl_cons (fl_cons (fl_cons fl_nil))) (ha := (fa_cons fe_name (fa_cons (fe_ix (Room.u1 hr) fe_name fe_int) (fa_cons (fe_ix (Room.u1 hr) fe_name fe_int) fa_nil))))) fa_nil))))))) (blkOk_by (own := [("_law_value", 18)]) (N := N_law) (sc := (defScope st_law)) (by decide +kernel)) (by decide) (fun _ _ _ _ _ => (fg_name (i := 18) sc_law.nd)) (fun _ _ _ _ _ => fts_nil) (fun _ _ _ _ _ => (fe_cmp (oz_ownEq (ok_Web_eq t) t.own (hr.mono (by decide)) rfl) fe_name fe_name))))
  (fss_one (fs_ret fe_bl))
  fss_nil))))))))))))))))
  (fss_one (fs_ret fe_bl)))))
end
end K05
namespace K05
open PySem PySem.Spec PyProof.Rows L2 Z
local macro_rules | `(tactic| walk_at "z1") => `(tactic| first
  | with_reducible refine sps_seq ?_
  | with_reducible refine sp_name (by with_unfolding_all rfl) ?_
  | with_reducible refine sp_c ?_
  | with_reducible refine sp_bin ?_
  | with_reducible refine sp_cons ?_
  | with_reducible refine sp_nil ?_
  | with_reducible refine sp_args ?_
  | with_reducible refine sp_call0 ?_
  | with_reducible refine sp_tV ?_
  | with_reducible refine sp_asB ?_
  | with_reducible refine sps_set ?_
  | with_reducible refine setTo_s (by with_unfolding_all rfl) ?_
  | with_reducible refine setTo_0 ?_
  | with_reducible refine thn_nx ?_
  | with_reducible refine thn_rt ?_
  | with_reducible refine sps_if ?_
  | with_reducible refine wy_t ?_
  | with_reducible refine wy_f ?_
  | with_reducible refine wy_xf ?_
  | with_reducible refine wy_xt ?_
  | with_reducible refine wy_n ?_
  | with_reducible refine sps_ret ?_
  | with_reducible refine fn_rt ?_
  | with_reducible refine fn_nx ?_
  | with_reducible refine sps_expr ?_
  | with_reducible refine sps_next ?_
  | with_reducible refine sps_retN ?_
  | with_reducible refine sps_brk ?_
  | with_reducible refine sps_cont ?_
  | with_reducible refine lp_nx ?_
  | with_reducible refine lp_rt ?_
  | with_reducible refine lp_bk ?_
  | with_reducible refine lp_ct ?_
  | with_reducible refine startTo_c (by with_unfolding_all rfl) ?_
  | with_reducible refine startTo_n (by with_unfolding_all rfl) ?_
  | with_reducible refine startTo_0 ?_
  | with_reducible refine wipeTo_cons ?_
  | with_reducible refine wipeTo_nil ?_
  | with_reducible refine sp_addI ?_
  | with_reducible refine sp_sub ?_
  | with_reducible refine sp_lt ?_
  | with_reducible refine sp_le ?_
  | with_reducible refine sp_gt ?_
  | with_reducible refine sp_ge ?_
  | with_reducible refine sp_mul (by first | exact Or.inl (by constructor <;> omega) | exact Or.inr (by constructor <;> omega)) ?_
  | with_reducible refine sp_mod (by omega) ?_
  | with_reducible refine sp_div (by omega) ?_
  | with_reducible refine sp_eqI ?_
  | with_reducible refine sp_eqB ?_
  | with_reducible refine sp_isN0 ?_
  | with_reducible refine sp_isNd (by with_unfolding_all (intro z; cases z)) ?_
  | with_reducible refine sp_lstP ?_
  | with_reducible refine sp_tupP ?_
  | with_reducible refine pvsTo_c ?_
  | with_reducible refine pvsTo_n ?_
  | with_reducible refine pvsTo_m ?_
  | with_reducible refine sp_lstM ?_
  | with_reducible refine sp_tAnd ?_
  | with_reducible refine sp_tOr ?_
  | with_reducible refine sp_tNot ?_
  | with_reducible refine sp_tYes ?_
  | with_reducible refine sp_and ?_
  | with_reducible refine sp_or ?_
  | with_reducible refine sp_not ?_
  | with_reducible refine sp_ifE ?_
  | with_reducible refine sp_chain ?_
  | with_reducible refine sp_un ?_
  | with_reducible refine sp_frz ?_
  | with_reducible refine sp_mkD ?_
  | with_reducible refine sp_mkD0 ?_
  | with_reducible refine sp_gN ?_
  | with_reducible refine sp_gNil ?_
  | with_reducible refine sp_gCons ?_
  | with_reducible refine sp_gTup rfl ?_
  | with_reducible refine sps_asg ?_
  | with_reducible refine sps_for ?_
  | with_reducible refine sps_par ?_
  | with_reducible refine sp_sl ?_
  | with_reducible refine sp_oN ?_
  | with_reducible refine sp_oS ?_
  | with_reducible refine asI ?_
  | with_reducible refine sp_slL ?_
  | with_reducible refine sp_slT ?_
  | with_reducible refine sp_slC ?_
  | with_reducible refine two_ex ?_
  | with_reducible refine src_pl ?_
  | with_reducible refine src_tup ?_
  | with_reducible refine src_dct ?_
  | with_reducible refine sp_gSub ?_
  | with_reducible refine sp_frzP ?_
  | with_reducible refine sp_mkK ?_
  | with_reducible refine sp_mkD0' ?_
  | with_reducible refine sp_src ?_
  | with_reducible refine sp_srcT ?_
  | with_reducible refine sp_srcD ?_
  | with_reducible refine sp_rng ?_
  | with_reducible refine sp_lc ?_
  | with_reducible refine sp_isiT (by with_unfolding_all rfl) ?_
  | with_reducible refine sp_isiF (by with_unfolding_all rfl) ?_
  | with_reducible refine sp_lenL ?_
  | with_reducible refine sp_lenT ?_
  | with_reducible refine sp_allL ?_
  | with_reducible refine sp_inS ?_
  | with_reducible refine sp_join ?_
  | with_reducible refine sp_joinK ?_
  | with_reducible refine sp_zip ?_
  | with_reducible refine sp_zipL ?_
  | with_reducible refine sp_zipT ?_
  | with_reducible refine sp_srcS ?_
  | with_reducible refine src_str ?_
  | with_reducible refine sp_clean0 ?_
  | with_reducible refine wy_dT (by with_unfolding_all (first | rfl | omega)) ?_
  | with_reducible refine wy_dF (by with_unfolding_all omega) ?_
  | with_reducible refine sp_cleanR ?_
  | with_reducible refine sp_ok ?_)
local macro_rules | `(tactic| walk_at "zg") => `(tactic| repeat (walk_at "z1"))
theorem is_count_int (i a b : Int) (lh : LH) : m_is_count [.pv (.int i), .pv (.int a), .pv (.int b)] lh = .ok (.pv (.bl (decide (a ≤ i) && decide (i ≤ b)))) lh := by
  by_cases h : a ≤ i <;> simp [m_is_count, mOf_eq, sNoX_eq, b_is_count, sRet, fAnd, fNot, fChain, fBin, fName, fC, fArgs, fCons, fNil, startE, zIsi, tyO, tyT, subT, ownK, sBind, zII, gLe, h]
theorem check_node_ok (size i : Int) (lh : LH) (h0 : 0 ≤ i) (h1 : i < size) : m_check_node [.pv (.int size), .pv (.int i)] lh = .ok (.pv .non) lh := by
  have h2 : i ≤ size - 1 := by omega
  first | (simp [m_check_node, mOf_eq, sNoX_eq, b_check_node, sIf, tNotZ, tV, fCallD, fBin, fName, fC, fCons, fNil, startE, sBind, zII, Z.gSub, is_count_int, h0, h2, sNext]; done) | simp [m_check_node, mOfE, mOf_eq, b_check_node, sIf, tNotZ, tV, fCallD, fBin, fName, fC, fCons, fNil, startE, sBind, zII, Z.gSub, is_count_int, h0, h2, sNext]
theorem check_pair_ok (size x y : Int) (lh : LH) (h0 : 0 ≤ x) (h1 : x < size) (h2 : 0 ≤ y) (h3 : y < size) : m_check_pair [.pv (.int size), .pv (tupP [x, y])] lh = .ok (.pv .non) lh := by
  have h4 : x ≤ size - 1 := by omega
  have h5 : y ≤ size - 1 := by omega
  first | (simp [m_check_pair, mOf_eq, sNoX_eq, b_check_pair, sIf, sSeq, tNotZ, tOrZ, tV, fCallD, fBin, fName, fC, fArgs, fCons, fNil, startE, sBind, zII, Z.gSub, is_count_int, h0, h2, h4, h5, sNext, tupP, zIsi, tyO, tyT, subT, zLenA, zEq_int, zIx, atI, ixN]; done) | simp [m_check_pair, mOfE, mOf_eq, b_check_pair, sIf, sSeq, tNotZ, tOrZ, tV, fCallD, fBin, fName, fC, fArgs, fCons, fNil, startE, sBind, zII, Z.gSub, is_count_int, h0, h2, h4, h5, sNext, tupP, zIsi, tyO, tyT, subT, zLenA, zEq_int, zIx, atI, ixN]
def nms : List Str := ["a", "b", "k", "m", "q", "qa", "qq", "zebra", "x", "ties", "tie", "abcdefgh", "h", "ys", "nots"]
/-- a dict of lists -/
def pD {α : Type} (f : α → PV) (d : List (Str × List α)) : List (PV × PV) := d.map fun p => (PV.str p.1, PV.lst (p.2.map f))
theorem getP_pD {α : Type} (f : α → PV) (s : Str) : ∀ d : List (Str × List α), getP (pD f d) (.str s) = (d.lookup s).map fun xs => .lst (xs.map f)
  | [] => rfl
  | (t, xs) :: d => by
    have ih := getP_pD f s d
    unfold getP at ih ⊢
    unfold pD at ih ⊢
    rw [List.map_cons, List.find?_cons, List.lookup_cons]
    by_cases h : t = s
    · subst h; simp
    · have h2 : (s == t) = false := beq_eq_false_iff_ne.mpr (Ne.symm h)
      simp only [h2]
      rw [← ih]
      simp [h]
theorem zIx_dct {kvs : List (PV × PV)} {k v : PV} {lh : LH} (h : getP kvs k = some v) : zIx (.pv (.dct kvs)) (.pv k) lh = .ok (.pv v) lh := by
  unfold zIx
  simp only [dctOf_up, getD_up, h]
  rfl
theorem srtD_mem {l : List Str} {s : Str} : s ∈ srtD ltS l ↔ s ∈ l := perm_srtD.mem_iff
/-- what stands in a cleaned dict -/
def cD {α : Type} (f : α → PV) (srt : List α → List α) (d : List (Str × List α)) (s : Str) : Option (PV × PV) := match d.lookup s with
  | some xs => if 0 < xs.length then some (.str s, .lst ((srt xs).map f)) else none
  | none => none
def cm {α : Type} (f : α → PV) (srt : List α → List α) (d : List (Str × List α)) : List (PV × PV) := ((srtD ltS (d.map (·.1))).filterMap (cD f srt d)).foldl (fun a kv => putP a kv.1 kv.2) []
theorem getP_fold {α : Type} (f : α → PV) (srt : List α → List α) (d : List (Str × List α)) (s : Str) : ∀ (l : List Str) (acc : List (PV × PV)), s ∉ l → getP ((l.filterMap (cD f srt d)).foldl (fun a kv => putP a kv.1 kv.2) acc) (.str s) = getP acc (.str s)
  | [], acc, _ => rfl
  | t :: l, acc, h => by
    have h1 : s ≠ t := fun e => h (e ▸ List.mem_cons_self ..)
    have h2 : s ∉ l := fun e => h (List.mem_cons_of_mem _ e)
    cases q : cD f srt d t with
    | none => rw [List.filterMap_cons_none q]; exact getP_fold f srt d s l acc h2
    | some kv =>
      rw [List.filterMap_cons_some q, List.foldl_cons, getP_fold f srt d s l _ h2, getP_put]
      have : kv.1 = .str t := by
        unfold cD at q
        split at q
        · split at q
          · cases q; rfl
          · cases q
        · cases q
      rw [this, if_neg (by simpa using h1)]
theorem getP_fold2 {α : Type} (f : α → PV) (srt : List α → List α) (d : List (Str × List α)) (s : Str) : ∀ (l : List Str) (acc : List (PV × PV)), s ∈ l → getP acc (.str s) = none ∨ True → getP ((l.filterMap (cD f srt d)).foldl (fun a kv => putP a kv.1 kv.2) acc) (.str s) = match cD f srt d s with
    | some kv => some kv.2
    | none => getP acc (.str s)
  | [], acc, h, _ => nomatch h
  | t :: l, acc, h, hx => by
    by_cases hl : s ∈ l
    · cases q : cD f srt d t with
      | none => rw [List.filterMap_cons_none q]; exact getP_fold2 f srt d s l acc hl hx
      | some kv =>
        rw [List.filterMap_cons_some q, List.foldl_cons, getP_fold2 f srt d s l _ hl (.inr trivial)]
        cases q2 : cD f srt d s with
        | some kv2 => rfl
        | none =>
          show getP (putP acc kv.1 kv.2) (.str s) = getP acc (.str s)
          rw [getP_put]
          have : kv.1 = .str t := by
            unfold cD at q
            split at q
            · split at q
              · cases q; rfl
              · cases q
            · cases q
          rw [this, if_neg]
          intro e
          have : s = t := by simpa using e
          subst this
          rw [q] at q2; cases q2
    · have : s = t := (List.mem_cons.mp h).resolve_right hl
      subst this
      cases q : cD f srt d s with
      | none => rw [List.filterMap_cons_none q, getP_fold f srt d s l acc hl]
      | some kv =>
        rw [List.filterMap_cons_some q, List.foldl_cons, getP_fold f srt d s l _ hl, getP_put]
        have : kv.1 = .str s := by
          unfold cD at q
          split at q
          · split at q
            · cases q; rfl
            · cases q
          · cases q
        rw [if_pos this.symm]
theorem getP_cm {α : Type} (f : α → PV) (srt : List α → List α) (d : List (Str × List α)) (s : Str) : (getP (cm f srt d) (.str s)).getD (.lst []) = .lst ((match d.lookup s with | some xs => if 0 < xs.length then srt xs else [] | none => []).map f) := by
  unfold cm
  by_cases h : s ∈ srtD ltS (d.map (·.1))
  · rw [getP_fold2 f srt d s _ [] h (.inr trivial)]
    unfold cD
    cases q : d.lookup s with
    | none => rfl
    | some xs =>
      by_cases h2 : 0 < xs.length
      · simp [h2]
      · simp [h2]; rfl
  · rw [getP_fold f srt d s _ [] h]
    have : d.lookup s = none := by
      cases q : d.lookup s with
      | none => rfl
      | some xs =>
        refine absurd (srtD_mem.mpr ?_) h
        clear h
        induction d with
        | nil => cases q
        | cons p d ih =>
          rw [List.lookup_cons] at q
          split at q
          · next e => rw [beq_iff_eq.mp e]; exact List.mem_cons_self ..
          · exact List.mem_cons_of_mem _ (ih q)
    rw [this]; rfl
/-- a name, as the program tells one -/
def NmG (s : Str) : Prop := (∀ lh, m_is_name [.pv (.str s)] lh = .ok (.pv (.bl true)) lh) ∧ PyData.strOk s = true
def bClean (mc : List LV → LH → Res LV) : EN → LH → SRes := (sSeq (sFor (fSrcD kyD (fName 1)) (gN 2)
  (sSeq (sIf (tNotZ (tV (fCallD m_is_name [] (fCons (fName 2) fNil))))
  sStuck
  sNext)
  (sFor (fSrc (fBin zIx (fName 1) (fName 2))) (gN 3)
  (sExpr (fCallD mc [] (fCons (fName 0) (fCons (fName 3) fNil)))))))
  (sRet (fDc zDc [2] (fSrc (fArgs zSorted (fCons (fName 1) fNil))) (gN 2) (tV (fBin (zII gGt) (fArgs zLenA (fCons (fBin zIx (fName 1) (fName 2)) fNil)) (fC (.int 0)))) (fName 2) (fArgs zSortSet (fCons (fBin zIx (fName 1) (fName 2)) fNil)))))
theorem look_mem {α : Type} {d : List (Str × List α)} {s : Str} (h : s ∈ d.map (·.1)) : ∃ xs, d.lookup s = some xs := by
  induction d with
  | nil => cases h
  | cons p d ih =>
    rw [List.lookup_cons]
    by_cases e : s = p.1
    · subst e; exact ⟨p.2, by simp⟩
    · have e2 : (s == p.1) = false := beq_eq_false_iff_ne.mpr e
      simp only [e2]
      exact ih ((List.mem_cons.mp h).resolve_left e)
theorem szK_pD {α : Type} (f : α → PV) : ∀ d : List (Str × List α), szK (upP (pD f d)) = some (d.map (·.1))
  | [] => rfl
  | p :: d => by
    show (szK (upP (pD f d))).map (p.1 :: ·) = _
    rw [szK_pD f d]; rfl
theorem kyD_pD {α : Type} (f : α → PV) (d : List (Str × List α)) : kyD (pD f d) = (d.map (·.1)).map fun s => .pv (.str s) := by
  unfold kyD pD
  rw [List.map_map, List.map_map]; rfl
theorem clean_loop {α : Type} {mc : List LV → LH → Res LV} {f : α → PV} {size : LV} {d : List (Str × List α)} {lh : LH} (hn : ∀ s ∈ d.map (·.1), NmG s) (hc : ∀ s xs, d.lookup s = some xs → ∀ z ∈ xs, mc [size, .pv (f z)] lh = .ok (.pv .non) lh) :
    ∃ x y, forL yes (gN 2) (sSeq (sIf (tNotZ (tV (fCallD m_is_name [] (fCons (fName 2) fNil)))) sStuck sNext) (sFor (fSrc (fBin zIx (fName 1) (fName 2))) (gN 3) (sExpr (fCallD mc [] (fCons (fName 0) (fCons (fName 3) fNil))))))
      (kyD (pD f d)) [some size, some (.pv (.dct (pD f d))), none, none] lh = .next [some size, some (.pv (.dct (pD f d))), x, y] lh := by
  refine forL_ind (fun r env lh' => lh' = lh ∧ (∃ x y, env = [some size, some (.pv (.dct (pD f d))), x, y]) ∧ ∃ l : List Str, r = l.map (fun s => LV.pv (.str s)) ∧ ∀ s ∈ l, s ∈ d.map (·.1)) (fun r => ∃ x y, r = .next [some size, some (.pv (.dct (pD f d))), x, y] lh)
    ?_ ?_ _ _ lh ⟨rfl, ⟨none, none, rfl⟩, d.map (·.1), kyD_pD f d, fun s h => h⟩
  · rintro y r env lh' ⟨rfl, ⟨x, z, rfl⟩, l, hr, hl⟩
    cases l with
    | nil => cases hr
    | cons s l =>
      cases hr
      have hs := hl s (List.mem_cons_self ..)
      obtain ⟨xs, hxs⟩ := look_mem hs
      refine ⟨rfl, [some size, some (.pv (.dct (pD f d))), some (.pv (.str s)), z], lh', rfl, .inl ?_⟩
      have e1 : sIf (tNotZ (tV (fCallD m_is_name [] (fCons (fName 2) fNil)))) sStuck sNext [some size, some (.pv (.dct (pD f d))), some (.pv (.str s)), z] lh' = .next [some size, some (.pv (.dct (pD f d))), some (.pv (.str s)), z] lh' := by
        simp [sIf, tNotZ, tV, fCallD, fCons, fNil, fName, (hn s hs).1, sBind, sNext]
      have e2 : fBin zIx (fName 1) (fName 2) [some size, some (.pv (.dct (pD f d))), some (.pv (.str s)), z] lh' = .ok (.pv (.lst (xs.map f))) lh' := by
        have := zIx_dct (lh := lh') (show getP (pD f d) (.str s) = some (.lst (xs.map f)) by rw [getP_pD, hxs]; rfl)
        simp [fBin, fName, this]
      have e3 : ∃ w, forL (fun lh => sameO (lstOf (.pv (.lst (xs.map f))) lh) ((xs.map f).map .pv)) (gN 3) (sExpr (fCallD mc [] (fCons (fName 0) (fCons (fName 3) fNil)))) ((xs.map f).map .pv) [some size, some (.pv (.dct (pD f d))), some (.pv (.str s)), z] lh' = .next [some size, some (.pv (.dct (pD f d))), some (.pv (.str s)), w] lh' := by
        refine forL_ind (fun r env lh'' => lh'' = lh' ∧ (∃ w, env = [some size, some (.pv (.dct (pD f d))), some (.pv (.str s)), w]) ∧ ∃ l : List α, r = (l.map f).map .pv ∧ ∀ s ∈ l, s ∈ xs) (fun r => ∃ w, r = .next [some size, some (.pv (.dct (pD f d))), some (.pv (.str s)), w] lh')
          ?_ ?_ _ _ lh' ⟨rfl, ⟨z, rfl⟩, xs, rfl, fun s h => h⟩
        · rintro y r env lh'' ⟨rfl, ⟨w, rfl⟩, l, hr, hl⟩
          cases l with
          | nil => cases hr
          | cons u l =>
            cases hr
            refine ⟨by simp, [some size, some (.pv (.dct (pD f d))), some (.pv (.str s)), some (.pv (f u))], lh'', rfl, .inl ⟨[some size, some (.pv (.dct (pD f d))), some (.pv (.str s)), some (.pv (f u))], lh'', .inl ?_, rfl, ⟨some (.pv (f u)), rfl⟩, l, rfl, fun s h => hl s (List.mem_cons_of_mem _ h)⟩⟩
            have := hc s xs hxs u (hl u (List.mem_cons_self ..))
            simp [sExpr, fCallD, fCons, fNil, fName, this]
        · rintro env lh'' ⟨rfl, ⟨w, rfl⟩, _⟩
          exact ⟨by simp, w, rfl⟩
      obtain ⟨w, e3⟩ := e3
      refine ⟨[some size, some (.pv (.dct (pD f d))), some (.pv (.str s)), w], lh', .inl ?_, rfl, ⟨some (.pv (.str s)), w, rfl⟩, l, rfl, fun s h => hl s (List.mem_cons_of_mem _ h)⟩
      rw [sSeq_of e1]
      unfold sFor fSrc
      rw [e2]
      exact e3
  · rintro env lh' ⟨rfl, ⟨x, z, rfl⟩, _⟩
    exact ⟨rfl, x, z, rfl⟩
theorem clean_ret {α : Type} {f : α → PV} {srt : List α → List α} {size : LV} {d : List (Str × List α)} {lh : LH} {x y : Option LV} (h64 : d.length < 64) (hs : ∀ s xs, d.lookup s = some xs → 0 < xs.length → zSortSet [.pv (.lst (xs.map f))] lh = .ok (.pv (.lst ((srt xs).map f))) lh) :
    fDc zDc [2] (fSrc (fArgs zSorted (fCons (fName 1) fNil))) (gN 2) (tV (fBin (zII gGt) (fArgs zLenA (fCons (fBin zIx (fName 1) (fName 2)) fNil)) (fC (.int 0)))) (fName 2) (fArgs zSortSet (fCons (fBin zIx (fName 1) (fName 2)) fNil))
      [some size, some (.pv (.dct (pD f d))), x, y] lh = .ok (.pv (.dct (cm f srt d))) lh := by
  have e1 : fSrc (fArgs zSorted (fCons (fName 1) fNil)) [some size, some (.pv (.dct (pD f d))), x, y] lh = .ok ⟨fun l => sameO (lstOf (lS (srtD ltS (d.map (·.1)))) l) (((srtD ltS (d.map (·.1))).map PV.str).map .pv), ((srtD ltS (d.map (·.1))).map PV.str).map .pv⟩ lh := by
    simp only [fSrc, fArgs, fCons, fNil, fName, List.getElem?_cons_succ, List.getElem?_cons_zero, Res.bind_ok, zSorted, dctOf_up, szK_pD, List.length_map, h64, if_true, lS, lstOf_lst]
  unfold fDc
  rw [e1, Res.bind_ok]
  have e2 : (srtD ltS (d.map (·.1))).length = d.length := by rw [perm_srtD.length_eq, List.length_map]
  rw [if_pos (by rw [List.length_map, List.length_map, e2, sizeLine_eq]; omega)]
  have e3 := dcL_pure (chk := fun l => sameO (lstOf (lS (srtD ltS (d.map (·.1)))) l) (((srtD ltS (d.map (·.1))).map PV.str).map .pv)) (g := gN 2) (t := tV (fBin (zII gGt) (fArgs zLenA (fCons (fBin zIx (fName 1) (fName 2)) fNil)) (fC (.int 0)))) (fk := fName 2) (fv := fArgs zSortSet (fCons (fBin zIx (fName 1) (fName 2)) fNil))
    (env0 := wipeE [some size, some (.pv (.dct (pD f d))), x, y] [2]) (lh := lh) (fun z => match z with | .pv (.str s) => cD f srt d s | _ => none) (by simp [lS]) (((srtD ltS (d.map (·.1))).map PV.str).map .pv) [] (fun z hz => by
      obtain ⟨p, hp, rfl⟩ := List.mem_map.mp hz
      obtain ⟨s, hs', rfl⟩ := List.mem_map.mp hp
      obtain ⟨xs, hxs⟩ := look_mem (srtD_mem.mp hs')
      have e2 := zIx_dct (lh := lh) (show getP (pD f d) (.str s) = some (.lst (xs.map f)) by rw [getP_pD, hxs]; rfl)
      refine ⟨[some size, some (.pv (.dct (pD f d))), some (.pv (.str s)), y], rfl, ?_⟩
      by_cases h0 : 0 < xs.length
      · refine .inl ⟨by simp [tV, fBin, fArgs, fCons, fNil, fName, fC, e2, zLenA, zII, gGt, h0], .str s, .lst ((srt xs).map f), by simp [fName], by simp [fArgs, fCons, fNil, fName, fBin, e2, hs s xs hxs h0], rfl, by simp [cD, hxs, h0]⟩
      · exact .inr ⟨by simp [tV, fBin, fArgs, fCons, fNil, fName, fC, e2, zLenA, zII, gGt, h0], by simp [cD, hxs, h0]⟩)
  have e4 : (((srtD ltS (d.map (·.1))).map PV.str).map LV.pv).filterMap (fun z => match z with | .pv (.str s) => cD f srt d s | _ => none) = (srtD ltS (d.map (·.1))).filterMap (cD f srt d) := by
    rw [List.map_map, List.filterMap_map]; rfl
  rw [e4] at e3
  have e3' : dcL (fun l => sameO (lstOf (lS (srtD ltS (d.map (·.1)))) l) (((srtD ltS (d.map (·.1))).map PV.str).map .pv)) (gN 2) (tV (fBin (zII gGt) (fArgs zLenA (fCons (fBin zIx (fName 1) (fName 2)) fNil)) (fC (.int 0)))) (fName 2) (fArgs zSortSet (fCons (fBin zIx (fName 1) (fName 2)) fNil)) (wipeE [some size, some (.pv (.dct (pD f d))), x, y] [2]) (((srtD ltS (d.map (·.1))).map PV.str).map .pv) [] lh = .ok (upP (cm f srt d)) lh := e3
  refine (congrArg (fun r => (noX r).bind zDc) e3').trans ?_
  show (match pvsD (upP (cm f srt d)) with | some ps => Res.ok (LV.pv (.dct ps)) lh | none => .stuck) = _
  rw [pvsD_map]
theorem bClean_ok {α : Type} {mc : List LV → LH → Res LV} {f : α → PV} {srt : List α → List α} {size : LV} {d : List (Str × List α)} {lh : LH} (h64 : d.length < 64) (hn : ∀ s ∈ d.map (·.1), NmG s) (hc : ∀ s xs, d.lookup s = some xs → ∀ z ∈ xs, mc [size, .pv (f z)] lh = .ok (.pv .non) lh)
    (hs : ∀ s xs, d.lookup s = some xs → 0 < xs.length → zSortSet [.pv (.lst (xs.map f))] lh = .ok (.pv (.lst ((srt xs).map f))) lh) :
    mOf 4 (sNoX (bClean mc)) [size, .pv (.dct (pD f d))] lh = .ok (.pv (.dct (cm f srt d))) lh := by
  obtain ⟨x, y, e⟩ := clean_loop (size := size) hn hc
  rw [mOf_eq, sNoX_eq]
  unfold bClean
  have e0 : startE 4 [size, .pv (.dct (pD f d))] = [some size, some (.pv (.dct (pD f d))), none, none] := rfl
  rw [e0, sSeq_of (env1 := [some size, some (.pv (.dct (pD f d))), x, y]) (lh1 := lh) (by
    unfold sFor
    have : fSrcD kyD (fName 1) [some size, some (.pv (.dct (pD f d))), none, none] lh = .ok ⟨yes, kyD (pD f d)⟩ lh := by simp [fSrcD, fPd, fName, pdOf]
    rw [this]
    exact e), sRet_of (clean_ret h64 hs)]
  simp
theorem mOfE_of {n : Nat} {b : EN → LH → SRes} {xs : List LV} {lh l : LH} {v : LV} (h : mOf n (sNoX b) xs lh = .ok v l) : mOfE n b xs lh = .ok v l := by
  unfold mOfE mOf
  unfold mOf sNoX at h
  cases e : b (startE n xs) lh with
  | exc x y z => rw [e] at h; cases h
  | _ => rw [e] at h; exact h
theorem sortI_ok (xs : List Int) (lh : LH) (h : xs.length < 64) : zSortSet [.pv (.lst (xs.map .int))] lh = .ok (.pv (.lst ((srtU ltZ xs).map .int))) lh := by
  simp [zSortSet, srtSet, h, lI, -List.map_map]
theorem sortT_ok (xs : List (List Int)) (lh : LH) (h : xs.length < 64) (h0 : 0 < xs.length) (hk : okT xs = true) : zSortSet [.pv (.lst (xs.map tupP))] lh = .ok (.pv (.lst ((srtU ltL xs).map tupP))) lh := by
  have : izP (xs.map tupP) = none := by
    cases xs with
    | nil => simp at h0
    | cons x xs => rfl
  simp [zSortSet, srtSet, h, lT, this, hk, -List.map_map]
/-- nodes, pairs within a size -/
def NodesIn (size : Int) (xs : List Int) : Prop := xs.length < 64 ∧ ∀ x ∈ xs, 0 ≤ x ∧ x < size
def PairsIn (size : Int) (xs : List (List Int)) : Prop := xs.length < 64 ∧ ∀ t ∈ xs, ∃ x y, t = [x, y] ∧ 0 ≤ x ∧ x < size ∧ 0 ≤ y ∧ y < size
theorem PairsIn.ok {size : Int} {xs : List (List Int)} (h : PairsIn size xs) : okT xs = true := by
  unfold okT
  cases xs with
  | nil => rfl
  | cons t r =>
    have hl : ∀ u ∈ t :: r, u.length = 2 ∧ ∀ i ∈ u, 0 ≤ i := fun u hu => by
      obtain ⟨x, y, rfl, h1, _, h3, _⟩ := h.2 u hu
      exact ⟨rfl, by simp [h1, h3]⟩
    have ht := hl t (List.mem_cons_self ..)
    simp only [Bool.and_eq_true, decide_eq_true_eq]
    refine ⟨by omega, List.all_eq_true.mpr fun u hu => ?_⟩
    have := hl u hu
    simp only [Bool.and_eq_true, decide_eq_true_eq]
    exact ⟨by omega, List.all_eq_true.mpr fun i hi => by simpa using this.2 i hi⟩
/-- marks, ties in order -/
structure MOk (size : Int) (d : List (Str × List Int)) : Prop where
  len : d.length < 64
  nm : ∀ s ∈ d.map (·.1), NmG s
  v : ∀ s xs, d.lookup s = some xs → NodesIn size xs
structure TOk (size : Int) (d : List (Str × List (List Int))) : Prop where
  len : d.length < 64
  nm : ∀ s ∈ d.map (·.1), NmG s
  v : ∀ s xs, d.lookup s = some xs → PairsIn size xs
abbrev cmM (d : List (Str × List Int)) : PV := .dct (cm .int (srtU ltZ) d)
abbrev cmT (d : List (Str × List (List Int))) : PV := .dct (cm tupP (srtU ltL) d)
theorem clean_marks_ok {size : Int} {d : List (Str × List Int)} (lh : LH) (h : MOk size d) : m_clean_marks [.pv (.int size), .pv (.dct (pD .int d))] lh = .ok (.pv (cmM d)) lh :=
  mOfE_of (bClean_ok (mc := m_check_node) h.len h.nm (fun s xs hx z hz => check_node_ok size z lh ((h.v s xs hx).2 z hz).1 ((h.v s xs hx).2 z hz).2) fun s xs hx _ => sortI_ok xs lh (h.v s xs hx).1)
theorem clean_ties_ok {size : Int} {d : List (Str × List (List Int))} (lh : LH) (h : TOk size d) : m_clean_ties [.pv (.int size), .pv (.dct (pD tupP d))] lh = .ok (.pv (cmT d)) lh :=
  mOfE_of (bClean_ok (mc := m_check_pair) h.len h.nm (fun s xs hx z hz => by
    obtain ⟨x, y, rfl, h1, h2, h3, h4⟩ := (h.v s xs hx).2 z hz
    exact check_pair_ok size x y lh h1 h2 h3 h4) fun s xs hx h0 => sortT_ok xs lh (h.v s xs hx).1 h0 (h.v s xs hx).ok)
def webP (size : Int) (m t : PV) : PV := .obj "Web" [("own_size", .int size), ("own_marks", m), ("own_ties", t)]
theorem ne_sm : ("own_size" : Str) ≠ "own_marks" := by decide +kernel
theorem ne_st : ("own_size" : Str) ≠ "own_ties" := by decide +kernel
theorem ne_mt : ("own_marks" : Str) ≠ "own_ties" := by decide +kernel
theorem clean_same {lh lh' : LH} (h : lh'.length = lh.length) : clean lh lh' = lh' := by
  unfold clean
  split
  · rw [List.take_of_length_le (by omega)]
  · rfl
theorem fld_set (lh : LH) (fs : List (Str × LV)) (f : Str) (v : LV) (env : EN) (fo fv : EN → LH → Res LV) (h1 : fv env (lh ++ [.ins "Web" fs]) = .ok v (lh ++ [.ins "Web" fs])) (h2 : fo env (lh ++ [.ins "Web" fs]) = .ok (.ref lh.length) (lh ++ [.ins "Web" fs])) (h3 : fs.length < 1000) :
    sFldZ ["Web"] f fo fv env (lh ++ [.ins "Web" fs]) = .next env (lh ++ [.ins "Web" (putL f v fs)]) := by
  unfold sFldZ
  rw [h1, sBind_ok, h2, sBind_ok]
  simp [h3]
theorem make_ok {size : Int} {d : List (Str × List Int)} {e : List (Str × List (List Int))} (lh : LH) (h0 : 1 ≤ size) (h1 : size ≤ 300) (hd : MOk size d) (he : TOk size e) :
    zMakeF "Web" m_Web_init [.pv (.int size), .pv (.dct (pD .int d)), .pv (.dct (pD tupP e))] lh = .ok (.pv (webP size (cmM d) (cmT e))) lh := by
  have key : m_Web_init [.ref lh.length, .pv (.int size), .pv (.dct (pD .int d)), .pv (.dct (pD tupP e))] (lh ++ [.ins "Web" []]) = .ok (.pv .non) (lh ++ [.ins "Web" [("own_size", .pv (.int size)), ("own_marks", .pv (cmM d)), ("own_ties", .pv (cmT e))]]) := by
    have hL : ∀ fs : List (Str × LV), (lh ++ [LO.ins "Web" fs]).length = lh.length + 1 := fun fs => by simp
    unfold m_Web_init
    refine mOfE_of ?_
    rw [mOf_eq, sNoX_eq]
    unfold b_Web_init
    have e0 : startE 4 [LV.ref lh.length, .pv (.int size), .pv (.dct (pD .int d)), .pv (.dct (pD tupP e))] = [some (.ref lh.length), some (.pv (.int size)), some (.pv (.dct (pD .int d))), some (.pv (.dct (pD tupP e)))] := rfl
    rw [e0]
    generalize hE : [some (LV.ref lh.length), some (LV.pv (PV.int size)), some (LV.pv (PV.dct (pD PV.int d))), some (LV.pv (PV.dct (pD tupP e)))] = env
    have n0 : ∀ l, fName 0 env l = .ok (.ref lh.length) l := fun l => by subst hE; rfl
    have n1 : ∀ l, fName 1 env l = .ok (.pv (.int size)) l := fun l => by subst hE; rfl
    have n2 : ∀ l, fName 2 env l = .ok (.pv (.dct (pD .int d))) l := fun l => by subst hE; rfl
    have n3 : ∀ l, fName 3 env l = .ok (.pv (.dct (pD tupP e))) l := fun l => by subst hE; rfl
    rw [sSeq_of (env1 := env) (lh1 := lh ++ [.ins "Web" []]) (by simp [sIf, tNotZ, tV, fCallD, fCons, fNil, fC, n1, is_count_int, sBind, h0, h1, sNext])]
    rw [sSeq_of (fld_set lh [] "own_size" (.pv (.int size)) env (fName 0) (fName 1) (n1 _) (n0 _) (by simp))]
    rw [sSeq_of (fld_set lh _ "own_marks" (.pv (cmM d)) env (fName 0) _ (by simp [fCallD, fCons, fNil, fC, n1, n2, fIfE, tV, fBin, zIsN, clean_marks_ok _ hd]) (n0 _) (by simp [putL]))]
    rw [fld_set lh _ "own_ties" (.pv (cmT e)) env (fName 0) _ (by simp [fCallD, fCons, fNil, fC, n1, n3, fIfE, tV, fBin, zIsN, clean_ties_ok _ he]) (n0 _) (by simp [putL, ne_sm, ne_st, ne_mt])]
    simp [clean_same, putL, ne_sm, ne_st, ne_mt]
  unfold zMakeF
  rw [key]
  simp [frzO, pvsF, webP]
def bagO (cs : List Int) (k : Nat) (g m c : Int) : LO := .lst [.pv (.lst (cs.map .int)), .pv (.int k), .pv (.int g), .pv (.int m), .pv (.int c)]
theorem draw_s2 {n : Nat} {lh : LH} {cs : List Int} {k : Nat} {g m c many : Int} (h : lh[n]? = some (bagO cs k g m c)) (hk : k ≤ cs.length) (hg : 0 ≤ g) (hm : 0 ≤ m) (hm2 : m < 2147483629) :
    ∃ x k' g' m', (sIf (tAndZ (tV (fBin (zEqD false) (fBin zIx (fName 0) (fC (.int 2))) (fC (.int 0)))) (tV (fBin (zII gLt) (fBin zIx (fName 0) (fC (.int 1))) (fArgs zLenA (fCons (fBin zIx (fName 0) (fC (.int 0))) fNil)))))
  (sSeq (sAsg (fBin zIx (fBin zIx (fName 0) (fC (.int 0))) (fBin zIx (fName 0) (fC (.int 1)))) (gN 2))
  (sSeq (sAsg (fBin zAdd (fBin zIx (fName 0) (fC (.int 1))) (fC (.int 1))) (gSubZ (fName 0) (fC (.int 1))))
  (sIf (tV (fBin (zII gGe) (fArgs zAbs (fCons (fName 2) fNil)) (fBin (zII gPow) (fC (.int 10)) (fC (.int 18)))))
  (sAsg (fArgs zAbs (fCons (fName 2) fNil)) (gSubZ (fName 0) (fC (.int 2))))
  (sAsg (fBin (zII gMod) (fArgs zInt (fCons (fBin zAdd (fBin zAdd (fBin (zII gMul) (fBin zIx (fName 0) (fC (.int 3))) (fC (.int 43261))) (fBin (zII gMul) (fBin (zII gMod) (fArgs zInt (fCons (fName 2) fNil)) (fC (.int 1000193))) (fC (.int 757)))) (fC (.int 41))) fNil)) (fC (.int 2147483629))) (gSubZ (fName 0) (fC (.int 3)))))))
  sNext) [some (.ref n), some (.pv (.int many)), none, none, none] lh = .next [some (.ref n), some (.pv (.int many)), x, none, none] (lh.set n (bagO cs k' g' m' c)) ∧ k' ≤ cs.length ∧ 0 ≤ g' ∧ 0 ≤ m' ∧ m' < 2147483629 := by
  have hset : ∀ o : LO, (lh.set n o)[n]? = some o := fun o => set_get h
  by_cases h1 : g = 0 ∧ (k : Int) < (cs.length : Nat)
  · obtain ⟨rfl, h2⟩ := h1
    have h3 : k < cs.length := by omega
    have hx : atI ((cs.map PV.int).map LV.pv) (k : Int) = some (.pv (.int cs[k])) := atI_nat (by simp [h3]) (by omega)
    by_cases h4 : (1000000000000000000 : Int) ≤ (if cs[k] < 0 then -cs[k] else cs[k])
    · refine ⟨some (.pv (.int cs[k])), k + 1, (if cs[k] < 0 then -cs[k] else cs[k]), m, ?_, by omega, by omega, hm, hm2⟩
      simp only [bagO] at h
      simp [sIf, sSeq, sAsg, tAndZ, tV, fBin, fName, fC, fArgs, fCons, fNil, zIx, lstOf, h, bagO, atI, ixN, zAdd, zII, gAddI, gLt, gGe, gPow, gSubZ, zPut, sBind, gEnd, zLenA, zEq_int, h3, h4, gN, zAbs, hset]
    · refine ⟨some (.pv (.int cs[k])), k + 1, 0, (m * 43261 + cs[k] % 1000193 * 757 + 41) % 2147483629, ?_, by omega, by omega, by omega, by omega⟩
      simp only [bagO] at h
      simp [sIf, sSeq, sAsg, tAndZ, tV, fBin, fName, fC, fArgs, fCons, fNil, zIx, lstOf, h, bagO, atI, ixN, zAdd, zII, gAddI, gLt, gGe, gPow, gSubZ, zPut, sBind, gEnd, zLenA, zEq_int, h3, h4, gN, zAbs, hset, gMul, gMod, zInt]
  · refine ⟨none, k, g, m, ?_, hk, hg, hm, hm2⟩
    have e : lh.set n (bagO cs k g m c) = lh := set_idem h
    rw [e]
    simp only [bagO] at h
    by_cases h2 : g = 0
    · have h3 : ¬ k < cs.length := by omega
      simp [sIf, sSeq, sAsg, tAndZ, tV, fBin, fName, fC, fArgs, fCons, fNil, zIx, lstOf, h, atI, ixN, zII, gLt, sBind, zLenA, zEq_int, h2, h3, sNext]
    · simp [sIf, sSeq, sAsg, tAndZ, tV, fBin, fName, fC, fArgs, fCons, fNil, zIx, lstOf, h, atI, ixN, zII, gLt, sBind, zLenA, zEq_int, h2, sNext]
theorem draw_ok {n : Nat} {lh : LH} {cs : List Int} {k : Nat} {g m c many : Int} (h : lh[n]? = some (bagO cs k g m c)) (hk : k ≤ cs.length) (hg : 0 ≤ g) (hm : 0 ≤ m) (hm2 : m < 2147483629) (h1 : 0 < many) (h2 : many < 1073741824) :
    ∃ d k' g' m' c', m_law_draw [.ref n, .pv (.int many)] lh = .ok (.pv (.int d)) (lh.set n (bagO cs k' g' m' c')) ∧ 0 ≤ d ∧ d < many ∧ k' ≤ cs.length ∧ 0 ≤ g' ∧ 0 ≤ m' ∧ m' < 2147483629 := by
  have hset : ∀ o : LO, (lh.set n o)[n]? = some o := fun o => set_get h
  obtain ⟨x, k', g', m', e2, q1, q2, q3, q4⟩ := draw_s2 (many := many) (lh := lh.set n (bagO cs k g m (c + 1))) (set_get h) hk hg hm hm2
  rw [List.set_set] at e2
  have hs : (lh.set n (bagO cs k' g' m' (c + 1)))[n]? = some (bagO cs k' g' m' (c + 1)) := set_get h
  have clean_set : ∀ o, clean lh (lh.set n o) = lh.set n o := fun o => by
    unfold clean
    split
    · rw [List.take_of_length_le (by simp)]
    · rfl
  have e1 : (sAsg (fBin zAdd (fBin zIx (fName 0) (fC (.int 4))) (fC (.int 1))) (gSubZ (fName 0) (fC (.int 4)))) (startE 5 [.ref n, .pv (.int many)]) lh = .next [some (.ref n), some (.pv (.int many)), none, none, none] (lh.set n (bagO cs k g m (c + 1))) := by
    simp only [bagO] at h
    simp [sAsg, fBin, fName, fC, startE, zIx, lstOf, h, bagO, atI, ixN, zAdd, zII, gAddI, gSubZ, zPut, sBind, gEnd]
  by_cases h3 : 0 < g'
  · refine ⟨g' % many, k', g' / many, m', c + 1, ?_, Int.emod_nonneg _ (by omega), Int.emod_lt_of_pos _ h1, q1, Int.ediv_nonneg q2 (by omega), q3, q4⟩
    unfold m_law_draw
    rw [mOf_eq, sNoX_eq]
    unfold b_law_draw
    rw [sSeq_of e1, sSeq_of e2]
    simp only [bagO] at hs
    simp [sIf, sSeq, sAsg, tV, fBin, fName, fC, fArgs, fCons, fNil, zIx, lstOf, hs, bagO, atI, ixN, zII, gGt, gMod, gDiv, zInt, gSubZ, zPut, sBind, gEnd, h3, h1, h2, sRet, gN, hset, clean_set]
  · have h4 : ∀ a b : Int, 0 < b → 0 ≤ a % b := fun a b hb => Int.emod_nonneg _ (by omega)
    refine ⟨((((m' * m' + (c + 1) * 9103) % 2147483549) * 17783 + m' * 59183 + 53029) % 2147483629 / 64) % many, k', g', (((m' * m' + (c + 1) * 9103) % 2147483549) * 17783 + m' * 59183 + 53029) % 2147483629, c + 1, ?_, Int.emod_nonneg _ (by omega), Int.emod_lt_of_pos _ h1, q1, q2, h4 _ _ (by omega), Int.emod_lt_of_pos _ (by omega)⟩
    unfold m_law_draw
    rw [mOf_eq, sNoX_eq]
    unfold b_law_draw
    rw [sSeq_of e1, sSeq_of e2]
    simp only [bagO] at hs
    have q5 : (-18446744073709551616 < m' ∧ m' < 18446744073709551616) := ⟨by omega, by omega⟩
    simp [sIf, sSeq, sAsg, tV, fBin, fName, fC, fArgs, fCons, fNil, zIx, lstOf, hs, bagO, atI, ixN, zII, zAdd, gAddI, gMul, gGt, gMod, gDiv, zInt, gSubZ, zPut, sBind, gEnd, h3, h1, h2, sRet, gN, hset, clean_set, sNext, q5]
def Bg (lh : LH) : Prop := ∃ cs k g m c, lh[0]? = some (bagO cs k g m c) ∧ k ≤ cs.length ∧ 0 ≤ g ∧ 0 ≤ m ∧ m < 2147483629
theorem draw_bg {o : LO} {rest : LH} {many : Int} (h : Bg (o :: rest)) (h1 : 0 < many) (h2 : many < 1073741824) : ∃ d o', m_law_draw [.ref 0, .pv (.int many)] (o :: rest) = .ok (.pv (.int d)) (o' :: rest) ∧ 0 ≤ d ∧ d < many ∧ ∀ r, Bg (o' :: r) := by
  obtain ⟨cs, k, g, m, c, e, a1, a2, a3, a4⟩ := h
  obtain ⟨d, k', g', m', c', e', b1, b2, b3, b4, b5, b6⟩ := draw_ok e a1 a2 a3 a4 h1 h2
  exact ⟨d, _, e', b1, b2, fun r => ⟨cs, k', g', m', c', rfl, b3, b4, b5, b6⟩⟩
theorem one_ok {o : LO} {rest : LH} {ts : List PV} (h : Bg (o :: rest)) (h1 : 0 < ts.length) (h2 : ts.length < 1073741824) : ∃ p o', m_law_one [.ref 0, .pv (.lst ts)] (o :: rest) = .ok (.pv p) (o' :: rest) ∧ p ∈ ts ∧ ∀ r, Bg (o' :: r) := by
  obtain ⟨d, o', e, b1, b2, b3⟩ := draw_bg (many := (ts.length : Int)) h (by omega) (by omega)
  have hd : d.toNat < ts.length := by omega
  refine ⟨ts[d.toNat], o', ?_, List.getElem_mem hd, b3⟩
  have hx : atI ts d = some ts[d.toNat] := atI_nat (List.getElem?_eq_getElem hd) b1
  have hz := zIx_pl (lh := o' :: rest) hx
  simp [m_law_one, mOf_eq, sNoX_eq, b_law_one, startE, sRet, fBin, fName, fCallD, fArgs, fCons, fNil, zLenA, e, hz, sBind, clean_same]
/-- the pairs of a size -/
def sq (n : Nat) : List (List Int) := (List.range (n * n)).map fun i => [((i / n : Nat) : Int), ((i - i / n * n : Nat) : Int)]
theorem fm_map {α β : Type} {f : α → Option β} {g : α → β} : ∀ {l : List α}, (∀ x ∈ l, f x = some (g x)) → l.filterMap f = l.map g
  | [], _ => rfl
  | x :: l, h => by rw [List.filterMap_cons_some (h x (List.mem_cons_self ..)), fm_map fun y hy => h y (List.mem_cons_of_mem _ hy)]; rfl
theorem gMul_ok {i j : Int} (h0 : 0 ≤ i) (h1 : i < 1000000) : gMul i j = some (.int (i * j)) := by unfold gMul; rw [if_pos (.inl (by constructor <;> omega))]
theorem gMul_okr {i j : Int} (h0 : 0 ≤ j) (h1 : j < 1000000) : gMul i j = some (.int (i * j)) := by unfold gMul; rw [if_pos (.inr (by constructor <;> omega))]
theorem rng_ok1 {n : Nat} (lh : LH) (h : n < 1000000) : rngSrc [.pv (.int (n : Int))] lh = .ok ⟨yes, zints 0 n⟩ lh := by
  unfold rngSrc
  simp only []
  rw [if_pos (by constructor <;> omega), Int.toNat_natCast]
theorem gDiv_ok {i j : Int} (h : 0 < j ∧ j < 1073741824) : gDiv i j = some (.int (i / j)) := by unfold gDiv; rw [if_pos h]
theorem zII_eq {g : Int → Int → Option PV} {i j : Int} {p : PV} {lh : LH} (h : g i j = some p) : zII g (.pv (.int i)) (.pv (.int j)) lh = .ok (.pv p) lh := by simp only [zII, h]
theorem fII {g : Int → Int → Option PV} {i j : Int} {p : PV} {lh : LH} {env : EN} {f1 f2 : EN → LH → Res LV} (h1 : f1 env lh = .ok (.pv (.int i)) lh) (h2 : f2 env lh = .ok (.pv (.int j)) lh) (h : g i j = some p) : fBin (zII g) f1 f2 env lh = .ok (.pv p) lh :=
  (fBin_of h1 h2).trans (zII_eq h)
theorem sq_lt {n : Nat} (h1 : n ≤ 7) : n * n < 1000000 := by
  have := Nat.mul_le_mul h1 h1
  omega
theorem sq_w1 {n : Nat} (lh : LH) (h1 : n ≤ 7) : fBin (zII gMul) (fName 0) (fName 0) [some (.pv (.int n)), none] lh = .ok (.pv (.int ((n : Int) * n))) lh := 
  have n0 : fName 0 [some (LV.pv (.int n)), none] lh = .ok (.pv (.int n)) lh := fName_of rfl
  have q : gMul (n : Int) (n : Int) = some (.int ((n : Int) * n)) := gMul_ok (by omega) (by omega)
  fII n0 n0 q
theorem sq_w2 {n : Nat} (lh : LH) (e : fBin (zII gMul) (fName 0) (fName 0) [some (.pv (.int n)), none] lh = .ok (.pv (.int ((n : Int) * n))) lh) : fCons (fBin (zII gMul) (fName 0) (fName 0)) fNil [some (.pv (.int n)), none] lh = .ok [.pv (.int ((n : Int) * n))] lh := by
  simp only [fCons, fNil, e, Res.bind_ok]
theorem sq_w3 {n : Nat} (lh : LH) (h1 : n ≤ 7) : rngSrc [.pv (.int ((n : Int) * n))] lh = .ok ⟨yes, zints 0 (n * n)⟩ lh := by
  have q2 : ((n : Int) * n) = ((n * n : Nat) : Int) := by simp
  exact q2 ▸ rng_ok1 (n := n * n) lh (sq_lt h1)
theorem sq_w4 {f : EN → LH → Res (List LV)} {env : EN} {xs : List LV} {lh : LH} {s : Src} (h : f env lh = .ok xs lh) (h2 : rngSrc xs lh = .ok s lh) : fRng f env lh = .ok s lh := by
  unfold fRng
  rw [h]; exact h2
theorem square_1 {n : Nat} (lh : LH) (h1 : n ≤ 7) : fRng (fCons (fBin (zII gMul) (fName 0) (fName 0)) fNil) [some (.pv (.int n)), none] lh = .ok ⟨yes, zints 0 (n * n)⟩ lh :=
  sq_w4 (sq_w2 lh (sq_w1 lh h1)) (sq_w3 lh h1)
theorem square_2 {n : Nat} (lh : LH) (h0 : 1 ≤ n) (h1 : n ≤ 7) (i : Nat) : fArgs zTup (fCons (fBin (zII gDiv) (fName 1) (fName 0)) (fCons (fBin (zII Z.gSub) (fName 1) (fBin (zII gMul) (fBin (zII gDiv) (fName 1) (fName 0)) (fName 0))) fNil)) [some (.pv (.int n)), some (.pv (.int i))] lh = .ok (.pv (tupP [((i / n : Nat) : Int), ((i - i / n * n : Nat) : Int)])) lh := by
  have h5 : i / n * n ≤ i := Nat.div_mul_le_self i n
  have n0 : fName 0 [some (LV.pv (.int n)), some (.pv (.int i))] lh = .ok (.pv (.int n)) lh := fName_of rfl
  have n1 : fName 1 [some (LV.pv (.int n)), some (.pv (.int i))] lh = .ok (.pv (.int i)) lh := fName_of rfl
  have d1 : fBin (zII gDiv) (fName 1) (fName 0) [some (.pv (.int n)), some (.pv (.int i))] lh = .ok (.pv (.int ((i : Int) / n))) lh := fII n1 n0 (gDiv_ok (by constructor <;> omega))
  have d2 := fII (g := gMul) d1 n0 (gMul_okr (by omega) (by omega))
  have d3 := fII (g := Z.gSub) n1 d2 rfl
  have e1 : ((i - i / n * n : Nat) : Int) = (i : Int) - (i : Int) / n * n := by rw [Int.ofNat_sub h5]; simp
  have e2 : ((i / n : Nat) : Int) = (i : Int) / n := by simp
  simp only [fArgs, fCons, fNil, d1, d3, Res.bind_ok, e1, e2, zTup, pvs, Option.map_some, tupP, List.map_cons, List.map_nil]
theorem sq_F {n : Nat} (lh : LH) (h0 : 1 ≤ n) (h1 : n ≤ 7) : lcL yes (gN 1) tYesZ (fArgs zTup (fCons (fBin (zII gDiv) (fName 1) (fName 0)) (fCons (fBin (zII Z.gSub) (fName 1) (fBin (zII gMul) (fBin (zII gDiv) (fName 1) (fName 0)) (fName 0))) fNil))) [some (.pv (.int n)), none] (zints 0 (n * n)) [] lh = .ok ([] ++ (zints 0 (n * n)).filterMap (fun y => match y with | .pv (.int i) => some (.pv (tupP [((i.toNat / n : Nat) : Int), ((i.toNat - i.toNat / n * n : Nat) : Int)])) | _ => none)) lh := by
  refine lcL_pure _ rfl _ _ (fun y hy => ?_)
  obtain ⟨i, hi, rfl⟩ := List.mem_map.mp hy
  have e := square_2 lh h0 h1 i
  have e0 : (0 : Int) + (i : Int) = (i : Int) := Int.zero_add _
  rw [e0]
  exact ⟨[some (.pv (.int n)), some (.pv (.int i))], rfl, .inl ⟨rfl, _, e, rfl⟩⟩
theorem sq_G (n : Nat) : (zints 0 (n * n)).filterMap (fun y => match y with | .pv (.int i) => some (LV.pv (tupP [((i.toNat / n : Nat) : Int), ((i.toNat - i.toNat / n * n : Nat) : Int)])) | _ => none) = ((sq n).map tupP).map LV.pv := by
  unfold zints sq
  rw [List.filterMap_map, List.map_map, List.map_map]
  refine fm_map fun i _ => ?_
  have e0 : ((0 : Int) + (i : Int)).toNat = i := by rw [Int.zero_add, Int.toNat_natCast]
  show some (LV.pv (tupP [((((0 : Int) + (i : Int)).toNat / n : Nat) : Int), ((((0 : Int) + (i : Int)).toNat - ((0 : Int) + (i : Int)).toNat / n * n : Nat) : Int)])) = _
  rw [e0]; rfl
theorem fLc_of2 {z : List LV → LH → Res LV} {vs : List Nat} {fi : EN → LH → Res Src} {g : LV → EN → LH → Res EN} {t : EN → LH → Res Bool} {e : EN → LH → Res LV} {env : EN} {lh lh1 lh2 : LH} {s : Src} {acc : List LV} (h1 : fi env lh = .ok s lh1) (h2 : s.items.length ≤ sizeLine) (h3 : lcL s.chk g t e (wipeE env vs) s.items [] lh1 = .ok acc lh2) : fLc z vs fi g t e env lh = z acc lh2 := by
  unfold fLc
  rw [h1, Res.bind_ok, if_pos h2, h3]; rfl
theorem zLst_map (ps : List PV) (lh : LH) : zLst (ps.map .pv) lh = .ok (.pv (.lst ps)) lh := by
  unfold zLst
  rw [pvs_map]
theorem sq_H {n : Nat} (h1 : n ≤ 7) : (zints 0 (n * n)).length ≤ sizeLine := by
  rw [zints_len, sizeLine_eq]
  have := sq_lt h1
  omega
theorem sq_I {n : Nat} (lh : LH) (h0 : 1 ≤ n) (h1 : n ≤ 7) : fLc zLst [1] (fRng (fCons (fBin (zII gMul) (fName 0) (fName 0)) fNil)) (gN 1) tYesZ (fArgs zTup (fCons (fBin (zII gDiv) (fName 1) (fName 0)) (fCons (fBin (zII Z.gSub) (fName 1) (fBin (zII gMul) (fBin (zII gDiv) (fName 1) (fName 0)) (fName 0))) fNil))) [some (.pv (.int n)), none] lh = .ok (lT (sq n)) lh := by
  have e := sq_F lh h0 h1
  rw [List.nil_append, sq_G] at e
  exact (fLc_of2 (square_1 lh h1) (sq_H h1) e).trans (zLst_map _ lh)
theorem square_ok {n : Nat} (lh : LH) (h0 : 1 ≤ n) (h1 : n ≤ 7) : m_law_square [.pv (.int n)] lh = .ok (lT (sq n)) lh := by
  have e : b_law_square [some (LV.pv (.int n)), none] lh = .ret (lT (sq n)) lh := sRet_of (sq_I lh h0 h1)
  have e2 : m_law_square [.pv (.int n)] lh = cleanR lh (retOf (sNoX b_law_square [some (LV.pv (.int n)), none] lh)) := rfl
  rw [e2, sNoX_eq, e]
  simp [lT]
theorem zAdd_int (i j : Int) (lh : LH) : zAdd (.pv (.int i)) (.pv (.int j)) lh = .ok (.pv (.int (i + j))) lh := rfl
theorem bag_step (m c : Int) (x : LV) (lh : LH) (h0 : 0 ≤ m) (h1 : m < 2147483629) : sAsg (fBin (zII gMod) (fArgs zInt (fCons (fBin zAdd (fBin zAdd (fBin (zII gMul) (fName 1) (fC (.int 52361))) (fBin (zII gMul) (fBin (zII gMod) (fArgs zInt (fCons (fName 2) fNil)) (fC (.int 1000193))) (fC (.int 877)))) (fC (.int 29))) fNil)) (fC (.int 2147483587))) (gN 1) [some x, some (.pv (.int m)), some (.pv (.int c))] lh = .next [some x, some (.pv (.int ((m * 52361 + c % 1000193 * 877 + 29) % 2147483587))), some (.pv (.int c))] lh := by
  have q1 : gMul m 52361 = some (.int (m * 52361)) := gMul_okr (by omega) (by omega)
  have q2 : gMod c 1000193 = some (.int (c % 1000193)) := by unfold gMod; exact if_pos (by omega)
  have q3 : gMul (c % 1000193) 877 = some (.int (c % 1000193 * 877)) := gMul_okr (by omega) (by omega)
  have q4 : gMod (m * 52361 + c % 1000193 * 877 + 29) 2147483587 = some (.int ((m * 52361 + c % 1000193 * 877 + 29) % 2147483587)) := by unfold gMod; exact if_pos (by omega)
  simp only [sAsg, fBin, fArgs, fCons, fNil, fName, fC, List.getElem?_cons_zero, List.getElem?_cons_succ, Res.bind_ok, zII, q1, q2, q3, q4, zInt, zAdd_int, sBind_ok, gN, gEnd_ok, List.set_cons_succ, List.set_cons_zero]
theorem bag_ok (ns : List Int) (lh : LH) (hl : ns.length ≤ 63) : ∃ o, m_law_bag [.pv (.scr ns)] lh = .ok (.ref lh.length) (lh ++ [o]) ∧ ∃ cs k g m c, o = bagO cs k g m c ∧ k ≤ cs.length ∧ 0 ≤ g ∧ 0 ≤ m ∧ m < 2147483629 := by
  generalize hcs : cutL ns none (some 63) = cs
  have e1 : ∀ x y lh, fSl (fName 0) none (some (fC (.int 63))) [some (LV.pv (.scr ns)), x, y] lh = .ok (.pv (.lst (cs.map .int))) lh := fun x y lh => by
    simp only [fSl, fName, fC, fOpt, List.getElem?_cons_zero, Res.bind_ok, zSl, hcs]
  have e2 : ∃ m y, 0 ≤ m ∧ m < 2147483629 ∧ sFor (fSrc (fSl (fName 0) none (some (fC (.int 63))))) (gN 2) (sAsg (fBin (zII gMod) (fArgs zInt (fCons (fBin zAdd (fBin zAdd (fBin (zII gMul) (fName 1) (fC (.int 52361))) (fBin (zII gMul) (fBin (zII gMod) (fArgs zInt (fCons (fName 2) fNil)) (fC (.int 1000193))) (fC (.int 877)))) (fC (.int 29))) fNil)) (fC (.int 2147483587))) (gN 1))
      [some (.pv (.scr ns)), some (.pv (.int 4934)), none] lh = .next [some (.pv (.scr ns)), some (.pv (.int m)), y] lh := by
    have e3 : fSrc (fSl (fName 0) none (some (fC (.int 63)))) [some (.pv (.scr ns)), some (.pv (.int 4934)), none] lh = .ok ⟨fun l => sameO (lstOf (.pv (.lst (cs.map .int))) l) ((cs.map .int).map .pv), (cs.map .int).map .pv⟩ lh := by
      simp only [fSrc, e1, Res.bind_ok, lstOf_lst]
    unfold sFor
    rw [e3, sBind_ok]
    refine forL_ind (fun r env l => l = lh ∧ (∃ m y, env = [some (.pv (.scr ns)), some (.pv (.int m)), y] ∧ 0 ≤ m ∧ m < 2147483629) ∧ ∃ l : List Int, r = (l.map PV.int).map .pv) (fun r => ∃ m y, 0 ≤ m ∧ m < 2147483629 ∧ r = .next [some (.pv (.scr ns)), some (.pv (.int m)), y] lh) ?_ ?_ _ _ lh ⟨rfl, ⟨4934, none, rfl, by omega, by omega⟩, cs, rfl⟩
    · rintro y r env l ⟨rfl, ⟨m, z, rfl, h0, h1⟩, l', hr⟩
      cases l' with
      | nil => cases hr
      | cons c l' =>
        cases hr
        exact ⟨by simp, [some (.pv (.scr ns)), some (.pv (.int m)), some (.pv (.int c))], l, rfl, .inl ⟨_, l, .inl (bag_step m c _ l h0 h1), rfl, ⟨_, _, rfl, Int.emod_nonneg _ (by omega), by have := Int.emod_lt_of_pos (m * 52361 + c % 1000193 * 877 + 29) (show (0 : Int) < 2147483587 by omega); omega⟩, l', rfl⟩⟩
    · rintro env l ⟨rfl, ⟨m, z, rfl, h0, h1⟩, _⟩
      exact ⟨by simp, m, z, h0, h1, rfl⟩
  obtain ⟨m, y, h0, h1, e2⟩ := e2
  have e4 : sRet (fArgs zLstM (fCons (fArgs zListCD (fCons (fSl (fName 0) none (some (fC (.int 63)))) fNil)) (fCons (fC (.int 0)) (fCons (fC (.int 0)) (fCons (fName 1) (fCons (fC (.int 0)) fNil)))))) [some (.pv (.scr ns)), some (.pv (.int m)), y] lh = .ret (.ref lh.length) (lh ++ [bagO cs (0 : Nat) 0 m 0]) := by
    have q : zListCD [.pv (.lst (cs.map .int))] lh = .ok (.pv (.lst (cs.map .int))) lh := by
      unfold zListCD zListC
      simp [dctOf, -List.map_map]
    simp only [sRet, fArgs, fCons, fNil, fC, fName, e1, q, List.getElem?_cons_zero, List.getElem?_cons_succ, Res.bind_ok, zLstM, sBind_ok, bagO]
    rfl
  refine ⟨bagO cs (0 : Nat) 0 m 0, ?_, cs, 0, 0, m, 0, rfl, Nat.zero_le _, by omega, h0, h1⟩
  have e5 : b_law_bag [some (.pv (.scr ns)), none, none] lh = .ret (.ref lh.length) (lh ++ [bagO cs (0 : Nat) 0 m 0]) := by
    have a1 : sAsg (fC (.int 4934)) (gN 1) [some (.pv (.scr ns)), none, none] lh = .next [some (.pv (.scr ns)), some (.pv (.int 4934)), none] lh := rfl
    exact (sSeq_of a1).trans ((sSeq_of e2).trans e4)
  have e6 : m_law_bag [.pv (.scr ns)] lh = cleanR lh (retOf (sNoX b_law_bag [some (.pv (.scr ns)), none, none] lh)) := rfl
  rw [e6, sNoX_eq, e5]
  rfl
theorem putD_new {kvs : List (PV × LV)} {k : PV} {v : LV} (h : ∀ p ∈ kvs, p.1 ≠ k) : putD kvs k v = kvs ++ [(k, v)] := by
  unfold putD
  rw [if_neg]
  intro z
  obtain ⟨p, hp, e⟩ := List.any_eq_true.mp z
  exact h p hp (of_decide_eq_true e)
theorem pD_app {α : Type} (f : α → PV) (a b : List (Str × List α)) : pD f (a ++ b) = pD f a ++ pD f b := by unfold pD; rw [List.map_append]
theorem look_at {α : Type} : ∀ {a b : List (Str × List α)} {s : Str} {xs : List α}, ((a ++ (s, xs) :: b).map (·.1)).Nodup → (a ++ (s, xs) :: b).lookup s = some xs
  | [], b, s, xs, _ => by simp
  | p :: a, b, s, xs, h => by
    rw [List.cons_append, List.lookup_cons]
    have h := List.nodup_cons.mp (show (p.1 :: (a ++ (s, xs) :: b).map (·.1)).Nodup from h)
    have hne : s ≠ p.1 := fun e => h.1 (by rw [← e]; exact List.mem_map.mpr ⟨(s, xs), by simp, rfl⟩)
    have : (s == p.1) = false := beq_eq_false_iff_ne.mpr hne
    simp only [this]
    exact look_at h.2
theorem copy_loop {α : Type} {f : α → PV} {d : List (Str × List α)} {fs ft : EN → LH → Res LV} {x1 x2 x3 : Option LV} {n : Nat} {l0 : LH} (hS : ∀ x l, fs [x1, x2, x3, x] l = .ok (.pv (.dct (pD f d))) l) (hT : ∀ x l, ft [x1, x2, x3, x] l = .ok (.ref n) l) (hn : l0[n]? = some (.dct [])) (hd : (d.map (·.1)).Nodup) (hlen : d.length < 64) (x0 : Option LV) :
    ∃ y, forL yes (gN 3) (sAsg (fArgs zListCD (fCons (fBin zIx fs (fName 3)) fNil)) (gSubZ ft (fName 3))) (kyD (pD f d)) [x1, x2, x3, x0] l0 = .next [x1, x2, x3, y] (l0.set n (.dct (upP (pD f d)))) := by
  refine forL_ind (fun r env l => ∃ a b y, d = a ++ b ∧ r = kyD (pD f b) ∧ env = [x1, x2, x3, y] ∧ l = l0.set n (.dct (upP (pD f a)))) (fun r => ∃ y, r = .next [x1, x2, x3, y] (l0.set n (.dct (upP (pD f d))))) ?_ ?_ _ _ l0 ⟨[], d, x0, rfl, rfl, rfl, (set_idem hn).symm⟩
  · rintro y r env l ⟨a, b, z, hab, hr, rfl, rfl⟩
    cases b with
    | nil => cases hr
    | cons p b =>
      obtain ⟨s, xs⟩ := p
      cases hr
      refine ⟨rfl, [x1, x2, x3, some (.pv (.str s))], _, rfl, .inl ⟨[x1, x2, x3, some (.pv (.str s))], l0.set n (.dct (upP (pD f (a ++ [(s, xs)])))), .inl ?_, a ++ [(s, xs)], b, _, by rw [hab]; simp, rfl, rfl, rfl⟩⟩
      have hl := look_at (show ((a ++ (s, xs) :: b).map (·.1)).Nodup by rw [← hab]; exact hd)
      rw [← hab] at hl
      have q1 : ∀ l, fBin zIx fs (fName 3) [x1, x2, x3, some (.pv (.str s))] l = .ok (.pv (.lst (xs.map f))) l := fun l =>
        (fBin_of (hS _ l) (fName_of (x := .pv (.str s)) rfl)).trans (zIx_dct (by rw [getP_pD, hl]; rfl))
      have q2 : ∀ l, zListCD [.pv (.lst (xs.map f))] l = .ok (.pv (.lst (xs.map f))) l := fun l => by
        unfold zListCD zListC
        simp [dctOf, -List.map_map]
      have hla : a.length < 64 := by rw [hab] at hlen; simp at hlen; omega
      have q3 : ∀ l : LH, l[n]? = some (.dct (upP (pD f a))) → zPut (.ref n) (.pv (.str s)) (.pv (.lst (xs.map f))) l = some (l.set n (.dct (upP (pD f (a ++ [(s, xs)]))))) := fun l h => by
        unfold zPut
        simp only [h]
        rw [if_pos ⟨rfl, by simp [pD, sizeLine_eq]; omega⟩, putD_new]
        · rw [pD_app]; simp [upP, pD]
        · intro p hp e
          obtain ⟨q, hq, rfl⟩ := List.mem_map.mp hp
          obtain ⟨w, hw, rfl⟩ := List.mem_map.mp hq
          have e : w.1 = s := by simpa using e
          rw [hab, List.map_append, List.map_cons] at hd
          exact (List.nodup_append.mp hd).2.2 w.1 (List.mem_map.mpr ⟨w, hw, rfl⟩) s (by simp) e
      have hs : (l0.set n (LO.dct (upP (pD f a))))[n]? = some (.dct (upP (pD f a))) := set_get hn
      simp only [sAsg, fArgs, fCons, fNil, q1, q2, Res.bind_ok, sBind_ok, gSubZ, hT, fName, List.getElem?_cons_zero, List.getElem?_cons_succ, q3 _ hs, gEnd_ok, List.set_set]
  · rintro env l ⟨a, b, y, hab, hr, rfl, rfl⟩
    cases b with
    | nil => rw [List.append_nil] at hab; subst hab; exact ⟨rfl, y, rfl⟩
    | cons p b => cases hr
theorem web_ok {size : Int} {d : List (Str × List Int)} {e : List (Str × List (List Int))} (lh : LH) (h0 : 1 ≤ size) (h1 : size ≤ 300) (hd : MOk size d) (he : TOk size e) (nd : (d.map (·.1)).Nodup) (ne : (e.map (·.1)).Nodup) :
    m_law_web [.pv (.tup [.int size, .dct (pD .int d), .dct (pD tupP e)])] lh = .ok (.pv (webP size (cmM d) (cmT e))) lh := by
  generalize hP : LV.pv (.tup [.int size, .dct (pD .int d), .dct (pD tupP e)]) = P
  have p0 : ∀ x y z l, fBin zIx (fName 0) (fC (.int 0)) [some P, x, y, z] l = .ok (.pv (.int size)) l := fun x y z l => by subst hP; rfl
  have p1 : ∀ x y z l, fBin zIx (fName 0) (fC (.int 1)) [some P, x, y, z] l = .ok (.pv (.dct (pD .int d))) l := fun x y z l => by subst hP; rfl
  have p2 : ∀ x y z l, fBin zIx (fName 0) (fC (.int 2)) [some P, x, y, z] l = .ok (.pv (.dct (pD tupP e))) l := fun x y z l => by subst hP; rfl
  have s1 : sPar 1 2 (fCons fMkD (fCons fMkD fNil)) [some P, none, none, none] lh = .next [some P, some (.ref lh.length), some (.ref (lh.length + 1)), none] (lh ++ [.dct [], .dct []]) := by
    simp [sPar, fCons, fNil, fMkD, sBind]
  obtain ⟨y1, c1⟩ := copy_loop (f := .int) (d := d) (fs := fBin zIx (fName 0) (fC (.int 1))) (ft := fName 1) (x1 := some P) (x2 := some (.ref lh.length)) (x3 := some (.ref (lh.length + 1))) (n := lh.length) (l0 := lh ++ [.dct [], .dct []]) (fun x l => p1 _ _ _ l) (fun x l => rfl) (by simp) nd hd.len none
  have t1 : (lh ++ [LO.dct [], .dct []]).set lh.length (.dct (upP (pD .int d))) = lh ++ [.dct (upP (pD .int d)), .dct []] := by simp [List.set_append]
  rw [t1] at c1
  obtain ⟨y2, c2⟩ := copy_loop (f := tupP) (d := e) (fs := fBin zIx (fName 0) (fC (.int 2))) (ft := fName 2) (x1 := some P) (x2 := some (.ref lh.length)) (x3 := some (.ref (lh.length + 1))) (n := lh.length + 1) (l0 := lh ++ [.dct (upP (pD .int d)), .dct []]) (fun x l => p2 _ _ _ l) (fun x l => rfl) (by simp) ne he.len y1
  have t2 : (lh ++ [LO.dct (upP (pD .int d)), .dct []]).set (lh.length + 1) (.dct (upP (pD tupP e))) = lh ++ [.dct (upP (pD .int d)), .dct (upP (pD tupP e))] := by simp [List.set_append]
  rw [t2] at c2
  have r1 : ∀ x y z l, fSrcD kyD (fBin zIx (fName 0) (fC (.int 1))) [some P, x, y, z] l = .ok ⟨yes, kyD (pD .int d)⟩ l := fun x y z l => by simp [fSrcD, fPd, p1, pdOf]
  have r2 : ∀ x y z l, fSrcD kyD (fBin zIx (fName 0) (fC (.int 2))) [some P, x, y, z] l = .ok ⟨yes, kyD (pD tupP e)⟩ l := fun x y z l => by simp [fSrcD, fPd, p2, pdOf]
  have s4 : fMakeK (zMakeF "Web" m_Web_init) b_mk_Web_marks_ties (fCons (fBin zIx (fName 0) (fC (.int 0))) fNil) (fCons (fFrz (fName 1)) (fCons (fFrz (fName 2)) fNil)) [some P, some (.ref lh.length), some (.ref (lh.length + 1)), y2] (lh ++ [.dct (upP (pD .int d)), .dct (upP (pD tupP e))]) = .ok (.pv (webP size (cmM d) (cmT e))) (lh ++ [.dead, .dead]) := by
    simp [fMakeK, fCons, fNil, p0, fFrz, fName, zFrz, frzO, pvsD_map, b_mk_Web_marks_ties, make_ok _ h0 h1 hd he, List.set_append]
  have s5 : b_law_web [some P, none, none, none] lh = .ret (.pv (webP size (cmM d) (cmT e))) (lh ++ [.dead, .dead]) := by
    refine (sSeq_of s1).trans ?_
    refine (sSeq_of (env1 := [some P, some (.ref lh.length), some (.ref (lh.length + 1)), y1]) (lh1 := lh ++ [.dct (upP (pD .int d)), .dct []]) ?_).trans ?_
    · unfold sFor; rw [r1]; exact c1
    refine (sSeq_of (env1 := [some P, some (.ref lh.length), some (.ref (lh.length + 1)), y2]) (lh1 := lh ++ [.dct (upP (pD .int d)), .dct (upP (pD tupP e))]) ?_).trans (sRet_of s4)
    · unfold sFor; rw [r2]; exact c2
  have s6 : m_law_web [P] lh = cleanR lh (retOf (sNoX b_law_web [some P, none, none, none] lh)) := rfl
  rw [s6, sNoX_eq, s5]
  simp
def BagOk' (o : LO) : Prop := ∃ cs k g m c, o = bagO cs k g m c ∧ k ≤ cs.length ∧ 0 ≤ g ∧ 0 ≤ m ∧ m < 2147483629
def HB (rest lh : LH) : Prop := ∃ o, lh = o :: rest ∧ BagOk' o
theorem draw_sp {rest lh : LH} {many : Int} {E : LX → LH → Prop} (h : HB rest lh) (h1 : 0 < many) (h2 : many < 1073741824) : (m_law_draw [.ref 0, .pv (.int many)] lh).sp (fun v l => HB rest l ∧ ∃ d, v = .pv (.int d) ∧ 0 ≤ d ∧ d < many) E := by
  obtain ⟨o, rfl, cs, k, g, m, c, rfl, a1, a2, a3, a4⟩ := h
  obtain ⟨d, k', g', m', c', e', b1, b2, b3, b4, b5, b6⟩ := draw_ok (lh := bagO cs k g m c :: rest) (n := 0) rfl a1 a2 a3 a4 h1 h2
  rw [e']
  exact ⟨⟨_, rfl, cs, k', g', m', c', rfl, b3, b4, b5, b6⟩, d, rfl, b1, b2⟩
theorem one_sp {rest lh : LH} {ts : List PV} {E : LX → LH → Prop} (h : HB rest lh) (h1 : 0 < ts.length) (h2 : ts.length < 1073741824) : (m_law_one [.ref 0, .pv (.lst ts)] lh).sp (fun v l => HB rest l ∧ ∃ p, v = .pv p ∧ p ∈ ts) E := by
  obtain ⟨o, rfl, cs, k, g, m, c, rfl, a1, a2, a3, a4⟩ := h
  obtain ⟨p, o', e, hp, b⟩ := one_ok (o := bagO cs k g m c) (rest := rest) ⟨cs, k, g, m, c, rfl, a1, a2, a3, a4⟩ h1 h2
  rw [e]
  obtain ⟨cs, k, g, m, c, q, a⟩ := b rest
  exact ⟨⟨_, rfl, cs, k, g, m, c, by simpa using q, a⟩, p, rfl, hp⟩
theorem sq_in {n : Nat} {t : List Int} (h0 : 1 ≤ n) (h : t ∈ sq n) : ∃ x y : Int, t = [x, y] ∧ 0 ≤ x ∧ x < n ∧ 0 ≤ y ∧ y < n := by
  obtain ⟨i, hi, rfl⟩ := List.mem_map.mp h
  have hi := List.mem_range.mp hi
  have q1 : i / n < n := Nat.div_lt_of_lt_mul hi
  have q2 : i - i / n * n = i % n := by
    have := Nat.div_add_mod i n
    rw [Nat.mul_comm] at this; omega
  have q3 : i % n < n := Nat.mod_lt _ (by omega)
  exact ⟨_, _, rfl, Int.natCast_nonneg _, Int.ofNat_lt.mpr q1, Int.natCast_nonneg _, Int.ofNat_lt.mpr (by rw [q2]; exact q3)⟩
theorem sq_len {n : Nat} (h1 : n ≤ 7) : (sq n).length ≤ 49 := by
  have := Nat.mul_le_mul h1 h1
  simp [sq]; omega
def NodesS (size : Int) (xs : List Int) : Prop := NodesIn size xs ∧ xs.length ≤ 5
def PairsS (size : Int) (xs : List (List Int)) : Prop := PairsIn size xs ∧ xs.length ≤ 25
/-- a plain web -/
structure PlOk (a b c d : Str) (size : Int) (m : List (Str × List Int)) (t : List (Str × List (List Int))) : Prop where
  m : ∃ xs ys, m = [(a, xs), (b, ys)] ∧ NodesS size xs ∧ NodesS size ys
  t : ∃ xs ys, t = [(c, xs), (d, ys)] ∧ PairsS size xs ∧ PairsS size ys
theorem zints_as (n : Nat) : zints 0 n = (List.range n).map fun i : Nat => LV.pv (.int (i : Int)) := by
  unfold zints; simp
theorem nodes_sp {rest l : LH} {n : Nat} {x1 x2 x3 x4 x5 x6 x7 x8 x9 x10 : Option LV} (hh : HB rest l) (hn : n ≤ 5) : (lcL yes (gN 7) (tV (fBin (zEqD false) (fCallD m_law_draw [] (fCons (fName 0) (fCons (fC (PV.int 2)) fNil))) (fC (PV.int 1)))) (fName 7)
    [some (.ref 0), x1, x2, x3, x4, x5, x6, x7, x8, x9, x10] (zints 0 n) [] l).sp (fun acc l2 => HB rest l2 ∧ ∃ xs : List Int, acc = (xs.map .int).map .pv ∧ NodesS n xs) noE := by
  rw [zints_as]
  refine lcL_some (G := fun i : Nat => LV.pv (.int (i : Int))) (HB rest) (fun _ _ => rfl) _ _ (fun i hi l hl => ?_) (fun ys l hl hn2 hm => ⟨hl, ys.map (fun i : Nat => (i : Int)), by simp, ?_⟩) hh
  · walk_at "zg"
    refine Res.sp.to (draw_sp hl (by omega) (by omega)) ?_
    rintro v l ⟨hb, dd, rfl, d0, d1⟩
    walk_at "zg"
    refine wy_d (fun hc => ?_) (fun hc => hb)
    walk_at "zg"
    exact ⟨hb, rfl⟩
  · refine ⟨⟨by simp at hn2 ⊢; omega, fun x hx => ?_⟩, by simp at hn2 ⊢; omega⟩
    obtain ⟨i, hi, rfl⟩ := List.mem_map.mp hx
    have := List.mem_range.mp (hm i hi)
    omega
theorem pairs_sp {rest l : LH} {n : Nat} {many : Int} {x1 x2 x3 x4 x5 x6 x7 x9 x10 : Option LV} (hh : HB rest l) (h0 : 1 ≤ n) (hn : n ≤ 5) (m0 : 0 < many) (m1 : many < 1073741824) {chk : LH → Bool} (hc : ∀ l, chk l = true) : (lcL chk (gTupZ 2 (gCons (gN 9) (gCons (gN 10) gNil))) (tV (fBin (zEqD false) (fCallD m_law_draw [] (fCons (fName 0) (fCons (fName 8) fNil))) (fC (PV.int 0)))) (fArgs zTup (fCons (fName 9) (fCons (fName 10) fNil)))
    [some (.ref 0), x1, x2, x3, x4, x5, x6, x7, some (.pv (.int many)), x9, x10] (((sq n).map tupP).map .pv) [] l).sp (fun acc l2 => HB rest l2 ∧ ∃ xs : List (List Int), acc = (xs.map tupP).map .pv ∧ PairsS n xs) noE := by
  rw [List.map_map]
  refine lcL_some (F := LV.pv ∘ tupP) (G := LV.pv ∘ tupP) (HB rest) (fun _ _ => hc _) _ _ (fun t ht l hl => ?_) (fun ys l hl hn2 hm => ⟨hl, ys, by simp, ?_⟩) hh
  · obtain ⟨a, b, rfl, q⟩ := sq_in h0 ht
    show (gTupZ 2 (gCons (gN 9) (gCons (gN 10) gNil)) (.pv (.tup [.int a, .int b])) _ l).sp _ noE
    walk_at "zg"
    show (gCons (gN 9) (gCons (gN 10) gNil) [.pv (.int a), .pv (.int b)] _ l).sp _ noE
    walk_at "zg"
    refine Res.sp.to (draw_sp hl m0 m1) ?_
    rintro v l ⟨hb, dd, rfl, d0, d1⟩
    walk_at "zg"
    refine wy_d (fun hc => ?_) (fun hc => hb)
    walk_at "zg"
    exact ⟨hb, rfl⟩
  · have h25 : (sq n).length ≤ 25 := by
      have := Nat.mul_le_mul hn hn
      simp [sq]; omega
    refine ⟨⟨by have := sq_len (n := n) (by omega); omega, fun t ht => sq_in h0 (hm t ht)⟩, by omega⟩
theorem putP_new {kvs : List (PV × PV)} {k v : PV} (h : ∀ p ∈ kvs, p.1 ≠ k) : putP kvs k v = kvs ++ [(k, v)] := by
  unfold putP
  rw [if_neg]
  intro z
  obtain ⟨p, hp, e⟩ := List.any_eq_true.mp z
  exact h p hp (of_decide_eq_true e)
theorem many_sp {rest lh : LH} {E : LX → LH → Prop} (h : HB rest lh) : (m_law_one [.ref 0, .pv (.lst [.int 2, .int 3, .int 5])] lh).sp (fun v l => HB rest l ∧ ∃ many, v = .pv (.int many) ∧ 0 < many ∧ many < 1073741824) E := by
  refine (one_sp h (by decide) (by simp)).imp ?_
  intro v l hq
  obtain ⟨hb, p, hv, hp⟩ := hq
  refine ⟨hb, ?_⟩
  rcases List.mem_cons.mp hp with hp | hp
  · exact ⟨2, by rw [hv, hp], by omega, by omega⟩
  rcases List.mem_cons.mp hp with hp | hp
  · exact ⟨3, by rw [hv, hp], by omega, by omega⟩
  · exact ⟨5, by rw [hv, List.mem_singleton.mp hp], by omega, by omega⟩
theorem many_k {rest lh : LH} {Q : LV → LH → Prop} {E : LX → LH → Prop} (h : HB rest lh) (k : ∀ many l, HB rest l → 0 < many → many < 1073741824 → Q (.pv (.int many)) l) : (m_law_one [.ref 0, .pv (.lst [.int 2, .int 3, .int 5])] lh).sp Q E :=
  (many_sp h).imp fun v l ⟨hb, many, hv, m0, m1⟩ => by subst hv; exact k many l hb m0 m1
theorem draw_k {rest lh : LH} {many : Int} {Q : LV → LH → Prop} {E : LX → LH → Prop} (h : HB rest lh) (h1 : 0 < many) (h2 : many < 1073741824) (k : ∀ d l, HB rest l → 0 ≤ d → d < many → Q (.pv (.int d)) l) : (m_law_draw [.ref 0, .pv (.int many)] lh).sp Q E :=
  (draw_sp h h1 h2).imp fun v l ⟨hb, d, hv, m0, m1⟩ => by subst hv; exact k d l hb m0 m1
theorem at1 (o A B : LO) (rest : LH) : (o :: (rest ++ [A, B]))[rest.length + 1]? = some A := by simp
theorem at2 (o A B : LO) (rest : LH) : (o :: (rest ++ [A, B]))[rest.length + 1 + 1]? = some B := by
  rw [List.getElem?_cons_succ, List.getElem?_append_right (by omega)]
  simp
theorem st1 (o A B C : LO) (rest : LH) : (o :: (rest ++ [A, B])).set (rest.length + 1) C = o :: (rest ++ [C, B]) := by
  rw [List.set_cons_succ, List.set_append_right _ _ (Nat.le_refl _)]
  simp
theorem st2 (o A B C : LO) (rest : LH) : (o :: (rest ++ [A, B])).set (rest.length + 1 + 1) C = o :: (rest ++ [A, C]) := by
  rw [List.set_cons_succ, List.set_append_right _ _ (by omega)]
  simp
/-- what lies about: nothing in it names what comes later -/
def Jk (rest : LH) : Prop := ∀ o ∈ rest, ∀ n, rest.length < n → LO.below n o = true
theorem Jk.nil : Jk [] := fun o h => absurd h (by simp)
theorem Jk.app {rest more : LH} (h : Jk rest) (g : ∀ o ∈ more, ∀ n, (rest ++ more).length < n → LO.below n o = true) : Jk (rest ++ more) := fun o ho n hn => by
  rcases List.mem_append.mp ho with q | q
  · exact h o q n (by rw [List.length_append] at hn; omega)
  · exact g o q n hn
theorem clean_J {rest lh l more : LH} {o : LO} (hj : Jk rest) (h : lh.length = rest.length + 1) (hl : l = o :: (rest ++ more)) (ho : BagOk' o) : clean lh l = o :: rest := by
  obtain ⟨cs, k, g, m, c, rfl, _⟩ := ho
  subst hl
  have e : (bagO cs k g m c :: (rest ++ more)).take lh.length = bagO cs k g m c :: rest := by
    rw [h, List.take_succ_cons, List.take_left']
    rfl
  unfold clean
  rw [e, if_pos]
  right
  rw [List.all_cons, Bool.and_eq_true]
  exact ⟨by simp [bagO, LO.below, LV.below], List.all_eq_true.mpr fun o ho => hj o ho _ (by omega)⟩
theorem plain_g {a b c d : Str} {rest lh : LH} {top : Nat} {E : LX → LH → Prop} (hj : Jk rest) (h : HB rest lh) (t0 : 1 ≤ top) (t5 : top ≤ 5) (hab : a ≠ b) (hcd : c ≠ d) : (m_law_plain [.ref 0, .pv (.lst [.str a, .str b, .str c, .str d]), .pv (.int (top : Int))] lh).sp (fun v l => HB rest l ∧ ∃ (size : Int) (m : List (Str × List Int)) (t : List (Str × List (List Int))), v = .pv (.tup [.int size, .dct (pD .int m), .dct (pD tupP t)]) ∧ 1 ≤ size ∧ size ≤ (top : Int) ∧ PlOk a b c d size m t) E := by
  refine sp_fn ?_
  unfold b_law_plain
  walk_at "zg"
  refine Res.sp.to (draw_sp h (by omega) (by omega)) ?_
  rintro v l ⟨hb, dd, rfl, d0, d1⟩
  obtain ⟨n, hn⟩ : ∃ n : Nat, dd = n := ⟨dd.toNat, by omega⟩
  subst hn
  walk_at "zg"
  obtain ⟨o, rfl, ho⟩ := hb
  have hs : (1 : Int) + n = ((n + 1 : Nat) : Int) := by omega
  have b1 : 1 ≤ n + 1 := by omega
  have b4 : n + 1 ≤ 5 := by omega
  rw [hs]
  have hlen : lh.length = rest.length + 1 := by obtain ⟨o, rfl, _⟩ := h; rfl
  have hh : HB (rest ++ [.dct [], .dct []]) ((o :: rest) ++ [.dct []] ++ [.dct []]) := ⟨o, by simp, ho⟩
  generalize (o :: rest) ++ [LO.dct []] ++ [LO.dct []] = l at hh
  simp only [List.length_append, List.length_cons, List.length_nil, Nat.zero_add]
  walk_at "zg"
  refine forL_cons (by simp) ?_
  walk_at "zg"
  refine rng_ex (by omega) ⟨by rw [zints_len, sizeLine_eq]; omega, ?_⟩
  walk_at "zg"
  refine (nodes_sp hh (by omega)).imp ?_
  rintro acc l ⟨hb, xs, rfl, nx⟩
  walk_at "zg"
  obtain ⟨o, rfl, ho⟩ := hb
  refine putTo_d (kvs := []) (at1 ..) rfl (by rw [sizeLine_eq]; decide) ?_
  rw [st1]
  have hh : HB (rest ++ [.dct (upP (putP [] (.str a) (.lst (xs.map .int)))), .dct []]) (o :: (rest ++ [.dct (upP (putP [] (.str a) (.lst (xs.map .int)))), .dct []])) := ⟨o, rfl, ho⟩
  generalize o :: (rest ++ [LO.dct (upP (putP [] (.str a) (.lst (xs.map .int)))), LO.dct []]) = l at hh
  walk_at "zg"
  refine forL_cons (by simp) ?_
  walk_at "zg"
  refine rng_ex (by omega) ⟨by rw [zints_len, sizeLine_eq]; omega, ?_⟩
  walk_at "zg"
  refine (nodes_sp hh (by omega)).imp ?_
  rintro acc l ⟨hb, ys, rfl, ny⟩
  walk_at "zg"
  obtain ⟨o, rfl, ho⟩ := hb
  refine putTo_d (at1 ..) rfl (by rw [sizeLine_eq]; show 1 < _; decide) ?_
  rw [st1]
  have e1 : putP (putP [] (.str a) (.lst (xs.map .int))) (.str b) (.lst (ys.map .int)) = pD .int [(a, xs), (b, ys)] := putP_new fun p hp e => by
    have hp : p = (.str a, .lst (xs.map .int)) := List.mem_singleton.mp hp
    subst hp; cases e; exact hab rfl
  rw [e1]
  have hh : HB (rest ++ [.dct (upP (pD .int [(a, xs), (b, ys)])), .dct []]) (o :: (rest ++ [.dct (upP (pD .int [(a, xs), (b, ys)])), .dct []])) := ⟨o, rfl, ho⟩
  generalize o :: (rest ++ [LO.dct (upP (pD .int [(a, xs), (b, ys)])), LO.dct []]) = l at hh
  walk_at "zg"
  refine forL_nil (by simp) ?_
  walk_at "zg"
  refine forL_cons (by simp) ?_
  walk_at "zg"
  refine many_k hh fun many l hb m0 m1 => ?_
  walk_at "zg"
  have e5 := square_ok (n := n + 1) l (by omega) (by omega)
  unfold lT at e5
  with_reducible refine sp_of e5 ?_
  refine src_pl ?_
  refine ⟨?_, ?_⟩
  · show ((sq (n + 1)).map tupP |>.map LV.pv).length ≤ sizeLine
    rw [List.length_map, List.length_map, sizeLine_eq]
    have := sq_len (n := n + 1) (by omega)
    omega
  walk_at "zg"
  with_reducible refine (pairs_sp hb b1 b4 m0 m1 (fun l => by simp)).imp ?_
  rintro acc l ⟨hb, us, rfl, nu⟩
  walk_at "zg"
  obtain ⟨o, rfl, ho⟩ := hb
  refine putTo_d (kvs := []) (at2 ..) rfl (by rw [sizeLine_eq]; decide) ?_
  rw [st2]
  have hh : HB (rest ++ [.dct (upP (pD .int [(a, xs), (b, ys)])), .dct (upP (putP [] (.str c) (.lst (us.map tupP))))]) (o :: (rest ++ [.dct (upP (pD .int [(a, xs), (b, ys)])), .dct (upP (putP [] (.str c) (.lst (us.map tupP))))])) := ⟨o, rfl, ho⟩
  generalize o :: (rest ++ [LO.dct (upP (pD .int [(a, xs), (b, ys)])), LO.dct (upP (putP [] (.str c) (.lst (us.map tupP))))]) = l at hh
  walk_at "zg"
  refine forL_cons (by simp) ?_
  walk_at "zg"
  refine many_k hh fun many l hb m0 m1 => ?_
  walk_at "zg"
  have e5 := square_ok (n := n + 1) l (by omega) (by omega)
  unfold lT at e5
  with_reducible refine sp_of e5 ?_
  refine src_pl ?_
  refine ⟨?_, ?_⟩
  · show ((sq (n + 1)).map tupP |>.map LV.pv).length ≤ sizeLine
    rw [List.length_map, List.length_map, sizeLine_eq]
    have := sq_len (n := n + 1) (by omega)
    omega
  walk_at "zg"
  with_reducible refine (pairs_sp hb b1 b4 m0 m1 (fun l => by simp)).imp ?_
  rintro acc l ⟨hb, ws, rfl, nw⟩
  walk_at "zg"
  obtain ⟨o, rfl, ho⟩ := hb
  refine putTo_d (at2 ..) rfl (by rw [sizeLine_eq]; show 1 < _; decide) ?_
  rw [st2]
  have e2 : putP (putP [] (.str c) (.lst (us.map tupP))) (.str d) (.lst (ws.map tupP)) = pD tupP [(c, us), (d, ws)] := putP_new fun p hp e => by
    have hp : p = (.str c, .lst (us.map tupP)) := List.mem_singleton.mp hp
    subst hp; cases e; exact hcd rfl
  rw [e2]
  walk_at "zg"
  refine forL_nil (by simp) ?_
  walk_at "zg"
  with_reducible refine sp_frzD (at1 ..) ?_
  rw [st1]
  walk_at "zg"
  with_reducible refine sp_frzD (at2 ..) ?_
  walk_at "zg"
  rw [st2]
  refine sp_clean ?_
  rw [clean_J hj hlen (o := o) (more := [.dead, .dead]) rfl ho]
  exact ⟨⟨o, rfl, ho⟩, _, _, _, rfl, by omega, by omega, ⟨xs, ys, rfl, nx, ny⟩, ⟨us, ws, rfl, nu, nw⟩⟩
theorem bag_k {ns : List Int} {Q : LV → LH → Prop} {E : LX → LH → Prop} (hl : ns.length ≤ 63) (k : ∀ l, HB [] l → Q (.ref 0) l) : (m_law_bag [.pv (.scr ns)] []).sp Q E := by
  obtain ⟨o, e, cs, k', g, m, c, q⟩ := bag_ok ns [] hl
  exact sp_of e (k _ ⟨o, rfl, cs, k', g, m, c, q⟩)
theorem HB.len {rest l lh : LH} (h : HB rest l) (g : HB rest lh) : l.length = lh.length := by
  obtain ⟨o, rfl, _⟩ := h
  obtain ⟨p, rfl, _⟩ := g
  rfl
theorem one_k {rest lh : LH} {ts : List PV} {Q : LV → LH → Prop} {E : LX → LH → Prop} (h : HB rest lh) (h1 : 0 < ts.length) (h2 : ts.length < 1073741824) (k : ∀ p l, HB rest l → p ∈ ts → Q (.pv p) l) : (m_law_one [.ref 0, .pv (.lst ts)] lh).sp Q E := by
  refine sp_fn ?_
  unfold b_law_one
  walk_at "zg"
  refine draw_k h (by omega) (by omega) fun d l hb d0 d1 => ?_
  have hd : d.toNat < ts.length := by omega
  with_reducible refine sp_ixL (atI_nat (List.getElem?_eq_getElem hd) d0) ?_
  walk_at "zg"
  exact sp_cleanS (hb.len h) (k _ _ hb (List.getElem_mem hd))
def letL : List Nat := ("abcdefghijklmnopqrstuvwxyz" : Str).cps.toList
def wordsL : List Str := ["yes", "not", "and", "or", "near", "any", "back", "then", "either", "again", "leap", "paint", "redraw", "when", "do", "else", "end"]
/-- is it a name -/
def isNm (s : Str) : Bool := (decide (1 ≤ s.length) && decide (s.length ≤ 8)) && ((!decide (s ∈ wordsL)) && s.cps.toList.all fun c => decide (c ∈ letL))
theorem words_ok : ∀ s ∈ wordsL, PyData.strOk s = true := by decide +kernel
theorem words_p : p_WORDS = .tup (wordsL.map .str) := rfl
theorem is_name_k {s : Str} {lh : LH} {Q : LV → LH → Prop} {E : LX → LH → Prop} (hs : PyData.strOk s = true) (hl : s.length < 1000000) (q : Q (.pv (.bl (isNm s))) lh) : (m_is_name [.pv (.str s)] lh).sp Q E := by
  have hz : s.length ≤ sizeLine := by rw [sizeLine_eq]; omega
  refine sp_fn ?_
  unfold b_is_name
  walk_at "zg"
  refine sp_lenS hz ?_
  walk_at "zg"
  refine wy_d (fun h1 => ?_) (fun h1 => ?_)
  · walk_at "zg"
    refine wy_d (fun h2 => ?_) (fun h2 => ?_)
    · walk_at "zg"
      rw [words_p]
      refine sp_of (zIn_strT true s wordsL lh hs words_ok) ?_
      walk_at "zg"
      refine wy_d (fun h3 => ?_) (fun h3 => ?_)
      · walk_at "zg"
        have : isNm s = false := by unfold isNm; simp [h3]
        rw [this] at q; exact q
      · walk_at "zg"
        refine ⟨by show (chrs s).length ≤ _; unfold chrs; rw [List.length_map]; exact (by simpa [Str.length] using hz), ?_⟩
        walk_at "zg"
        unfold chrs
        refine lcL_map (p := fun _ => true) (G := fun c => .pv (.bl (decide (c ∈ letL)))) rfl _ _ (fun c hc => ?_) ?_
        · walk_at "zg"
          refine ⟨rfl, ?_⟩
          walk_at "zg"
          refine ⟨rfl, rfl, fun _ => ?_⟩
          walk_at "zg"
          exact ⟨rfl, by simp [letL]⟩
        · have e : s.cps.toList.filter (fun _ => true) = s.cps.toList := List.filter_eq_self.mpr fun _ _ => rfl
          rw [List.nil_append, e]
          have e2 : (s.cps.toList.map fun c => LV.pv (.bl (decide (c ∈ letL)))) = ((s.cps.toList.map fun c => decide (c ∈ letL)).map PV.bl).map LV.pv := by rw [List.map_map, List.map_map]; rfl
          rw [e2]
          refine sp_lstP (pvsTo_m ?_)
          walk_at "zg"
          have : isNm s = (s.cps.toList.map fun c => decide (c ∈ letL)).all id := by
            have h1' : (1 : Int) ≤ s.length := h1
            unfold isNm; simp [h3, show 1 ≤ s.length by omega, show s.length ≤ 8 by omega, List.all_map]
          rw [← this]; exact q
    · walk_at "zg"
      have : isNm s = false := by unfold isNm; simp; omega
      rw [this] at q; exact q
  · walk_at "zg"
    have : isNm s = false := by unfold isNm; simp; omega
    rw [this] at q; exact q
theorem fldTo_o {cs : List Str} {n : Str} {c : Str} {fs : List (Str × PV)} {p : PV} {lh : LH} {k : LV → Prop} (h : (fs.map fun p => (p.1, LV.pv p.2)).lookup n = some (.pv p)) (hc : c ∈ cs) (q : k (.pv p)) : FldTo cs n (.pv (.obj c fs)) lh k := ⟨c, _, _, rfl, hc, h, q⟩
theorem at0 {α : Type} {x : α} {r : List α} : atI (x :: r) 0 = some x := atI_nat (i := 0) (by simp) (by omega)
local macro_rules | `(tactic| walk_at "z1") => `(tactic| first
  | with_reducible refine sp_fld ?_
  | with_reducible refine sps_fld ?_
  | with_reducible refine sp_prop ?_
  | with_reducible refine sp_getK ?_
  | with_reducible refine sp_ixT at0 ?_
  | with_reducible refine sp_ixL at0 ?_
  | with_reducible refine fldTo_o (by with_unfolding_all rfl) (by decide) ?_)
local macro_rules | `(tactic| walk_at "len") => `(tactic| (simp only [str_len, sizeLine_eq, List.length_cons, List.length_nil, List.length_map, ll_0, ll_1, ll_2, ll_3, ll_4, ll_5, ll_6, ll_7, ll_8, ll_9, ll_10, ll_11, ll_12, ll_13, ll_14, ll_15, ll_16, ll_17, ll_18, ll_19, ll_20, ll_21, ll_22, ll_23, ll_24, ll_25, ll_26, ll_27, ll_28, ll_29, ll_30, ll_31, ll_32, ll_33, ll_34, ll_35, ll_36, ll_e]; omega))
local macro_rules | `(tactic| walk_at "d") => `(tactic| first | assumption | omega | decide +kernel | (refine id ?_; with_unfolding_all rfl) | (refine id ?_; simp only [lstOf_lst, sameO_self, List.map_cons, List.map_nil]; done) | walk_at "len")
local macro_rules | `(tactic| walk_at "s") => `(tactic| simp (disch := walk_at "d") only [↓hrs_ok, ↓hrs_seq, ↓hrs_name, ↓hlook_0, ↓hlook_s, ↓hrs_c, ↓hrs_bin, ↓hrs_un, ↓hrs_nil, ↓hrs_cons, ↓hrs_args, ↓hrs_call0, ↓hrs_mk0, ↓hrs_mkK, ↓hrs_tV, ↓hrs_asB, ↓hrs_tYes, ↓hrs_tNot, ↓hrs_tAnd, ↓hrs_tOr, ↓hrs_and, ↓hrs_or, ↓hrs_not, ↓hrs_ifE, ↓hrs_chain, ↓hrs_frz, ↓hrs_frzP, ↓hrs_mkD, ↓hrs_mkD0, ↓hrs_addI, ↓hrs_sub, ↓hrs_lt, ↓hrs_le, ↓hrs_gt, ↓hrs_ge, ↓hrs_mul, ↓hrs_mod, ↓hrs_div, ↓hrs_eqI, ↓hrs_eqB, ↓hrs_eqS, ↓hrs_isN, ↓hpvs_n, ↓hpvs_c, ↓hpvs_m, ↓hrs_lst, ↓hrs_tup, ↓hrs_lstM, ↓hrs_ixT0, ↓hrs_ixT1, ↓hrs_ixT2, ↓hrs_ixT3, ↓hrs_ixL0, ↓hrs_ixL1, ↓hrs_ixL2, ↓hrs_ixL3, ↓hrs_lenL, ↓hrs_lenT, ↓hrs_isiT, ↓hrs_isiF, ↓hrs_inT1, ↓hrs_inT2, ↓hrs_inT3, ↓hrs_inT4, ↓hrs_inT5, ↓hrs_inS, ↓hrs_all, ↓hrs_sum, ↓hrs_addS, ↓hrs_addL, ↓hrs_join, ↓hrs_joinK, ↓hrs_join2, ↓hrs_join3, ↓hrs_fmtS, ↓hrs_jsN, ↓hrs_jsC, ↓hjs_1, ↓hrs_fld, ↓hfld_o, ↓hgetF_1, ↓hgetF_s, ↓hrs_prop, ↓hprop_o, ↓hrs_ownBin, ↓hrs_ownInv, ↓hrs_set, ↓hrs_asg, ↓hrs_expr, ↓hrs_ret, ↓hrs_retN, ↓hrs_next, ↓hrs_brk, ↓hrs_cont, ↓hrs_sIf, ↓hrs_for, ↓htwo_1, ↓hrs_par, ↓hrs_tnx, ↓hrs_trt, ↓hrs_tbk, ↓hrs_tct, ↓hrs_lnx, ↓hrs_lrt, ↓hrs_lbk, ↓hrs_lct, ↓hrs_fnx, ↓hrs_frt, ↓hrs_cl0, ↓hrs_fn, ↓hset_0, ↓hset_s, ↓hwipe_n, ↓hwipe_c, ↓hstart_c, ↓hstart_n, ↓hstart_0, ↓hlst_1, ↓hrs_src, ↓htup_1, ↓hrs_srcT, ↓hrs_rng, ↓hrs_rng1, ↓hrs_rngI, ↓hrs_zip, ↓hrs_zipL, ↓hrs_zipT, ↓hrs_lc, ↓hrs_gN, ↓hrs_gNil, ↓hrs_gCons, ↓hrs_gTup2, ↓hrs_gTup3, ↓hrs_gTup4, ↓hrs_oN, ↓hrs_oS, ↓hasI_1, ↓hrs_sl, ↓hrs_slL, ↓hrs_slT, ↓hrs_meth, ↓hmeth_o, ↓hrs_get2, ↓hgetV_s, ↓hrs_lenR, ↓hrs_rep1, ↓hrs_repM1, ↓hrs_listCD, ↓hrs_gSub, ↓hrs_lc2, ↓hwy_1, ↓hwy_0, ↓hwy_neg, ↓hwy_xorf, ↓hwy_xort, ↓hwy_T, ↓hwy_F, ↓hide_1, ↓hide_2, ↓hide_3, ↓hrs_fnE, ↓hrs_callS, ↓hrs_lam, ↓hdct_1, cut_t1, sl_le, List.length_map, List.length_range, Int.toNat_natCast, zints_len, emp_app, and_true, true_and, eq_self])
local macro_rules | `(tactic| walk_at "su") => `(tactic| simp (disch := walk_at "d") only [↓hrs_ok, ↓hrs_seq, ↓hrs_name, ↓hlook_0, ↓hlook_s, ↓hrs_c, ↓hrs_bin, ↓hrs_un, ↓hrs_nil, ↓hrs_cons, ↓hrs_args, ↓hrs_call0, ↓hrs_mk0, ↓hrs_mkK, ↓hrs_tV, ↓hrs_asB, ↓hrs_tYes, ↓hrs_tNot, ↓hrs_tAnd, ↓hrs_tOr, ↓hrs_and, ↓hrs_or, ↓hrs_not, ↓hrs_ifE, ↓hrs_chain, ↓hrs_frz, ↓hrs_frzP, ↓hrs_mkD, ↓hrs_mkD0, ↓hrs_addI, ↓hrs_sub, ↓hrs_lt, ↓hrs_le, ↓hrs_gt, ↓hrs_ge, ↓hrs_mul, ↓hrs_mod, ↓hrs_div, ↓hrs_eqI, ↓hrs_eqB, ↓hrs_eqS, ↓hrs_isN, ↓hpvs_n, ↓hpvs_c, ↓hpvs_m, ↓hrs_lst, ↓hrs_tup, ↓hrs_lstM, ↓hrs_ixT0, ↓hrs_ixT1, ↓hrs_ixT2, ↓hrs_ixT3, ↓hrs_ixL0, ↓hrs_ixL1, ↓hrs_ixL2, ↓hrs_ixL3, ↓hrs_lenL, ↓hrs_lenT, ↓hrs_isiT, ↓hrs_isiF, ↓hrs_inT1, ↓hrs_inT2, ↓hrs_inT3, ↓hrs_inT4, ↓hrs_inT5, ↓hrs_inS, ↓hrs_all, ↓hrs_sum, ↓hrs_addS, ↓hrs_addL, ↓hrs_join, ↓hrs_joinK, ↓hrs_join2, ↓hrs_join3, ↓hrs_fmtS, ↓hrs_jsN, ↓hrs_jsC, ↓hjs_1, ↓hrs_fld, ↓hfld_o, ↓hgetF_1, ↓hgetF_s, ↓hrs_prop, ↓hprop_o, ↓hrs_ownBin, ↓hrs_ownInv, ↓hrs_set, ↓hrs_asg, ↓hrs_expr, ↓hrs_ret, ↓hrs_retN, ↓hrs_next, ↓hrs_brk, ↓hrs_cont, ↓hrs_sIf, ↓hrs_for, ↓htwo_1, ↓hrs_par, ↓hrs_tnx, ↓hrs_trt, ↓hrs_tbk, ↓hrs_tct, ↓hrs_lnx, ↓hrs_lrt, ↓hrs_lbk, ↓hrs_lct, ↓hrs_fnx, ↓hrs_frt, ↓hrs_cl0, ↓hrs_fn, ↓hset_0, ↓hset_s, ↓hwipe_n, ↓hwipe_c, ↓hstart_c, ↓hstart_n, ↓hstart_0, ↓hlst_1, ↓hrs_src, ↓htup_1, ↓hrs_srcT, ↓hrs_rng, ↓hrs_rng1, ↓hrs_rngI, ↓hrs_zip, ↓hrs_zipL, ↓hrs_zipT, ↓hrs_lc, ↓hrs_gN, ↓hrs_gNil, ↓hrs_gCons, ↓hrs_gTup2, ↓hrs_gTup3, ↓hrs_gTup4, ↓hrs_oN, ↓hrs_oS, ↓hasI_1, ↓hrs_sl, ↓hrs_slL, ↓hrs_slT, ↓hrs_meth, ↓hmeth_o, ↓hrs_get2, ↓hgetV_s, ↓hrs_lenR, ↓hrs_rep1, ↓hrs_repM1, ↓hrs_listCD, ↓hrs_gSub, ↓hrs_lc2, ↓hwy_1, ↓hwy_0, ↓hwy_neg, ↓hwy_xorf, ↓hwy_xort, ↓hwy_T, ↓hwy_F, ↓hide_1, ↓hide_2, ↓hide_3, ↓hrs_fnE, ↓hrs_callS, ↓hrs_lam, ↓hdct_1, ↓hrs_lcN, ↓hrs_lcC, List.map_cons, List.map_nil, List.nil_append, List.cons_append, List.length_cons, List.length_nil, cut_t1, sl_le, List.length_map, List.length_range, Int.toNat_natCast, zints_len, emp_app, and_true, true_and, eq_self])
def lk {α : Type} (d : List (Str × List α)) (s : Str) : List α := (d.lookup s).getD []
theorem getD_pD {α : Type} (f : α → PV) (d : List (Str × List α)) (s : Str) : (getP (pD f d) (.str s)).getD (.lst []) = .lst ((lk d s).map f) := by
  rw [getP_pD]
  unfold lk
  cases d.lookup s <;> rfl
theorem getD_cm {α : Type} (f : α → PV) (srt : List α → List α) (h0 : srt [] = []) (d : List (Str × List α)) (s : Str) : (getP (cm f srt d) (.str s)).getD (.lst []) = .lst ((srt (lk d s)).map f) := by
  rw [getP_cm]
  unfold lk
  cases d.lookup s with
  | none => simp [h0]
  | some xs => cases xs <;> simp [h0]
section
variable {n : Nat} {lh : LH} {chk : LH → Bool} {g : LV → EN → LH → Res EN} {t : EN → LH → Res Bool} {e : EN → LH → Res LV} {env0 : EN} {Qa : List LV → LH → Prop}
/-- .. some of them -/
theorem lc_f {F : Nat → LV} {G : Nat → PV} {p : Nat → Bool} (hc : chk lh = true) (h : ∀ x, x < n → (g (F x) env0 lh).sp (fun e1 l => l = lh ∧ (t e1 lh).sp (fun c l2 => l2 = lh ∧ c = p x) noE ∧ (e e1 lh).sp (fun v l3 => l3 = lh ∧ v = .pv (G x)) noE) noE) (q : Qa ((((List.range n).filter p).map G).map .pv) lh) : (lcL chk g t e env0 ((List.range n).map F) [] lh).sp Qa noE := by
  refine lcL_map (p := p) (G := fun x => .pv (G x)) hc _ _ (fun x hx => ?_) ?_
  · exact (h x (List.mem_range.mp hx)).imp fun e1 l ⟨el, q1, q2⟩ => ⟨el, q1.imp fun c l2 ⟨a, b⟩ => ⟨a, b, fun _ => q2⟩⟩
  · rw [List.nil_append]
    rw [List.map_map] at q
    exact q
end
abbrev wb (n : Nat) (m : List (Str × List Int)) (t : List (Str × List (List Int))) : PV := webP n (cmM m) (cmT t)
abbrev plP (n : Nat) (m : List (Str × List Int)) (t : List (Str × List (List Int))) : PV := .tup [.int (n : Int), .dct (pD .int m), .dct (pD tupP t)]
theorem fold_put : ∀ (l acc : List (PV × PV)), ((acc ++ l).map (·.1)).Nodup → l.foldl (fun a kv => putP a kv.1 kv.2) acc = acc ++ l
  | [], acc, _ => by simp
  | p :: l, acc, h => by
    have e : putP acc p.1 p.2 = acc ++ [p] := by
      unfold putP
      rw [if_neg]
      intro z
      obtain ⟨q, hq, e⟩ := List.any_eq_true.mp z
      have e : q.1 = p.1 := of_decide_eq_true e
      rw [List.map_append, List.map_cons] at h
      exact (List.nodup_append.mp h).2.2 q.1 (List.mem_map.mpr ⟨q, hq, rfl⟩) p.1 (List.mem_cons_self ..) e
    rw [List.foldl_cons, e, fold_put l (acc ++ [p]) (by simpa using h)]
    simp
section
variable {α : Type} {f : α → PV} {srt : List α → List α} {d : List (Str × List α)}
/-- names with something -/
abbrev ful (d : List (Str × List α)) (s : Str) : Bool := decide (0 < (lk d s).length)
theorem cD_key (s : Str) : (cD f srt d s).map (·.1) = if ful d s = true then some (PV.str s) else none := by
  unfold cD ful lk
  cases e : d.lookup s with
  | none => simp
  | some xs => by_cases h : 0 < xs.length <;> simp [h]
theorem fm_keys : ∀ l : List Str, (l.filterMap (cD f srt d)).map (·.1) = (l.filter (ful d)).map PV.str
  | [] => rfl
  | s :: l => by
    have ih := fm_keys l
    have k := cD_key (f := f) (srt := srt) (d := d) s
    rw [List.filterMap_cons, List.filter_cons]
    cases e : cD f srt d s with
    | none =>
      rw [e] at k
      by_cases h : ful d s = true
      · rw [if_pos h] at k; cases k
      · rw [if_neg h]; exact ih
    | some q =>
      rw [e] at k
      by_cases h : ful d s = true
      · rw [if_pos h] at k ⊢
        rw [List.map_cons, List.map_cons, ← ih]
        injection k with k
        rw [← k]
      · rw [if_neg h] at k; cases k
theorem nodup_str {l : List Str} (h : l.Nodup) : (l.map PV.str).Nodup := List.Pairwise.map _ (fun a b h e => h (by injection e)) h
theorem cm_keys (nd : (d.map (·.1)).Nodup) : (cm f srt d).map (·.1) = ((srtD ltS (d.map (·.1))).filter (ful d)).map PV.str := by
  have h : (((srtD ltS (d.map (·.1))).filterMap (cD f srt d)).map (·.1)).Nodup := by
    rw [fm_keys]
    exact nodup_str ((perm_srtD.nodup_iff.mpr nd).filter _)
  unfold cm
  rw [fold_put _ _ (by simpa using h), List.nil_append, fm_keys]
theorem srt_flt {l : List Str} {p : Str → Bool} : srtD ltS (l.filter p) = (srtD ltS l).filter p :=
  sorted_ext so_ltS (pw_srtD so_ltS) ((pw_srtD so_ltS).filter p) (perm_srtD.trans (perm_srtD.symm.filter p))
end
theorem lk_mem {α : Type} {d : List (Str × List α)} {s : Str} (h : s ∈ d.map (·.1)) : d.lookup s = some (lk d s) := by
  obtain ⟨xs, e⟩ := look_mem h
  unfold lk
  rw [e]; rfl
section
variable {α : Type} {f : α → PV} {srt : List α → List α} {d e : List (Str × List α)}
def cmL (srt : List α → List α) (d : List (Str × List α)) : List (Str × List α) := ((srtD ltS (d.map (·.1))).filter (ful d)).map fun s => (s, srt (lk d s))
theorem cD_lk (s : Str) : cD f srt d s = if ful d s = true then some (PV.str s, .lst ((srt (lk d s)).map f)) else none := by
  unfold cD ful lk
  cases d.lookup s with
  | none => simp
  | some xs => simp
theorem fm_if {β γ : Type} {p : β → Bool} {g : β → γ} : ∀ l : List β, (l.filterMap fun s => if p s = true then some (g s) else none) = (l.filter p).map g
  | [] => rfl
  | x :: l => by
    rw [List.filterMap_cons, List.filter_cons]
    cases p x with
    | true => simp [fm_if l]
    | false => simp [fm_if l]
theorem cm_pD (nd : (d.map (·.1)).Nodup) : cm f srt d = pD f (cmL srt d) := by
  have h : (((srtD ltS (d.map (·.1))).filterMap (cD f srt d)).map (·.1)).Nodup := by
    rw [fm_keys]
    exact nodup_str ((perm_srtD.nodup_iff.mpr nd).filter _)
  unfold cm
  rw [fold_put _ _ (by simpa using h), List.nil_append]
  have e : cD f srt d = fun s => if ful d s = true then some (PV.str s, PV.lst ((srt (lk d s)).map f)) else none := funext fun s => cD_lk s
  rw [e, fm_if]
  unfold cmL pD
  rw [List.map_map]
  rfl
theorem cmL_keys : (cmL srt d).map (·.1) = (srtD ltS (d.map (·.1))).filter (ful d) := by
  unfold cmL
  rw [List.map_map]
  exact (List.map_congr_left fun _ _ => rfl).trans (List.map_id _)
theorem cmL_nd (nd : (d.map (·.1)).Nodup) : ((cmL srt d).map (·.1)).Nodup := by
  rw [cmL_keys]
  exact (perm_srtD.nodup_iff.mpr nd).filter _
theorem lk_none {s : Str} (h : s ∉ d.map (·.1)) : lk d s = [] := by
  unfold lk
  cases e : d.lookup s with
  | none => rfl
  | some xs =>
    exfalso
    refine h (List.mem_map.mpr ⟨(s, xs), ?_, rfl⟩)
    clear h
    induction d with
    | nil => cases e
    | cons p r ih =>
      obtain ⟨k, v⟩ := p
      rw [List.lookup_cons] at e
      split at e
      · next hh =>
        cases e
        rw [eq_of_beq hh]
        exact List.mem_cons_self ..
      · exact List.mem_cons_of_mem _ (ih e)
theorem ful_mem {s : Str} (h : ful d s = true) : s ∈ d.map (·.1) := Classical.byContradiction fun z => by
  unfold ful at h
  rw [lk_none z] at h
  simp at h
theorem look_map {g : Str → List α} {s : Str} : ∀ l : List Str, (l.map fun s => (s, g s)).lookup s = if s ∈ l then some (g s) else none
  | [] => rfl
  | x :: l => by
    rw [List.map_cons, List.lookup_cons]
    by_cases h : s = x
    · subst h
      simp
    · have hb : (s == x) = false := beq_false_of_ne h
      rw [hb, look_map l]
      simp [h]
theorem lk_cmL (h0 : srt [] = []) (s : Str) : lk (cmL srt d) s = srt (lk d s) := by
  have e : (cmL srt d).lookup s = if s ∈ (srtD ltS (d.map (·.1))).filter (ful d) then some (srt (lk d s)) else none := look_map (g := fun s => srt (lk d s)) _
  show ((cmL srt d).lookup s).getD [] = _
  rw [e]
  by_cases h : s ∈ (srtD ltS (d.map (·.1))).filter (ful d)
  · rw [if_pos h]; rfl
  · rw [if_neg h]
    have hf : ful d s = false := Bool.eq_false_iff.mpr fun q => h (List.mem_filter.mpr ⟨srtD_mem.mpr (ful_mem q), q⟩)
    have : lk d s = [] := by
      unfold ful at hf
      simpa using hf
    rw [this, h0]
    rfl
/-- two dicts that tell the same make the same web -/
theorem cmL_congr (nd : (d.map (·.1)).Nodup) (ne : (e.map (·.1)).Nodup) (hf : ∀ s, ful d s = ful e s) (h : ∀ s, srt (lk d s) = srt (lk e s)) : cmL srt d = cmL srt e := by
  have hk : (srtD ltS (d.map (·.1))).filter (ful d) = (srtD ltS (e.map (·.1))).filter (ful e) := by
    rw [← srt_flt, ← srt_flt]
    refine sorted_ext so_ltS (pw_srtD so_ltS) (pw_srtD so_ltS) (perm_srtD.trans (List.Perm.trans ?_ perm_srtD.symm))
    refine (List.perm_ext_iff_of_nodup (nd.filter _) (ne.filter _)).mpr fun s => ?_
    rw [List.mem_filter, List.mem_filter, hf s]
    exact ⟨fun q => ⟨ful_mem q.2, q.2⟩, fun q => ⟨ful_mem ((hf s).trans q.2), q.2⟩⟩
  unfold cmL
  rw [hk]
  exact List.map_congr_left fun s _ => by rw [h s]
theorem cm_congr (nd : (d.map (·.1)).Nodup) (ne : (e.map (·.1)).Nodup) (hf : ∀ s, ful d s = ful e s) (h : ∀ s, srt (lk d s) = srt (lk e s)) : cm f srt d = cm f srt e := by
  rw [cm_pD nd, cm_pD ne, cmL_congr nd ne hf h]
/-- d[s] = xs -/
def putS (d : List (Str × List α)) (s : Str) (xs : List α) : List (Str × List α) := if s ∈ d.map (·.1) then d.map fun p => if p.1 = s then (s, xs) else p else d ++ [(s, xs)]
theorem putP_pD {s : Str} {xs : List α} : putP (pD f d) (.str s) (.lst (xs.map f)) = pD f (putS d s xs) := by
  have ha : ((pD f d).any fun kv => decide (kv.1 = PV.str s)) = decide (s ∈ d.map (·.1)) := by
    unfold pD
    rw [List.any_map, Bool.eq_iff_iff, List.any_eq_true, decide_eq_true_eq, List.mem_map]
    constructor
    · rintro ⟨p, hp, h⟩
      have h : PV.str p.1 = PV.str s := of_decide_eq_true h
      injection h with h
      exact ⟨p, hp, h⟩
    · rintro ⟨p, hp, rfl⟩
      exact ⟨p, hp, decide_eq_true rfl⟩
  unfold putP putS
  rw [ha]
  by_cases h : s ∈ d.map (·.1)
  · rw [if_pos (decide_eq_true h), if_pos h]
    unfold pD
    rw [List.map_map, List.map_map]
    refine List.map_congr_left fun p _ => ?_
    show (if PV.str p.1 = PV.str s then (PV.str p.1, PV.lst (xs.map f)) else (PV.str p.1, PV.lst (p.2.map f))) = (PV.str (if p.1 = s then (s, xs) else p).1, PV.lst ((if p.1 = s then (s, xs) else p).2.map f))
    by_cases hp : p.1 = s
    · rw [if_pos (by rw [hp]), if_pos hp, hp]
    · rw [if_neg (by intro z; injection z with z; exact hp z), if_neg hp]
  · rw [if_neg (by simpa using h), if_neg h]
    unfold pD
    rw [List.map_append]
    rfl
theorem putS_keys {s : Str} {xs : List α} : (putS d s xs).map (·.1) = if s ∈ d.map (·.1) then d.map (·.1) else d.map (·.1) ++ [s] := by
  unfold putS
  split
  · rw [List.map_map]
    refine List.map_congr_left fun p _ => ?_
    show (if p.1 = s then (s, xs) else p).1 = p.1
    split
    · next h => exact h.symm
    · rfl
  · rw [List.map_append]; rfl
theorem putS_nd {s : Str} {xs : List α} (nd : (d.map (·.1)).Nodup) : ((putS d s xs).map (·.1)).Nodup := by
  rw [putS_keys]
  split
  · exact nd
  · next h =>
    rw [List.nodup_append]
    exact ⟨nd, by simp, fun a ha b hb z => h (by rw [← List.mem_singleton.mp hb, ← z]; exact ha)⟩
theorem lk_putS {s r : Str} {xs : List α} : lk (putS d s xs) r = if r = s then xs else lk d r := by
  unfold putS
  by_cases hm : s ∈ d.map (·.1)
  · rw [if_pos hm]
    unfold lk
    induction d with
    | nil => cases hm
    | cons p d ih =>
      rw [List.map_cons, List.lookup_cons, List.lookup_cons]
      by_cases hp : p.1 = s
      · rw [if_pos hp]
        by_cases hr : r = s
        · subst hr
          simp
        · have h1 : (r == s) = false := beq_false_of_ne hr
          have h2 : (r == p.1) = false := beq_false_of_ne (by rw [hp]; exact hr)
          simp only [h1, h2, if_neg hr]
          by_cases hm2 : s ∈ d.map (·.1)
          · have := ih hm2
            rw [if_neg hr] at this
            exact this
          · have : d.map (fun p => if p.1 = s then (s, xs) else p) = d := by
              refine (List.map_congr_left fun q hq => ?_).trans (List.map_id _)
              rw [if_neg fun z => hm2 (List.mem_map.mpr ⟨q, hq, z⟩)]
              rfl
            rw [this]
      · rw [if_neg hp]
        by_cases hr : r = p.1
        · subst hr
          rw [if_neg hp]
          simp
        · have h2 : (r == p.1) = false := beq_false_of_ne hr
          simp only [h2]
          have hm2 : s ∈ d.map (·.1) := by
            rcases List.mem_cons.mp (show s ∈ p.1 :: d.map (·.1) from hm) with z | z
            · exact absurd z.symm hp
            · exact z
          exact ih hm2
  · rw [if_neg hm]
    unfold lk
    by_cases hr : r = s
    · subst hr
      rw [if_pos rfl]
      induction d with
      | nil => simp
      | cons p d ih =>
        have hp : r ≠ p.1 := fun z => hm (by rw [z]; exact List.mem_cons_self ..)
        have h2 : (r == p.1) = false := beq_false_of_ne hp
        rw [List.cons_append, List.lookup_cons, h2]
        exact ih fun z => hm (List.mem_cons_of_mem _ z)
    · rw [if_neg hr]
      have h1 : (r == s) = false := beq_false_of_ne hr
      induction d with
      | nil =>
        show (List.lookup r [(s, xs)]).getD [] = _
        rw [List.lookup_cons, h1]
      | cons p d ih =>
        rw [List.cons_append, List.lookup_cons, List.lookup_cons]
        split
        · rfl
        · exact ih fun z => hm (List.mem_cons_of_mem _ z)
end
/-- sorted once is sorted -/
theorem srtU_ext {α : Type} {lt : α → α → Bool} (o : SO lt) {xs ys : List α} (h : ∀ x, x ∈ xs ↔ x ∈ ys) : srtU lt xs = srtU lt ys := by
  have q : ∀ l : List α, (srtU lt l).Pairwise (fun a b => lt b a = false) := fun l => (pw_srtU o).imp fun {a b} h => Bool.eq_false_iff.mpr fun z => by
    have := o.tr _ _ _ h z
    rw [o.irr] at this
    cases this
  have nd : ∀ l : List α, (srtU lt l).Nodup := fun l => (pw_srtU o).imp fun {a b} h z => by
    subst z
    rw [o.irr] at h
    cases h
  exact sorted_ext o (q _) (q _) ((List.perm_ext_iff_of_nodup (nd _) (nd _)).mpr fun x => by rw [mem_srtU o, mem_srtU o]; exact h x)
section
variable {α : Type} {lh : LH} {chk : LH → Bool} {g : LV → EN → LH → Res EN} {tt : EN → LH → Res Bool} {e : EN → LH → Res LV} {env0 : EN} {Qa : List LV → LH → Prop}
/-- a comprehension with a test, nothing changes -/
theorem lc_ps {xs : List α} {F : α → LV} {G : α → PV} {p : α → Bool} (hc : chk lh = true) (h : ∀ x ∈ xs, (g (F x) env0 lh).sp (fun e1 l => l = lh ∧ (tt e1 lh).sp (fun c l2 => l2 = lh ∧ c = p x) noE ∧ (e e1 lh).sp (fun v l3 => l3 = lh ∧ v = .pv (G x)) noE) noE) (q : Qa (((xs.filter p).map G).map .pv) lh) : (lcL chk g tt e env0 (xs.map F) [] lh).sp Qa noE := by
  refine lcL_map (p := p) (G := fun x => .pv (G x)) hc _ _ (fun x hx => ?_) ?_
  · exact (h x hx).imp fun e1 l ⟨el, q1, q2⟩ => ⟨el, q1.imp fun c l2 ⟨a, b⟩ => ⟨a, b, fun _ => q2⟩⟩
  · rw [List.nil_append]
    rw [List.map_map] at q
    exact q
end
theorem ix_pD {α : Type} {f : α → PV} {d : List (Str × List α)} {s : Str} {lh : LH} (h : s ∈ d.map (·.1)) : zIx (.pv (.dct (pD f d))) (.pv (.str s)) lh = .ok (.pv (.lst ((lk d s).map f))) lh := zIx_dct (by rw [getP_pD, lk_mem h]; rfl)
theorem len_insU {α : Type} {lt : α → α → Bool} {x : α} : ∀ l : List α, (insU lt x l).length ≤ l.length + 1
  | [] => by simp [insU]
  | y :: r => by
    unfold insU
    split
    · simp
    · split
      · have := len_insU (lt := lt) (x := x) r
        simp only [List.length_cons]; omega
      · simp
theorem len_srtU {α : Type} {lt : α → α → Bool} : ∀ l : List α, (srtU lt l).length ≤ l.length
  | [] => by simp [srtU]
  | x :: r => by
    have h1 := len_insU (lt := lt) (x := x) (srtU lt r)
    have h2 := len_srtU (lt := lt) r
    unfold srtU
    simp only [List.length_cons]; omega
theorem sp_dispU {fd fk fv : EN → LH → Res LV} {env : EN} {lh : LH} {Q : LV → LH → Prop} {E : LX → LH → Prop} (h : (fd env lh).sp (fun x l1 => ∃ kvs : List (PV × PV), x = .pv (.dct kvs) ∧ kvs.length + 15 ≤ sizeLine ∧ (fk env l1).sp (fun y l2 => ∃ s, y = .pv (.str s) ∧ (fv env l2).sp (fun z l3 => ∃ p, z = .pv p ∧ Q (.pv (.dct (putP kvs (.str s) p))) l3) noE) noE) noE) : (fDispU zDc fd fk fv env lh).sp Q E := by
  obtain ⟨x, l1, e1, kvs, rfl, hl, h⟩ := h.ex
  obtain ⟨y, l2, e2, s, rfl, h⟩ := h.ex
  obtain ⟨z, l3, e3, p, rfl, q⟩ := h.ex
  have e4 : fPairs [(fk, fv)] env l1 = .ok [(.pv (.str s), .pv p)] l3 := by
    show (fk env l1).bind _ = _
    rw [e2, Res.bind_ok, e3]
    rfl
  have e5 : mergeD (upP kvs) (mergeD [] [(PV.str s, LV.pv p)]) = upP (putP kvs (.str s) p) := by
    show putD (upP kvs) (.str s) (.pv p) = _
    exact putD_up ..
  have hk : dctOf (.pv (.dct kvs)) l1 = some (upP kvs) := rfl
  unfold fDispU
  rw [e1]
  show (((match dctOf (.pv (.dct kvs)) l1 with
    | some kvs0 => if kvs0.length + 15 ≤ sizeLine then (noX (fPairs [(fk, fv)] env l1)).bind fun xs lh3 => (match keysOf xs with
      | some kvs => zDc (mergeD kvs0 (mergeD [] kvs)) lh3
      | none => .stuck) else .stuck
    | none => .stuck) : Res LV)).sp Q E
  simp only [hk]
  rw [if_pos (by simpa using hl), e4]
  show (zDc (mergeD (upP kvs) (mergeD [] [(PV.str s, LV.pv p)])) l3).sp Q E
  rw [e5]
  unfold zDc
  rw [pvsD_map]
  exact q
section
variable {n : Nat} {m : List (Str × List Int)} {t : List (Str × List (List Int))} {lh : LH} {s : Str} {o : PV} {x : LV}
theorem srtU_idem {α : Type} {lt : α → α → Bool} (o : SO lt) {xs : List α} : srtU lt (srtU lt xs) = srtU lt xs := srtU_ext o fun x => mem_srtU o
theorem len_srtU0 {α : Type} {lt : α → α → Bool} (o : SO lt) {xs : List α} : decide (0 < (srtU lt xs).length) = decide (0 < xs.length) := by
  rw [decide_eq_decide]
  cases xs with
  | nil => exact Iff.rfl
  | cons a r =>
    have : a ∈ srtU lt (a :: r) := (mem_srtU o).mpr (List.mem_cons_self ..)
    exact ⟨fun _ => by simp, fun _ => List.length_pos_of_mem this⟩
/-- a web's own dict told again is itself -/
theorem cm_again {α : Type} {f : α → PV} {lt : α → α → Bool} (o : SO lt) {d : List (Str × List α)} (nd : (d.map (·.1)).Nodup) : cm f (srtU lt) (cmL (srtU lt) d) = cm f (srtU lt) d :=
  cm_congr (cmL_nd nd) nd (fun s => by unfold ful; rw [lk_cmL rfl]; exact len_srtU0 o) fun s => by rw [lk_cmL rfl, srtU_idem o]
theorem cm_put {α : Type} {f : α → PV} {lt : α → α → Bool} (o : SO lt) {d : List (Str × List α)} {xs : List α} (nd : (d.map (·.1)).Nodup) : cm f (srtU lt) (putS (cmL (srtU lt) d) s xs) = cm f (srtU lt) (putS d s xs) :=
  cm_congr (putS_nd (cmL_nd nd)) (putS_nd nd) (fun r => by
    unfold ful
    rw [lk_putS, lk_putS]
    split
    · rfl
    · rw [lk_cmL rfl]; exact len_srtU0 o) fun r => by
    rw [lk_putS, lk_putS]
    split
    · rfl
    · rw [lk_cmL rfl, srtU_idem o]
theorem cmL_len {α : Type} {srt : List α → List α} {d : List (Str × List α)} : (cmL srt d).length ≤ d.length := by
  unfold cmL
  rw [List.length_map]
  refine Nat.le_trans (List.length_filter_le _ _) ?_
  rw [perm_srtD.length_eq, List.length_map]
  exact Nat.le_refl _
theorem lookup_lk {α : Type} {d : List (Str × List α)} {s : Str} {xs : List α} (h : d.lookup s = some xs) : lk d s = xs := by unfold lk; rw [h]; rfl
theorem putS_len {α : Type} {d : List (Str × List α)} {s : Str} {xs : List α} : (putS d s xs).length ≤ d.length + 1 := by
  unfold putS
  split <;> simp
theorem mok_cmL (h : MOk n m) (nd : (m.map (·.1)).Nodup) : MOk n (cmL (srtU ltZ) m) where
  len := Nat.lt_of_le_of_lt cmL_len h.len
  nm := fun s hs => by
    rw [cmL_keys] at hs
    exact h.nm s (srtD_mem.mp (List.mem_filter.mp hs).1)
  v := fun s xs e => by
    have e2 := lookup_lk e
    rw [lk_cmL rfl] at e2
    subst e2
    by_cases hm : s ∈ m.map (·.1)
    · obtain ⟨zs, hz⟩ := look_mem hm
      obtain ⟨h1, h2⟩ := h.v s zs hz
      rw [lookup_lk hz]
      exact ⟨Nat.lt_of_le_of_lt (len_srtU _) h1, fun x hx => h2 x ((mem_srtU so_ltZ).mp hx)⟩
    · rw [lk_none hm]
      exact ⟨by decide, fun x hx => absurd hx (by simp [srtU])⟩
theorem tok_cmL (h : TOk n t) (nd : (t.map (·.1)).Nodup) : TOk n (cmL (srtU ltL) t) where
  len := Nat.lt_of_le_of_lt cmL_len h.len
  nm := fun s hs => by
    rw [cmL_keys] at hs
    exact h.nm s (srtD_mem.mp (List.mem_filter.mp hs).1)
  v := fun s xs e => by
    have e2 := lookup_lk e
    rw [lk_cmL rfl] at e2
    subst e2
    by_cases hm : s ∈ t.map (·.1)
    · obtain ⟨zs, hz⟩ := look_mem hm
      obtain ⟨h1, h2⟩ := h.v s zs hz
      rw [lookup_lk hz]
      exact ⟨Nat.lt_of_le_of_lt (len_srtU _) h1, fun x hx => h2 x ((mem_srtU so_ltL).mp hx)⟩
    · rw [lk_none hm]
      exact ⟨by decide, fun x hx => absurd hx (by simp [srtU])⟩
theorem mok_put {xs : List Int} (h : MOk n m) (hs : NmG s) (hx : NodesIn n xs) (hl : m.length + 1 < 64) : MOk n (putS m s xs) where
  len := Nat.lt_of_le_of_lt putS_len hl
  nm := fun r hr => by
    rw [putS_keys] at hr
    split at hr
    · exact h.nm r hr
    · rcases List.mem_append.mp hr with q | q
      · exact h.nm r q
      · rw [List.mem_singleton.mp q]; exact hs
  v := fun r zs e => by
    have e2 := lookup_lk e
    rw [lk_putS] at e2
    split at e2
    · subst e2; exact hx
    · subst e2
      by_cases hm : r ∈ m.map (·.1)
      · obtain ⟨ys, hy⟩ := look_mem hm
        rw [lookup_lk hy]
        exact h.v r ys hy
      · rw [lk_none hm]
        exact ⟨by decide, fun x hx => absurd hx (by simp)⟩
theorem tok_put {xs : List (List Int)} (h : TOk n t) (hs : NmG s) (hx : PairsIn n xs) (hl : t.length + 1 < 64) : TOk n (putS t s xs) where
  len := Nat.lt_of_le_of_lt putS_len hl
  nm := fun r hr => by
    rw [putS_keys] at hr
    split at hr
    · exact h.nm r hr
    · rcases List.mem_append.mp hr with q | q
      · exact h.nm r q
      · rw [List.mem_singleton.mp q]; exact hs
  v := fun r zs e => by
    have e2 := lookup_lk e
    rw [lk_putS] at e2
    split at e2
    · subst e2; exact hx
    · subst e2
      by_cases hm : r ∈ t.map (·.1)
      · obtain ⟨ys, hy⟩ := look_mem hm
        rw [lookup_lk hy]
        exact h.v r ys hy
      · rw [lk_none hm]
        exact ⟨by decide, fun x hx => absurd hx (by simp)⟩
theorem painted_e {xs : List Int} (h0 : 1 ≤ n) (h1 : n ≤ 300) (hm : MOk n m) (nm : (m.map (·.1)).Nodup) (ht : TOk n t) (nt : (t.map (·.1)).Nodup) (hl : m.length + 1 < 64) (hs : NmG s) (hx : NodesIn n xs) (e : zListCD [x] lh = .ok (.pv (.lst (xs.map .int))) lh) :
    m_Web_painted [.pv (wb n m t), .pv (.str s), x] lh = .ok (.pv (wb n (putS m s xs) t)) lh := by
  refine eq_sp ?_
  unfold m_Web_painted b_Web_painted
  walk_at "s"
  rw [hs.1]
  unfold wb webP
  walk_at "s"
  refine sp_dispU ?_
  walk_at "s"
  have em : cmM m = .dct (pD .int (cmL (srtU ltZ) m)) := congrArg PV.dct (cm_pD nm)
  have et : cmT t = .dct (pD tupP (cmL (srtU ltL) t)) := congrArg PV.dct (cm_pD nt)
  have l1 : (cmL (srtU ltZ) m).length ≤ m.length := cmL_len
  refine ⟨_, congrArg LV.pv em, by unfold pD; rw [List.length_map, sizeLine_eq]; omega, s, rfl, ?_⟩
  rw [e]
  refine ⟨_, rfl, ?_⟩
  rw [putP_pD, et]
  have mk := make_ok (size := (n : Int)) (lh := lh) (by omega) (by omega) (mok_put (mok_cmL hm nm) hs hx (by omega)) (tok_cmL ht nt)
  rw [show cmM (putS (cmL (srtU ltZ) m) s xs) = cmM (putS m s xs) from congrArg PV.dct (cm_put so_ltZ nm), show cmT (cmL (srtU ltL) t) = cmT t from congrArg PV.dct (cm_again so_ltL nt)] at mk
  rw [show b_mk_Web_marks_ties [.pv (.int (n : Int))] [.pv (.dct (pD .int (putS (cmL (srtU ltZ) m) s xs))), .pv (.dct (pD tupP (cmL (srtU ltL) t)))] = [.pv (.int (n : Int)), .pv (.dct (pD .int (putS (cmL (srtU ltZ) m) s xs))), .pv (.dct (pD tupP (cmL (srtU ltL) t)))] from rfl, mk]
  walk_at "s"
  rw [← et]
  rfl
theorem redrawn_e {xs : List (List Int)} (h0 : 1 ≤ n) (h1 : n ≤ 300) (hm : MOk n m) (nm : (m.map (·.1)).Nodup) (ht : TOk n t) (nt : (t.map (·.1)).Nodup) (hl : t.length + 1 < 64) (hs : NmG s) (hx : PairsIn n xs) (e : zListCD [x] lh = .ok (.pv (.lst (xs.map tupP))) lh) :
    m_Web_redrawn [.pv (wb n m t), .pv (.str s), x] lh = .ok (.pv (wb n m (putS t s xs))) lh := by
  refine eq_sp ?_
  unfold m_Web_redrawn b_Web_redrawn
  walk_at "s"
  rw [hs.1]
  unfold wb webP
  walk_at "s"
  refine sp_dispU ?_
  walk_at "s"
  have em : cmM m = .dct (pD .int (cmL (srtU ltZ) m)) := congrArg PV.dct (cm_pD nm)
  have et : cmT t = .dct (pD tupP (cmL (srtU ltL) t)) := congrArg PV.dct (cm_pD nt)
  have l1 : (cmL (srtU ltL) t).length ≤ t.length := cmL_len
  refine ⟨_, congrArg LV.pv et, by unfold pD; rw [List.length_map, sizeLine_eq]; omega, s, rfl, ?_⟩
  rw [e]
  refine ⟨_, rfl, ?_⟩
  rw [putP_pD, em]
  have mk := make_ok (size := (n : Int)) (lh := lh) (by omega) (by omega) (mok_cmL hm nm) (tok_put (tok_cmL ht nt) hs hx (by omega))
  rw [show cmT (putS (cmL (srtU ltL) t) s xs) = cmT (putS t s xs) from congrArg PV.dct (cm_put so_ltL nt), show cmM (cmL (srtU ltZ) m) = cmM m from congrArg PV.dct (cm_again so_ltZ nm)] at mk
  rw [show b_mk_Web_marks_ties [.pv (.int (n : Int))] [.pv (.dct (pD .int (cmL (srtU ltZ) m))), .pv (.dct (pD tupP (putS (cmL (srtU ltL) t) s xs)))] = [.pv (.int (n : Int)), .pv (.dct (pD .int (cmL (srtU ltZ) m))), .pv (.dct (pD tupP (putS (cmL (srtU ltL) t) s xs)))] from rfl, mk]
  walk_at "s"
  rw [← em]
  rfl
end
def NmOk (n : Str) : Prop := PyData.strOk n = true ∧ n.length < 1000000 ∧ isNm n = true
theorem nmg_ok {s : Str} (h : NmOk s) : NmG s := ⟨fun lh => by
  refine eq_sp (is_name_k h.1 h.2.1 ?_)
  rw [h.2.2]
  exact ⟨rfl, rfl⟩, h.1⟩
theorem in2 (n a b : Int) (lh : LH) : zIn false (.pv (.int n)) (.pv (.tup [.int a, .int b])) lh = .ok (.pv (.bl (decide (n ∈ [a, b])))) lh := by
  show zInQ false (.pv (.int n)) (.pv (.tup [.int a, .int b])) lh = _
  unfold zInQ
  have e1 : pdL (.pv (.int n)) lh = some (.int n) := rfl
  have e2 : dsOf (.pv (.tup [.int a, .int b])) lh = some [.int a, .int b] := rfl
  have e3 : SeqAt.shaped (.int n) = true := rfl
  have e4 : SeqAt.shaped (.list [.int a, .int b]) = true := rfl
  rw [e1, e2]
  simp only [e3, e4, and_self, if_true]
  have e5 : ([PyData.int a, .int b].any fun z => PyData.eqv z (.int n)) = decide (n ∈ [a, b]) := by
    show ((a == n) || ((b == n) || false)) = _
    rw [Bool.beq_eq_decide_eq, Bool.beq_eq_decide_eq]
    simp [eq_comm]
  rw [e5]; simp
theorem sp_in2 {n a b : Int} {lh : LH} {Q : LV → LH → Prop} {E : LX → LH → Prop} (q : Q (.pv (.bl (decide (n ∈ [a, b])))) lh) : (zIn false (.pv (.int n)) (.pv (.tup [.int a, .int b])) lh).sp Q E := sp_of (in2 ..) q
local macro_rules | `(tactic| walk_at "z1") => `(tactic| with_reducible refine sp_in2 ?_)
def namesL : List (List Str) := [["a", "b", "k", "m"], ["b", "a", "m", "k"], ["a", "b", "a", "b"], ["q", "qa", "qa", "qq"], ["zebra", "x", "ties", "tie"], ["abcdefgh", "h", "ys", "nots"]]
theorem names_nm : ∀ l ∈ namesL, ∀ s ∈ l, PyData.strOk s = true ∧ s.length < 1000000 ∧ isNm s = true := by decide +kernel
theorem names_len : ∀ l ∈ namesL, l.length = 4 := by decide +kernel
theorem names_n : namesL.length = 6 := by decide +kernel
theorem names_ne : ∀ l ∈ namesL, l[0]? ≠ l[1]? ∧ l[2]? ≠ l[3]? ∧ ∀ s ∈ l, s ∈ nms := by decide +kernel
structure Nm4 (a b c d : Str) : Prop where
  ab : a ≠ b
  cd : c ≠ d
  ia : a ∈ nms
  ib : b ∈ nms
  ic : c ∈ nms
  id : d ∈ nms
  na : NmOk a
  nb : NmOk b
  nc : NmOk c
  nd : NmOk d
theorem names_k {rest lh : LH} {Q : LV → LH → Prop} {E : LX → LH → Prop} (h : HB rest lh) (k : ∀ a b c d l, HB rest l → Nm4 a b c d → Q (.pv (.lst [.str a, .str b, .str c, .str d])) l) : (m_law_names [.ref 0] lh).sp Q E := by
  refine sp_fn ?_
  unfold b_law_names
  with_reducible refine startTo_c (by with_unfolding_all rfl) ?_
  with_reducible refine startTo_0 ?_
  with_reducible refine sps_ret ?_
  with_reducible refine sp_call0 ?_
  with_reducible refine sp_cons ?_
  with_reducible refine sp_name rfl ?_
  with_reducible refine sp_cons ?_
  refine sp_of (a := .pv (.lst (namesL.map fun l => .lst (l.map .str)))) (lh := lh) (by kernel_rfl) ?_
  walk_at "zg"
  with_reducible refine one_k (ts := namesL.map fun l => .lst (l.map .str)) h (by rw [List.length_map, names_n]; decide) (by rw [List.length_map, names_n]; decide) fun p l hb hp => ?_
  obtain ⟨x, hx, rfl⟩ := List.mem_map.mp hp
  have h1 := names_nm x hx
  have h2 := names_len x hx
  have h3 := names_ne x hx
  match x, h2, h1, h3 with
  | [a, b, c, d], _, h1, h3 =>
    walk_at "zg"
    exact sp_cleanS (hb.len h) (k a b c d l hb ⟨fun h => h3.1 (by simp [h]), fun h => h3.2.1 (by simp [h]), h3.2.2 a (by simp), h3.2.2 b (by simp), h3.2.2 c (by simp), h3.2.2 d (by simp), h1 a (by simp), h1 b (by simp), h1 c (by simp), h1 d (by simp)⟩)
theorem PlOk.mok {a b c d : Str} {size : Int} {m : List (Str × List Int)} {t : List (Str × List (List Int))} (h : PlOk a b c d size m t) (ha : NmG a) (hb : NmG b) (hab : a ≠ b) : MOk size m ∧ (m.map (·.1)).Nodup := by
  obtain ⟨xs, ys, rfl, h1, h2⟩ := h.m
  refine ⟨⟨by simp, by simp [ha, hb], fun s zs q => ?_⟩, by simp [hab]⟩
  rw [List.lookup_cons] at q
  split at q
  · cases q; exact h1.1
  · rw [List.lookup_cons] at q
    split at q
    · cases q; exact h2.1
    · cases q
theorem PlOk.tok {a b c d : Str} {size : Int} {m : List (Str × List Int)} {t : List (Str × List (List Int))} (h : PlOk a b c d size m t) (ha : NmG c) (hb : NmG d) (hab : c ≠ d) : TOk size t ∧ (t.map (·.1)).Nodup := by
  obtain ⟨xs, ys, rfl, h1, h2⟩ := h.t
  refine ⟨⟨by simp, by simp [ha, hb], fun s zs q => ?_⟩, by simp [hab]⟩
  rw [List.lookup_cons] at q
  split at q
  · cases q; exact h1.1
  · rw [List.lookup_cons] at q
    split at q
    · cases q; exact h2.1
    · cases q
def dq (a b : List (PV × PV)) : Bool := decide (a.length = b.length ∧ ∀ p ∈ a, lkP p.1 b = some p.2)
theorem frm_pD {α : Type} {f : α → PV} {F : Frm} (h : ∀ x, HasF F (f x)) (d : List (Str × List α)) : ∀ p ∈ pD f d, HasF (.lst F) p.2 := fun p hp => by
  obtain ⟨q, _, rfl⟩ := List.mem_map.mp hp
  exact .lst fun y hy => by
    obtain ⟨z, _, rfl⟩ := List.mem_map.mp hy
    exact h z
theorem frm_tup (x : List Int) : HasF (.tup .int) (tupP x) := .tup fun y hy => by
  obtain ⟨z, _, rfl⟩ := List.mem_map.mp hy
  exact .int z
section
variable {n n' : Int} {m m' : List (Str × List Int)} {t t' : List (Str × List (List Int))} {lh : LH}
theorem frm_m (nm : (m.map (·.1)).Nodup) : ∀ p ∈ cm .int (srtU ltZ) m, HasF (.lst .int) p.2 := by
  rw [cm_pD nm]
  exact frm_pD (fun x => .int x) _
theorem frm_t (nt : (t.map (·.1)).Nodup) : ∀ p ∈ cm tupP (srtU ltL) t, HasF (.lst (.tup .int)) p.2 := by
  rw [cm_pD nt]
  exact frm_pD frm_tup _
theorem weq_m (nm : (m.map (·.1)).Nodup) (nm' : (m'.map (·.1)).Nodup) : zEqW (.pv (cmM m)) (.pv (cmM m')) lh = .ok (.pv (.bl (dq (cm .int (srtU ltZ) m) (cm .int (srtU ltZ) m')))) lh := zEqW_frm (by decide) (frm_m nm) (frm_m nm')
theorem weq_t (nt : (t.map (·.1)).Nodup) (nt' : (t'.map (·.1)).Nodup) : zEqW (.pv (cmT t)) (.pv (cmT t')) lh = .ok (.pv (.bl (dq (cm tupP (srtU ltL) t) (cm tupP (srtU ltL) t')))) lh := zEqW_frm (by decide) (frm_t nt) (frm_t nt')
theorem weq_e (nm : (m.map (·.1)).Nodup) (nt : (t.map (·.1)).Nodup) (nm' : (m'.map (·.1)).Nodup) (nt' : (t'.map (·.1)).Nodup) :
    m_Web_eq [.pv (webP n (cmM m) (cmT t)), .pv (webP n' (cmM m') (cmT t'))] lh = .ok (.pv (.bl (decide (n = n') && dq (cm .int (srtU ltZ) m) (cm .int (srtU ltZ) m') && dq (cm tupP (srtU ltL) t) (cm tupP (srtU ltL) t')))) lh := by
  refine eq_sp ?_
  unfold m_Web_eq b_Web_eq webP
  walk_at "s"
  by_cases hn : n = n'
  · rw [decide_eq_true hn]
    walk_at "s"
    rw [weq_m nm nm']
    walk_at "s"
    cases hd : dq (cm .int (srtU ltZ) m) (cm .int (srtU ltZ) m')
    · walk_at "s"
      rfl
    · walk_at "s"
      rw [weq_t nt nt']
      walk_at "s"
      rfl
  · rw [decide_eq_false hn]
    walk_at "s"
    rfl
theorem nd_cm {α : Type} {f : α → PV} {srt : List α → List α} {d : List (Str × List α)} (nd : (d.map (·.1)).Nodup) : ((cm f srt d).map (·.1)).Nodup := by
  rw [cm_keys nd]
  exact nodup_str ((perm_srtD.nodup_iff.mpr nd).filter _)
theorem dq_self {a : List (PV × PV)} (h : (a.map (·.1)).Nodup) : dq a a = true := decide_eq_true ⟨rfl, lkP_self h⟩
theorem weq_self (nm : (m.map (·.1)).Nodup) (nt : (t.map (·.1)).Nodup) : m_Web_eq [.pv (webP n (cmM m) (cmT t)), .pv (webP n (cmM m) (cmT t))] lh = .ok (.pv (.bl true)) lh := by
  rw [weq_e nm nt nm nt, decide_eq_true rfl, dq_self (nd_cm nm), dq_self (nd_cm nt)]
  rfl
theorem oweq {neg c : Bool} (hx : m_Web_eq [.pv (webP n (cmM m) (cmT t)), .pv (webP n' (cmM m') (cmT t'))] lh = .ok (.pv (.bl c)) lh) : zOwnEq neg ["Web"] ownK m_Web_eq (.pv (webP n (cmM m) (cmT t))) (.pv (webP n' (cmM m') (cmT t'))) lh = .ok (.pv (.bl (xor neg c))) lh := by
  refine eq_sp (sp_ownEq (c := "Web") (fs := _) (t := .own "Web") rfl (by decide) rfl (by decide +kernel) (sp_of hx ⟨c, rfl, rfl, rfl⟩))
theorem oweq_self {neg : Bool} (nm : (m.map (·.1)).Nodup) (nt : (t.map (·.1)).Nodup) : zOwnEq neg ["Web"] ownK m_Web_eq (.pv (webP n (cmM m) (cmT t))) (.pv (webP n (cmM m) (cmT t))) lh = .ok (.pv (.bl (xor neg true))) lh := oweq (weq_self nm nt)
end
theorem sub_len {α : Type} [DecidableEq α] : ∀ {l1 l2 : List α}, l1.Nodup → (∀ x ∈ l1, x ∈ l2) → l1.length ≤ l2.length
  | [], _, _, _ => Nat.zero_le _
  | x :: r, l2, nd, h => by
    have nd := List.nodup_cons.mp nd
    have hx : x ∈ l2 := h x List.mem_cons_self
    have h2 : ∀ y ∈ r, y ∈ l2.erase x := fun y hy => (List.mem_erase_of_ne (fun z => nd.1 (by rw [← z]; exact hy))).mpr (h y (List.mem_cons_of_mem _ hy))
    have := sub_len nd.2 h2
    have e := List.length_erase_of_mem hx
    have p := List.length_pos_of_mem hx
    rw [List.length_cons]
    omega
theorem lkP_key {k : PV} : ∀ {b : List (PV × PV)}, k ∈ b.map (·.1) → ∃ q, lkP k b = some q
  | (l, q) :: r, h => by
    unfold lkP
    by_cases e : l = k
    · exact ⟨q, if_pos e⟩
    · rw [if_neg e]
      rcases List.mem_cons.mp h with h | h
      · exact absurd h.symm e
      · exact lkP_key h
theorem lkP_get {k : PV} : ∀ {b : List (PV × PV)}, lkP k b = getP b k
  | [] => rfl
  | (l, q) :: r => by
    have ih : lkP k r = (r.find? fun kv => decide (kv.1 = k)).map (·.2) := lkP_get (k := k) (b := r)
    show (if l = k then some q else lkP k r) = (((l, q) :: r).find? fun kv => decide (kv.1 = k)).map (·.2)
    rw [List.find?_cons]
    by_cases e : l = k
    · rw [if_pos e]
      simp [e]
    · rw [if_neg e, ih]
      simp [e]
theorem dq_look {a b : List (PV × PV)} (na : (a.map (·.1)).Nodup) (h : dq a b = true) (s : PV) : getP a s = getP b s := by
  unfold dq at h
  obtain ⟨hl, hp⟩ := of_decide_eq_true h
  rw [← lkP_get, ← lkP_get]
  cases e : lkP s a with
  | some q => exact (hp _ (lkP_mem e)).symm
  | none =>
    cases e2 : lkP s b with
    | none => rfl
    | some q =>
      exfalso
      have ns : s ∉ a.map (·.1) := fun z => by
        obtain ⟨q, z⟩ := lkP_key z
        rw [e] at z
        cases z
      have sub : ∀ x ∈ s :: a.map (·.1), x ∈ b.map (·.1) := fun x hx => by
        rcases List.mem_cons.mp hx with rfl | hx
        · exact List.mem_map.mpr ⟨_, lkP_mem e2, rfl⟩
        · obtain ⟨p, hp1, rfl⟩ := List.mem_map.mp hx
          exact List.mem_map.mpr ⟨_, lkP_mem (hp p hp1), rfl⟩
      have := sub_len (List.nodup_cons.mpr ⟨ns, na⟩) sub
      simp only [List.length_cons, List.length_map] at this
      omega
theorem dq_srt {α : Type} {f : α → PV} {srt : List α → List α} (h0 : srt [] = []) (hf : ∀ {x y : List α}, x.map f = y.map f → x = y) {d e : List (Str × List α)} (nd : (d.map (·.1)).Nodup) (h : dq (cm f srt d) (cm f srt e) = true) (s : Str) : srt (lk d s) = srt (lk e s) := by
  have h1 := dq_look (nd_cm nd) h (.str s)
  have h2 := congrArg (fun o => o.getD (.lst [])) h1
  simp only [getD_cm f srt h0] at h2
  injection h2 with h2
  exact hf h2
theorem inj_int {x y : List Int} (h : x.map PV.int = y.map PV.int) : x = y := (List.map_inj_right fun a b z => by injection z).mp h
theorem inj_tup {x y : List (List Int)} (h : x.map tupP = y.map tupP) : x = y := (List.map_inj_right fun a b z => inj_int (by
  have z : PV.tup (a.map .int) = PV.tup (b.map .int) := z
  injection z)).mp h
section
variable {n n' : Int} {m m' : List (Str × List Int)} {t t' : List (Str × List (List Int))} {lh : LH}
theorem wne_m (nm : (m.map (·.1)).Nodup) (nt : (t.map (·.1)).Nodup) (nm' : (m'.map (·.1)).Nodup) (nt' : (t'.map (·.1)).Nodup) {s : Str} {y : Int} (h : ¬ (y ∈ lk m s ↔ y ∈ lk m' s)) : m_Web_eq [.pv (webP n (cmM m) (cmT t)), .pv (webP n' (cmM m') (cmT t'))] lh = .ok (.pv (.bl false)) lh := by
  rw [weq_e nm nt nm' nt']
  have e : dq (cm .int (srtU ltZ) m) (cm .int (srtU ltZ) m') = false := by
    cases q : dq (cm .int (srtU ltZ) m) (cm .int (srtU ltZ) m') with
    | false => rfl
    | true =>
      exfalso
      have z := dq_srt rfl inj_int nm q s
      exact h (by rw [← mem_srtU so_ltZ, z, mem_srtU so_ltZ])
  rw [e, Bool.and_false, Bool.false_and]
theorem wne_t (nm : (m.map (·.1)).Nodup) (nt : (t.map (·.1)).Nodup) (nm' : (m'.map (·.1)).Nodup) (nt' : (t'.map (·.1)).Nodup) {s : Str} {y : List Int} (h : ¬ (y ∈ lk t s ↔ y ∈ lk t' s)) : m_Web_eq [.pv (webP n (cmM m) (cmT t)), .pv (webP n' (cmM m') (cmT t'))] lh = .ok (.pv (.bl false)) lh := by
  rw [weq_e nm nt nm' nt']
  have e : dq (cm tupP (srtU ltL) t) (cm tupP (srtU ltL) t') = false := by
    cases q : dq (cm tupP (srtU ltL) t) (cm tupP (srtU ltL) t') with
    | false => rfl
    | true =>
      exfalso
      have z := dq_srt rfl inj_tup nt q s
      exact h (by rw [← mem_srtU so_ltL, z, mem_srtU so_ltL])
  rw [e, Bool.and_false]
theorem wne_n (nm : (m.map (·.1)).Nodup) (nt : (t.map (·.1)).Nodup) (nm' : (m'.map (·.1)).Nodup) (nt' : (t'.map (·.1)).Nodup) (h : n ≠ n') : m_Web_eq [.pv (webP n (cmM m) (cmT t)), .pv (webP n' (cmM m') (cmT t'))] lh = .ok (.pv (.bl false)) lh := by
  rw [weq_e nm nt nm' nt', decide_eq_false h, Bool.false_and, Bool.false_and]
/-- a value that is no web -/
theorem weq_no {y : PV} {ty : Ty} (hy : tyO (.pv y) lh = some ty) (ho : ownOK ownK ty = true) (h : zIsi ownK ownC [.pv y, .pv (.glob "Web")] lh = .ok (.pv (.bl false)) lh) : zOwnEq false ["Web"] ownK m_Web_eq (.pv (webP n (cmM m) (cmT t))) (.pv y) lh = .ok (.pv (.bl false)) lh := by
  have e : m_Web_eq [.pv (webP n (cmM m) (cmT t)), .pv y] lh = .ok (.pv (.bl false)) lh := by
    refine eq_sp ?_
    unfold m_Web_eq b_Web_eq
    walk_at "s"
    rw [h]
    walk_at "s"
  exact eq_sp (sp_ownEq (c := "Web") (fs := _) rfl (by decide) hy ho (sp_of e ⟨false, rfl, rfl, rfl⟩))
end
structure RD (h n : Nat) (p : PV) : Prop where
  dat : ∃ d : PyData, datD p = some d ∧ d.showable = true ∧ d.depth ≤ h ∧ d.shown.length ≤ n
theorem RD.mono {h n h' n' : Nat} {p : PV} (r : RD h n p) (l1 : h ≤ h') (l2 : n ≤ n') : RD h' n' p := by
  obtain ⟨d, a, b, c, e⟩ := r.dat
  exact ⟨d, a, b, by omega, by omega⟩
theorem RD.sh {h n : Nat} {p : PV} (r : RD h n p) (l1 : h < 60) (l2 : n ≤ 1000000) : shB p = true ∧ (shD p).length ≤ n := by
  obtain ⟨d, a, b, c, e⟩ := r.dat
  refine ⟨shB_of a b (by omega) (by rw [sizeLine_eq]; omega), ?_⟩
  unfold shD
  rw [a]
  exact e
theorem int_len : ∀ i : Fin 300, (PyData.shown (.int (i.val : Int))).length ≤ 3 ∧ PyData.showable (.int (i.val : Int)) = true := by decide +kernel
theorem rd_int {i : Int} (h0 : 0 ≤ i) (h1 : i < 300) : RD 0 3 (.int i) := by
  have h := int_len ⟨i.toNat, by omega⟩
  simp only [Int.toNat_of_nonneg h0] at h
  exact ⟨.int i, rfl, h.2, Nat.le_refl _, h.1⟩
theorem rd_str {s : Str} (h : PyData.strOk s = true) : RD 0 (10 * s.length + 2) (.str s) := by
  refine ⟨.str s, rfl, rfl, Nat.le_refl _, ?_⟩
  refine StrLaws.reprText_len s fun c hc => ?_
  unfold PyData.strOk at h
  rw [← Array.all_toList] at h
  have := List.all_eq_true.mp h c hc
  have : c < 0x110000 := of_decide_eq_true this
  omega
theorem rd_all {h n : Nat} : ∀ {xs : List PV}, (∀ x ∈ xs, RD h n x) → ∃ ds, datDs xs = some ds ∧ PyData.showableAll ds = true ∧ PyData.depthAll ds ≤ h ∧ ((PyData.shownAll ds).map (·.length)).sum ≤ n * xs.length ∧ (PyData.shownAll ds).length = xs.length
  | [], _ => ⟨[], rfl, rfl, Nat.zero_le _, Nat.zero_le _, rfl⟩
  | x :: xs, q => by
    obtain ⟨d, a, b, c, e⟩ := (q x List.mem_cons_self).dat
    obtain ⟨ds, a2, b2, c2, e2, f2⟩ := rd_all (xs := xs) fun y hy => q y (List.mem_cons_of_mem _ hy)
    refine ⟨d :: ds, ?_, ?_, ?_, ?_, ?_⟩
    · show (datD x).bind (fun d => (datDs xs).map fun ds => d :: ds) = _
      rw [a, a2]; rfl
    · show (PyData.showable d && PyData.showableAll ds) = true
      rw [b, b2]; rfl
    · show max (PyData.depth d) (PyData.depthAll ds) ≤ h
      omega
    · show (PyData.shown d).length + ((PyData.shownAll ds).map (·.length)).sum ≤ n * (xs.length + 1)
      rw [Nat.mul_succ]
      omega
    · show (PyData.shownAll ds).length + 1 = xs.length + 1
      rw [f2]
theorem rd_tup {h n m : Nat} {xs : List PV} (q : ∀ x ∈ xs, RD h n x) (hm : n * xs.length + 2 * xs.length + 3 ≤ m) : RD (h + 1) m (.tup xs) := by
  obtain ⟨ds, a, b, c, e, f⟩ := rd_all q
  refine ⟨.tuple ds, ?_, b, Nat.succ_le_succ c, ?_⟩
  · show (datDs xs).map PyData.tuple = _
    rw [a]; rfl
  · have := tupleText_len_le (PyData.shownAll ds)
    show (tupleText (PyData.shownAll ds)).length ≤ m
    omega
theorem rd_lst {h n m : Nat} {xs : List PV} (q : ∀ x ∈ xs, RD h n x) (hm : n * xs.length + 2 * xs.length + 3 ≤ m) : RD (h + 1) m (.lst xs) := by
  obtain ⟨ds, a, b, c, e, f⟩ := rd_all q
  refine ⟨.list ds, ?_, b, Nat.succ_le_succ c, ?_⟩
  · show (datDs xs).map PyData.list = _
    rw [a]; rfl
  · have := listText_len_le (PyData.shownAll ds)
    show (listText (PyData.shownAll ds)).length ≤ m
    omega
theorem rd_kv {h n : Nat} : ∀ {kvs : List (PV × PV)}, (∀ p ∈ kvs, RD h n p.1 ∧ RD h n p.2) → ∃ ds, datDk kvs = some ds ∧ PyData.showableKv ds = true ∧ PyData.depthKv ds ≤ h ∧ ((PyData.shownKv ds).map (·.length)).sum ≤ (2 * n + 2) * kvs.length ∧ (PyData.shownKv ds).length = kvs.length
  | [], _ => ⟨[], rfl, rfl, Nat.zero_le _, Nat.zero_le _, rfl⟩
  | (k, x) :: xs, q => by
    obtain ⟨⟨d, a, b, c, e⟩⟩ := (q (k, x) List.mem_cons_self).1
    obtain ⟨⟨d1, a1, b1, c1, e1⟩⟩ := (q (k, x) List.mem_cons_self).2
    obtain ⟨ds, a2, b2, c2, e2, f2⟩ := rd_kv (kvs := xs) fun y hy => q y (List.mem_cons_of_mem _ hy)
    refine ⟨(d, d1) :: ds, ?_, ?_, ?_, ?_, ?_⟩
    · show (datD k).bind (fun c => (datD x).bind fun d => (datDk xs).map fun ds => (c, d) :: ds) = _
      rw [a, a1, a2]; rfl
    · show (PyData.showable d && PyData.showable d1 && PyData.showableKv ds) = true
      rw [b, b1, b2]; rfl
    · show max (max (PyData.depth d) (PyData.depth d1)) (PyData.depthKv ds) ≤ h
      omega
    · show (PyData.shown d ++ ": " ++ PyData.shown d1).length + ((PyData.shownKv ds).map (·.length)).sum ≤ (2 * n + 2) * (xs.length + 1)
      have e3 : (PyData.shown d ++ (": " : Str) ++ PyData.shown d1).length = (PyData.shown d).length + 2 + (PyData.shown d1).length := by
        rw [strLen_append, strLen_append]; rfl
      rw [e3, Nat.mul_succ]
      omega
    · show (PyData.shownKv ds).length + 1 = xs.length + 1
      rw [f2]
theorem rd_dct {h n m : Nat} {kvs : List (PV × PV)} (q : ∀ p ∈ kvs, RD h n p.1 ∧ RD h n p.2) (hm : (2 * n + 2) * kvs.length + 2 * kvs.length + 3 ≤ m) : RD (h + 1) m (.dct kvs) := by
  obtain ⟨ds, a, b, c, e, f⟩ := rd_kv q
  refine ⟨.dict ds, ?_, b, Nat.succ_le_succ c, ?_⟩
  · show (datDk kvs).map PyData.dict = _
    rw [a]; rfl
  · have := dictText_len_le (PyData.shownKv ds)
    show (dictText (PyData.shownKv ds)).length ≤ m
    omega
section
variable {n : Nat} {m : List (Str × List Int)} {t : List (Str × List (List Int))} {lh : LH}
theorem nodup_str2 {l : List Str} (h : (l.map PV.str).Nodup) : l.Nodup := List.Pairwise.of_map PV.str (fun a b h e => h (by rw [e])) h
theorem rd_keys {α : Type} {f : α → PV} {srt : List α → List α} {d : List (Str × List α)} (nd : (d.map (·.1)).Nodup) (hk : ∀ s ∈ d.map (·.1), PyData.strOk s = true ∧ s.length ≤ 8) {p : PV × PV} (hp : p ∈ cm f srt d) : RD 0 82 p.1 := by
  have h : p.1 ∈ (cm f srt d).map (·.1) := List.mem_map.mpr ⟨p, hp, rfl⟩
  rw [cm_keys nd] at h
  obtain ⟨s, hs, e⟩ := List.mem_map.mp h
  have hs2 := perm_srtD.mem_iff.mp (List.mem_filter.mp hs).1
  obtain ⟨h1, h2⟩ := hk s hs2
  rw [← e]
  exact (rd_str h1).mono (Nat.le_refl _) (by omega)
theorem look_of_mem {α : Type} : ∀ {d : List (Str × List α)} {s : Str} {xs : List α}, (d.map (·.1)).Nodup → (s, xs) ∈ d → d.lookup s = some xs
  | (r, ys) :: d, s, xs, nd, h => by
    have nd := List.nodup_cons.mp nd
    rw [List.lookup_cons]
    rcases List.mem_cons.mp h with h | h
    · cases h; simp
    · have ne : (s == r) = false := by
        simp only [beq_eq_false_iff_ne, ne_eq]
        intro z
        exact nd.1 (by rw [← z]; exact List.mem_map.mpr ⟨_, h, rfl⟩)
      rw [ne]
      exact look_of_mem nd.2 h
theorem cm_len {α : Type} {f : α → PV} {srt : List α → List α} {d : List (Str × List α)} (nd : (d.map (·.1)).Nodup) : (cm f srt d).length ≤ d.length := by
  have h : ((cm f srt d).map (·.1)).length ≤ d.length := by
    rw [cm_keys nd, List.length_map]
    refine Nat.le_trans (List.length_filter_le _ _) ?_
    rw [perm_srtD.length_eq, List.length_map]
    exact Nat.le_refl _
  rwa [List.length_map] at h
theorem rd_m (hm : MOk n m) (nm : (m.map (·.1)).Nodup) (hn : n ≤ 300) (hk : ∀ s ∈ m.map (·.1), PyData.strOk s = true ∧ s.length ≤ 8) : RD 2 60000 (cmM m) := by
  refine rd_dct (n := 400) (fun p hp => ⟨(rd_keys nm hk hp).mono (by decide) (by decide), ?_⟩) ?_
  · have hp2 := hp
    rw [cm_pD nm] at hp2
    obtain ⟨⟨s, xs⟩, hq, rfl⟩ := List.mem_map.mp hp2
    have nd2 : ((cmL (srtU ltZ) m).map (·.1)).Nodup := by
      have := nd_cm (f := PV.int) (srt := srtU ltZ) nm
      rw [cm_pD nm] at this
      unfold pD at this
      rw [List.map_map] at this
      refine nodup_str2 ?_
      rw [List.map_map]
      exact this
    have hv := (mok_cmL hm nm).v s xs (look_of_mem nd2 hq)
    refine rd_lst (n := 3) (fun x hx => ?_) ?_
    · obtain ⟨i, hi, rfl⟩ := List.mem_map.mp hx
      have := hv.2 i hi
      exact rd_int this.1 (by omega)
    · have h63 : xs.length < 64 := hv.1
      show _ * (xs.map _).length + 2 * (xs.map _).length + 3 ≤ _
      rw [List.length_map]
      omega
  · have := cm_len (f := PV.int) (srt := srtU ltZ) nm
    have h2 := hm.len
    omega
theorem rd_t (ht : TOk n t) (nt : (t.map (·.1)).Nodup) (hn : n ≤ 300) (hk : ∀ s ∈ t.map (·.1), PyData.strOk s = true ∧ s.length ≤ 8) : RD 3 140000 (cmT t) := by
  refine rd_dct (n := 1000) (fun p hp => ⟨(rd_keys nt hk hp).mono (by decide) (by decide), ?_⟩) ?_
  · have hp2 := hp
    rw [cm_pD nt] at hp2
    obtain ⟨⟨s, xs⟩, hq, rfl⟩ := List.mem_map.mp hp2
    have nd2 : ((cmL (srtU ltL) t).map (·.1)).Nodup := by
      have := nd_cm (f := tupP) (srt := srtU ltL) nt
      rw [cm_pD nt] at this
      unfold pD at this
      rw [List.map_map] at this
      refine nodup_str2 ?_
      rw [List.map_map]
      exact this
    have hv := (tok_cmL ht nt).v s xs (look_of_mem nd2 hq)
    refine rd_lst (n := 13) (fun x hx => ?_) ?_
    · obtain ⟨l, hi, rfl⟩ := List.mem_map.mp hx
      obtain ⟨a, b, rfl, a0, a1, b0, b1⟩ := hv.2 l hi
      refine rd_tup (n := 3) (fun y hy => ?_) (by simp)
      obtain ⟨i, hi, rfl⟩ := List.mem_map.mp hy
      simp only [List.mem_cons, List.not_mem_nil, or_false] at hi
      rcases hi with rfl | rfl
      · exact rd_int a0 (by omega)
      · exact rd_int b0 (by omega)
    · have h63 : xs.length < 64 := hv.1
      show _ * (xs.map _).length + 2 * (xs.map _).length + 3 ≤ _
      rw [List.length_map]
      omega
  · have := cm_len (f := tupP) (srt := srtU ltL) nt
    have h2 := ht.len
    omega
theorem fmtD_e {kvs : List (PV × PV)} (h : shB (.dct kvs) = true) : zFmtD (.pv (.dct kvs)) lh = .ok (.pv (.str (shD (.dct kvs)))) lh := by
  unfold zFmtD
  simp only [h, if_true]
theorem jsL_e {env : EN} {lh : LH} : ∀ (l : List ((EN → LH → Res LV) × Str)) (acc : Str), (∀ p ∈ l, p.1 env lh = .ok (.pv (.str p.2)) lh) → acc.length + (l.map fun p => p.2.length).sum ≤ sizeLine → jsL (l.map (·.1)) acc env lh = .ok (.pv (.str (l.foldl (fun a p => a ++ p.2) acc))) lh
  | [], _, _, _ => rfl
  | (f, y) :: r, acc, h, b => by
    have e : f env lh = .ok (.pv (.str y)) lh := h (f, y) List.mem_cons_self
    have b2 : acc.length + (y.length + (r.map fun p => p.2.length).sum) ≤ sizeLine := b
    have c : (acc ++ y).length = acc.length + y.length := strLen_append acc y
    show (f env lh).bind _ = _
    rw [e]
    show (if (acc ++ y).length ≤ sizeLine then jsL (r.map (·.1)) (acc ++ y) env lh else .stuck) = _
    rw [if_pos (by omega)]
    exact jsL_e r (acc ++ y) (fun p hp => h p (List.mem_cons_of_mem _ hp)) (by omega)
def wsh (n : Nat) (m : List (Str × List Int)) (t : List (Str × List (List Int))) : Str :=
  [("Web(" : Str), toString (n : Int), ", marks=", shD (cmM m), ", ties=", shD (cmT t), ")"].foldl (fun a p => a ++ p) Str.empty
theorem js7 {env : EN} {lh : LH} {f1 f2 f3 f4 f5 f6 f7 : EN → LH → Res LV} {y1 y2 y3 y4 y5 y6 y7 : Str} (h1 : f1 env lh = .ok (.pv (.str y1)) lh) (h2 : f2 env lh = .ok (.pv (.str y2)) lh) (h3 : f3 env lh = .ok (.pv (.str y3)) lh) (h4 : f4 env lh = .ok (.pv (.str y4)) lh) (h5 : f5 env lh = .ok (.pv (.str y5)) lh) (h6 : f6 env lh = .ok (.pv (.str y6)) lh) (h7 : f7 env lh = .ok (.pv (.str y7)) lh)
    (b : y1.length + y2.length + y3.length + y4.length + y5.length + y6.length + y7.length ≤ sizeLine) : jsL [f1, f2, f3, f4, f5, f6, f7] Str.empty env lh = .ok (.pv (.str ([y1, y2, y3, y4, y5, y6, y7].foldl (fun a p => a ++ p) Str.empty))) lh := by
  refine jsL_e [(f1, y1), (f2, y2), (f3, y3), (f4, y4), (f5, y5), (f6, y6), (f7, y7)] Str.empty ?_ ?_
  · intro p hp
    simp only [List.mem_cons, List.not_mem_nil, or_false] at hp
    rcases hp with rfl | rfl | rfl | rfl | rfl | rfl | rfl
    all_goals assumption
  · show Str.empty.length + (y1.length + (y2.length + (y3.length + (y4.length + (y5.length + (y6.length + (y7.length + 0))))))) ≤ _
    have : Str.empty.length = 0 := rfl
    omega
theorem wrepr_e (hm : MOk n m) (nm : (m.map (·.1)).Nodup) (ht : TOk n t) (nt : (t.map (·.1)).Nodup) (hn : n < 300) (hkm : ∀ s ∈ m.map (·.1), PyData.strOk s = true ∧ s.length ≤ 8) (hkt : ∀ s ∈ t.map (·.1), PyData.strOk s = true ∧ s.length ≤ 8) :
    m_Web_repr [.pv (wb n m t)] lh = .ok (.pv (.str (wsh n m t))) lh := by
  obtain ⟨b1, l1⟩ := (rd_m hm nm (by omega) hkm).sh (by decide) (by decide)
  obtain ⟨b2, l2⟩ := (rd_t ht nt (by omega) hkt).sh (by decide) (by decide)
  have li : (toString (n : Int) : Str).length ≤ 3 ∧ (n : Int).natAbs.log2 < 1920 := by
    have h := int_len ⟨n, by omega⟩
    exact ⟨h.1, of_decide_eq_true h.2⟩
  have k1 : ("Web(" : Str).length = 4 := by decide +kernel
  have k2 : (", marks=" : Str).length = 8 := by decide +kernel
  have k3 : (", ties=" : Str).length = 7 := by decide +kernel
  have k4 : (")" : Str).length = 1 := by decide +kernel
  have e2 : zFmt (.pv (.int (n : Int))) lh = .ok (.pv (.str (toString (n : Int)))) lh := if_pos li.2
  have e4 := fmtD_e (lh := lh) b1
  have e6 := fmtD_e (lh := lh) b2
  have bb : ("Web(" : Str).length + (toString (n : Int) : Str).length + (", marks=" : Str).length + (shD (cmM m)).length + (", ties=" : Str).length + (shD (cmT t)).length + (")" : Str).length ≤ sizeLine := by
    have l3 := li.1
    rw [sizeLine_eq, k1, k2, k3, k4]
    generalize (shD (cmM m)).length = q1 at *
    generalize (shD (cmT t)).length = q2 at *
    omega
  have ey : jsL [(fC (.str "Web(")), (fUn zFmt (fFld ["Web"] "own_size" (fName 0))), (fC (.str ", marks=")), (fUn zFmtD (fFld ["Web"] "own_marks" (fName 0))), (fC (.str ", ties=")), (fUn zFmtD (fFld ["Web"] "own_ties" (fName 0))), (fC (.str ")"))] Str.empty [some (.pv (wb n m t))] lh = .ok (.pv (.str (wsh n m t))) lh := by
    refine js7 (y1 := "Web(") (y2 := toString (n : Int)) (y3 := ", marks=") (y4 := shD (cmM m)) (y5 := ", ties=") (y6 := shD (cmT t)) (y7 := ")") rfl ?_ rfl ?_ rfl ?_ rfl bb
    · refine Eq.trans ?_ e2
      kernel_rfl
    · refine Eq.trans ?_ e4
      kernel_rfl
    · refine Eq.trans ?_ e6
      kernel_rfl
  clear b1 l1 b2 l2 bb e4 e6
  refine eq_sp ?_
  refine sp_fn ?_
  unfold b_Web_repr
  with_reducible refine startTo_c (by with_unfolding_all rfl) ?_
  with_reducible refine startTo_0 ?_
  with_reducible refine sps_ret ?_
  with_reducible refine sp_of ey ?_
  show (cleanR lh (Res.ok (.pv (.str (wsh n m t))) lh)).sp (fun v l => v = .pv (.str (wsh n m t)) ∧ l = lh) noE
  exact sp_cleanS rfl ⟨rfl, rfl⟩
end
def t05c : EN → LH → SRes := (sSeq (sIf (tV (fBin (zIn false) (fC (.bl true)) (fLc zLst [17] (fSrc (fName 16)) (gN 17) tYesZ (fOr (fBin (zOwnEq false ["Web"] ownK m_Web_eq) (fName 17) (fName 6)) (fBin (zOwnEq false ["Web"] ownK m_Web_eq) (fName 6) (fName 17))))))
  (sRet (fC (.bl false)))
  sNext)
  (sSeq (sIf (tV (fBin (zOwnEq true ["Web"] ownK m_Web_eq) (fMethD "Web" "painted" m_Web_painted [] (fBin zIx (fName 16) (fC (.int 0))) (fCons (fName 8) (fCons (fBin zIx (fBin zIx (fName 4) (fC (.int 1))) (fName 8)) fNil))) (fName 6)))
  (sRet (fC (.bl false)))
  sNext)
  (sSeq (sIf (tV (fBin (zOwnEq true ["Web"] ownK m_Web_eq) (fMethD "Web" "redrawn" m_Web_redrawn [] (fBin zIx (fName 16) (fC (.int 1))) (fCons (fName 9) (fCons (fBin zIx (fBin zIx (fName 4) (fC (.int 2))) (fName 9)) fNil))) (fName 6)))
  (sRet (fC (.bl false)))
  sNext)
  (sIf (tV (fBin (zIn false) (fC (.bl true)) (fLc zLst [18] (fSrc (fArgs zLst (fCons (fC .non) (fCons (fName 5) (fCons (fArgs (zOwnS ["Web"] m_Web_repr) (fCons (fName 6) fNil)) (fCons (fArgs zTup (fCons (fName 5) (fCons (fBin zIx (fName 4) (fC (.int 1))) (fCons (fBin zIx (fName 4) (fC (.int 2))) fNil)))) fNil)))))) (gN 18) tYesZ (fBin (zOwnEq false ["Web"] ownK m_Web_eq) (fName 6) (fName 18)))))
  (sRet (fC (.bl false)))
  sNext))))
def t05b : EN → LH → SRes := (sSeq (sAsg (fLc zLst [12] (fRng (fCons (fName 5) fNil)) (gN 12) (tV (fBin (zEqD true) (fBin (zIn false) (fName 12) (fGet2 (fBin zIx (fName 4) (fC (.int 1))) (fName 8) (fArgs zLst fNil))) (fBin (zEqD false) (fName 12) (fName 7)))) (fName 12)) (gN 11))
  (sSeq (sAsg (fGet2 (fBin zIx (fName 4) (fC (.int 2))) (fName 9) (fArgs zLst fNil)) (gN 13))
  (sSeq (sAsg (fLc zLst [15] (fSrc (fCallD m_law_square [] (fCons (fName 5) fNil))) (gN 15) (tV (fBin (zEqD true) (fBin (zIn false) (fName 15) (fName 13)) (fBin (zEqD false) (fName 15) (fName 10)))) (fName 15)) (gN 14))
  (sSeq (sAsg (fArgs zLst (fCons (fMethD "Web" "painted" m_Web_painted [] (fName 6) (fCons (fName 8) (fCons (fName 11) fNil))) (fCons (fMethD "Web" "redrawn" m_Web_redrawn [] (fName 6) (fCons (fName 9) (fCons (fName 14) fNil))) (fCons (fMakeK (zMakeF "Web" m_Web_init) b_mk_Web_marks_ties (fCons (fBin zAdd (fName 5) (fC (.int 1))) fNil) (fCons (fBin zIx (fName 4) (fC (.int 1))) (fCons (fBin zIx (fName 4) (fC (.int 2))) fNil))) fNil)))) (gN 16))
  t05c))))
def t05a : EN → LH → SRes := (sSeq (sAsg (fCallD m_law_names [] (fCons (fName 1) fNil)) (gN 3))
  (sSeq (sAsg (fCallD m_law_plain [] (fCons (fName 1) (fCons (fName 3) (fCons (fC (.int 4)) fNil)))) (gN 4))
  (sSeq (sAsg (fArgs zTup (fCons (fBin zIx (fName 4) (fC (.int 0))) (fCons (fCallD m_law_web [] (fCons (fName 4) fNil)) fNil))) (gTupZ 2 (gCons (gN 5) (gCons (gN 6) gNil))))
  (sSeq (sIf (tOrZ (tV (fBin (zOwnEq true ["Web"] ownK m_Web_eq) (fName 6) (fCallD m_law_web [] (fCons (fName 4) fNil)))) (tNotZ (tV (fBin (zOwnEq false ["Web"] ownK m_Web_eq) (fName 6) (fName 6)))))
  (sRet (fC (.bl false)))
  sNext)
  (sSeq (sAsg (fArgs zTup (fCons (fCallD m_law_draw [] (fCons (fName 1) (fCons (fName 5) fNil))) (fCons (fBin zIx (fName 3) (fCallD m_law_draw [] (fCons (fName 1) (fCons (fC (.int 2)) fNil)))) (fCons (fBin zIx (fName 3) (fBin zAdd (fC (.int 2)) (fCallD m_law_draw [] (fCons (fName 1) (fCons (fC (.int 2)) fNil))))) fNil)))) (gTupZ 3 (gCons (gN 7) (gCons (gN 8) (gCons (gN 9) gNil)))))
  (sSeq (sAsg (fArgs zTup (fCons (fName 7) (fCons (fCallD m_law_draw [] (fCons (fName 1) (fCons (fName 5) fNil))) fNil))) (gN 10))
  t05b))))))
theorem b_law_t : b_law = (sSeq (sAsg (fCallD m_law_bag [] (fCons (fName 0) fNil)) (gN 1))
  (sSeq (sFor (fRng (fCons (fC (.int 4)) fNil)) (gN 2)
  t05a)
  (sRet (fC (.bl true))))) := rfl
theorem nms_len : ∀ s ∈ nms, PyData.strOk s = true ∧ s.length ≤ 8 := by decide +kernel
theorem ix4 {a b c d : Str} {e : Int} (h0 : 0 ≤ e) (h1 : e < 2) : ∃ s, (s = a ∨ s = b) ∧ ∀ lh, zIx (.pv (.lst [.str a, .str b, .str c, .str d])) (.pv (.int e)) lh = .ok (.pv (.str s)) lh := by
  rcases (by omega : e = 0 ∨ e = 1) with rfl | rfl
  · exact ⟨a, .inl rfl, fun lh => by kernel_rfl⟩
  · exact ⟨b, .inr rfl, fun lh => by kernel_rfl⟩
theorem ix4b {a b c d : Str} {e : Int} (h0 : 0 ≤ e) (h1 : e < 2) : ∃ s, (s = c ∨ s = d) ∧ ∀ lh, zIx (.pv (.lst [.str a, .str b, .str c, .str d])) (.pv (.int (2 + e))) lh = .ok (.pv (.str s)) lh := by
  rcases (by omega : e = 0 ∨ e = 1) with rfl | rfl
  · exact ⟨c, .inl rfl, fun lh => by kernel_rfl⟩
  · exact ⟨d, .inr rfl, fun lh => by kernel_rfl⟩
theorem list_pl {ps : List PV} {lh : LH} : zListCD [.pv (.lst ps)] lh = .ok (.pv (.lst ps)) lh := eq_sp (rs_listCD.mpr ⟨rfl, rfl⟩)
theorem no_tt3 {lh : LH} : zIn false (.pv (.bl true)) (.pv (.lst [.bl false, .bl false, .bl false])) lh = .ok (.pv (.bl false)) lh := by kernel_rfl
theorem no_tt4 {lh : LH} : zIn false (.pv (.bl true)) (.pv (.lst [.bl false, .bl false, .bl false, .bl false])) lh = .ok (.pv (.bl false)) lh := by kernel_rfl
structure W5 (n : Nat) (m : List (Str × List Int)) (t : List (Str × List (List Int))) (s k : Str) : Prop where
  h0 : 1 ≤ n
  h1 : n ≤ 4
  om : MOk n m
  nm : (m.map (·.1)).Nodup
  ot : TOk n t
  nt : (t.map (·.1)).Nodup
  lm : m.length ≤ 2
  lt : t.length ≤ 2
  is : s ∈ m.map (·.1)
  ik : k ∈ t.map (·.1)
  ns : NmG s
  nk : NmG k
  km : ∀ s ∈ m.map (·.1), PyData.strOk s = true ∧ s.length ≤ 8
  kt : ∀ s ∈ t.map (·.1), PyData.strOk s = true ∧ s.length ≤ 8
/-- xs, us are m s and t k with one thing flipped -/
structure F5 (n : Nat) (m : List (Str × List Int)) (t : List (Str × List (List Int))) (s k : Str) (xs : List Int) (us : List (List Int)) : Prop where
  hx : NodesIn n xs
  hu : PairsIn n us
  dx : ∃ y, ¬ (y ∈ xs ↔ y ∈ lk m s)
  du : ∃ y, ¬ (y ∈ us ↔ y ∈ lk t k)
theorem MOk.up {n n' : Int} {m : List (Str × List Int)} (h : MOk n m) (l : n ≤ n') : MOk n' m := ⟨h.len, h.nm, fun s xs e => by
  obtain ⟨a, b⟩ := h.v s xs e
  exact ⟨a, fun x hx => by have := b x hx; omega⟩⟩
theorem TOk.up {n n' : Int} {t : List (Str × List (List Int))} (h : TOk n t) (l : n ≤ n') : TOk n' t := ⟨h.len, h.nm, fun s xs e => by
  obtain ⟨a, b⟩ := h.v s xs e
  refine ⟨a, fun x hx => ?_⟩
  obtain ⟨p, q, e, h1, h2, h3, h4⟩ := b x hx
  exact ⟨p, q, e, h1, by omega, h3, by omega⟩⟩
section
variable {n : Nat} {m : List (Str × List Int)} {t : List (Str × List (List Int))} {s k : Str} {xs : List Int} {us : List (List Int)} {lh : LH}
theorem W5.nmp (w : W5 n m t s k) : ((putS m s xs).map (·.1)).Nodup := putS_nd w.nm
theorem W5.ntp (w : W5 n m t s k) : ((putS t k us).map (·.1)).Nodup := putS_nd w.nt
theorem F5.q1 (w : W5 n m t s k) (f : F5 n m t s k xs us) {neg : Bool} : zOwnEq neg ["Web"] ownK m_Web_eq (.pv (wb n (putS m s xs) t)) (.pv (wb n m t)) lh = .ok (.pv (.bl (xor neg false))) lh := by
  obtain ⟨y, h⟩ := f.dx
  exact oweq (wne_m w.nmp w.nt w.nm w.nt (s := s) (y := y) (by rw [lk_putS, if_pos rfl]; exact h))
theorem F5.q2 (w : W5 n m t s k) (f : F5 n m t s k xs us) {neg : Bool} : zOwnEq neg ["Web"] ownK m_Web_eq (.pv (wb n m t)) (.pv (wb n (putS m s xs) t)) lh = .ok (.pv (.bl (xor neg false))) lh := by
  obtain ⟨y, h⟩ := f.dx
  exact oweq (wne_m w.nm w.nt w.nmp w.nt (s := s) (y := y) (by rw [lk_putS, if_pos rfl]; exact fun z => h z.symm))
theorem F5.q3 (w : W5 n m t s k) (f : F5 n m t s k xs us) {neg : Bool} : zOwnEq neg ["Web"] ownK m_Web_eq (.pv (wb n m (putS t k us))) (.pv (wb n m t)) lh = .ok (.pv (.bl (xor neg false))) lh := by
  obtain ⟨y, h⟩ := f.du
  exact oweq (wne_t w.nm w.ntp w.nm w.nt (s := k) (y := y) (by rw [lk_putS, if_pos rfl]; exact h))
theorem F5.q4 (w : W5 n m t s k) (f : F5 n m t s k xs us) {neg : Bool} : zOwnEq neg ["Web"] ownK m_Web_eq (.pv (wb n m t)) (.pv (wb n m (putS t k us))) lh = .ok (.pv (.bl (xor neg false))) lh := by
  obtain ⟨y, h⟩ := f.du
  exact oweq (wne_t w.nm w.nt w.nm w.ntp (s := k) (y := y) (by rw [lk_putS, if_pos rfl]; exact fun z => h z.symm))
theorem W5.q5 (w : W5 n m t s k) {neg : Bool} : zOwnEq neg ["Web"] ownK m_Web_eq (.pv (webP ((n : Int) + 1) (cmM m) (cmT t))) (.pv (wb n m t)) lh = .ok (.pv (.bl (xor neg false))) lh := oweq (wne_n w.nm w.nt w.nm w.nt (by omega))
theorem W5.q6 (w : W5 n m t s k) {neg : Bool} : zOwnEq neg ["Web"] ownK m_Web_eq (.pv (wb n m t)) (.pv (webP ((n : Int) + 1) (cmM m) (cmT t))) lh = .ok (.pv (.bl (xor neg false))) lh := oweq (wne_n w.nm w.nt w.nm w.nt (by omega))
theorem lk_back {α : Type} {d : List (Str × List α)} {s : Str} {xs : List α} (r : Str) : lk (putS (putS d s xs) s (lk d s)) r = lk d r := by
  rw [lk_putS]
  by_cases e : r = s
  · rw [if_pos e, e]
  · rw [if_neg e, lk_putS, if_neg e]
theorem cm_back {α : Type} {f : α → PV} {srt : List α → List α} {d : List (Str × List α)} {s : Str} {xs : List α} (nd : (d.map (·.1)).Nodup) : cm f srt (putS (putS d s xs) s (lk d s)) = cm f srt d := by
  exact cm_congr (putS_nd (putS_nd nd)) nd (fun r => by unfold ful; rw [lk_back]) fun r => by rw [lk_back]
end
theorem meth_p {n : Int} {M T : PV} {a : Str} {l : LH} {q : LV → Prop} (h : a ∈ (["painted", "redrawn"] : List Str)) (hq : q (.pv (webP n M T))) : MethTo "Web" a (.pv (webP n M T)) l q := by
  refine ⟨_, rfl, ?_, hq⟩
  simp only [List.mem_cons, List.not_mem_nil, or_false] at h
  rcases h with rfl | rfl <;> rfl
section
variable {n : Nat} {m : List (Str × List Int)} {t : List (Str × List (List Int))} {s k : Str} {xs : List Int} {us : List (List Int)} {lh : LH}
theorem W5.vm (w : W5 n m t s k) : NodesIn n (lk m s) := w.om.v s _ (lk_mem w.is)
theorem W5.vt (w : W5 n m t s k) : PairsIn n (lk t k) := w.ot.v k _ (lk_mem w.ik)
theorem W5.pe (w : W5 n m t s k) (f : F5 n m t s k xs us) : m_Web_painted [.pv (wb n m t), .pv (.str s), .pv (.lst (xs.map .int))] lh = .ok (.pv (wb n (putS m s xs) t)) lh :=
  painted_e w.h0 (by have := w.h1; omega) w.om w.nm w.ot w.nt (by have := w.lm; omega) w.ns f.hx list_pl
theorem W5.re (w : W5 n m t s k) (f : F5 n m t s k xs us) : m_Web_redrawn [.pv (wb n m t), .pv (.str k), .pv (.lst (us.map tupP))] lh = .ok (.pv (wb n m (putS t k us))) lh :=
  redrawn_e w.h0 (by have := w.h1; omega) w.om w.nm w.ot w.nt (by have := w.lt; omega) w.nk f.hu list_pl
theorem W5.pb (w : W5 n m t s k) (f : F5 n m t s k xs us) : m_Web_painted [.pv (wb n (putS m s xs) t), .pv (.str s), .pv (.lst ((lk m s).map .int))] lh = .ok (.pv (wb n m t)) lh := by
  have z : (putS m s xs).length ≤ m.length + 1 := putS_len
  have l2 := w.lm
  have e := painted_e (lh := lh) w.h0 (by have := w.h1; omega) (mok_put w.om w.ns f.hx (by omega)) w.nmp w.ot w.nt (by omega) w.ns w.vm list_pl
  rw [e]
  have c : cmM (putS (putS m s xs) s (lk m s)) = cmM m := congrArg PV.dct (cm_back w.nm)
  show Res.ok (LV.pv (webP n (cmM (putS (putS m s xs) s (lk m s))) (cmT t))) lh = _
  rw [c]
theorem W5.rb (w : W5 n m t s k) (f : F5 n m t s k xs us) : m_Web_redrawn [.pv (wb n m (putS t k us)), .pv (.str k), .pv (.lst ((lk t k).map tupP))] lh = .ok (.pv (wb n m t)) lh := by
  have z : (putS t k us).length ≤ t.length + 1 := putS_len
  have l2 := w.lt
  have e := redrawn_e (lh := lh) w.h0 (by have := w.h1; omega) w.om w.nm (tok_put w.ot w.nk f.hu (by omega)) w.ntp (by omega) w.nk w.vt list_pl
  rw [e]
  have c : cmT (putS (putS t k us) k (lk t k)) = cmT t := congrArg PV.dct (cm_back w.nt)
  show Res.ok (LV.pv (webP n (cmM m) (cmT (putS (putS t k us) k (lk t k))))) lh = _
  rw [c]
theorem W5.ixm (w : W5 n m t s k) : zIx (.pv (.dct (pD .int m))) (.pv (.str s)) lh = .ok (.pv (.lst ((lk m s).map .int))) lh := ix_pD w.is
theorem W5.ixt (w : W5 n m t s k) : zIx (.pv (.dct (pD tupP t))) (.pv (.str k)) lh = .ok (.pv (.lst ((lk t k).map tupP))) lh := ix_pD w.ik
theorem W5.self (w : W5 n m t s k) {neg : Bool} : zOwnEq neg ["Web"] ownK m_Web_eq (.pv (wb n m t)) (.pv (wb n m t)) lh = .ok (.pv (.bl (xor neg true))) lh := oweq_self w.nm w.nt
end
section
variable {n : Nat} {m : List (Str × List Int)} {t : List (Str × List (List Int))} {s k : Str} {lh : LH}
theorem W5.rp (w : W5 n m t s k) : m_Web_repr [.pv (wb n m t)] lh = .ok (.pv (.str (wsh n m t))) lh := wrepr_e w.om w.nm w.ot w.nt (by have := w.h1; omega) w.km w.kt
theorem W5.os (w : W5 n m t s k) : zOwnS ["Web"] m_Web_repr [.pv (wb n m t)] lh = .ok (.pv (.str (wsh n m t))) lh :=
  eq_sp (sp_ownS (c := "Web") (fs := _) rfl (by decide) (sp_of w.rp ⟨_, rfl, rfl, rfl⟩))
theorem W5.e1 : zOwnEq false ["Web"] ownK m_Web_eq (.pv (wb n m t)) (.pv .non) lh = .ok (.pv (.bl false)) lh := weq_no (ty := .non) rfl (by decide +kernel) (by kernel_rfl)
theorem W5.e2 : zOwnEq false ["Web"] ownK m_Web_eq (.pv (wb n m t)) (.pv (.int n)) lh = .ok (.pv (.bl false)) lh := weq_no (ty := .int) rfl (by decide +kernel) (by kernel_rfl)
theorem W5.e3 {z : Str} : zOwnEq false ["Web"] ownK m_Web_eq (.pv (wb n m t)) (.pv (.str z)) lh = .ok (.pv (.bl false)) lh := weq_no (ty := .str) rfl (by decide +kernel) (by kernel_rfl)
theorem W5.e4 {z : List PV} : zOwnEq false ["Web"] ownK m_Web_eq (.pv (wb n m t)) (.pv (.tup z)) lh = .ok (.pv (.bl false)) lh := weq_no (ty := .tup) rfl (by decide +kernel) (by kernel_rfl)
end
theorem in_i5 {x : Int} {is : List Int} {lh : LH} : zIn false (.pv (.int x)) (.pv (.lst (is.map .int))) lh = .ok (.pv (.bl (decide (x ∈ is)))) lh := by
  rw [show zIn false (.pv (.int x)) (.pv (.lst (is.map .int))) lh = _ from zIn_ints false x is lh, Bool.false_xor]
theorem in_t5 {u : List Int} {ts : List (List Int)} {lh : LH} : zIn false (.pv (tupP u)) (.pv (.lst (ts.map tupP))) lh = .ok (.pv (.bl (decide (u ∈ ts)))) lh := by
  rw [show zIn false (.pv (tupP u)) (.pv (.lst (ts.map tupP))) lh = _ from zIn_tups false u ts lh, Bool.false_xor]
theorem tupP_inj {u v : List Int} : tupP u = tupP v ↔ u = v := ⟨fun h => inj_int (by
  have z : PV.tup (u.map .int) = PV.tup (v.map .int) := h
  injection z), fun h => by rw [h]⟩
theorem eq_t5 {u : List Int} {e f : Int} {lh : LH} : zEqD false (.pv (tupP u)) (.pv (.tup [.int e, .int f])) lh = .ok (.pv (.bl (decide (u = [e, f])))) lh := by
  have h := zEq_frm (.tup .int) (neg := false) (lh := lh) (frm_tup u) (frm_tup [e, f]) (by decide)
  rw [Bool.false_xor] at h
  refine Eq.trans h ?_
  have c : decide (tupP u = tupP [e, f]) = decide (u = [e, f]) := decide_eq_decide.mpr tupP_inj
  rw [c]
theorem in_sq_d : ∀ n x y : Fin 5, x.val < n.val → y.val < n.val → [((x.val : Nat) : Int), ((y.val : Nat) : Int)] ∈ sq n.val := by decide +kernel
theorem in_sq {n : Nat} {e f : Int} (h0 : 1 ≤ n) (h1 : n ≤ 4) (e0 : 0 ≤ e) (e1 : e < n) (f0 : 0 ≤ f) (f1 : f < n) : [e, f] ∈ sq n := by
  obtain ⟨x, rfl⟩ : ∃ x : Nat, e = x := ⟨e.toNat, by omega⟩
  obtain ⟨y, rfl⟩ : ∃ y : Nat, f = y := ⟨f.toNat, by omega⟩
  exact in_sq_d ⟨n, by omega⟩ ⟨x, by omega⟩ ⟨y, by omega⟩ (by show x < n; omega) (by show y < n; omega)
theorem flip5 {n : Nat} {m : List (Str × List Int)} {t : List (Str × List (List Int))} {s k : Str} {e f : Int} (w : W5 n m t s k) (e0 : 0 ≤ e) (e1 : e < n) (f0 : 0 ≤ f) (f1 : f < n) :
    F5 n m t s k (((List.range n).filter fun a : Nat => xor (decide ((a : Int) ∈ lk m s)) (decide ((a : Int) = e))).map fun a : Nat => (a : Int)) ((sq n).filter fun u => xor (decide (u ∈ lk t k)) (decide (u = [e, f]))) where
  hx := by
    have g1 := w.h1
    refine ⟨?_, fun x hx => ?_⟩
    · rw [List.length_map]
      have := List.length_filter_le (fun a : Nat => xor (decide ((a : Int) ∈ lk m s)) (decide ((a : Int) = e))) (List.range n)
      rw [List.length_range] at this
      omega
    · obtain ⟨a, ha, rfl⟩ := List.mem_map.mp hx
      have := List.mem_range.mp (List.mem_filter.mp ha).1
      omega
  hu := by
    have g1 := w.h1
    refine ⟨?_, fun x hx => ?_⟩
    · have := List.length_filter_le (fun u => xor (decide (u ∈ lk t k)) (decide (u = [e, f]))) (sq n)
      have := sq_len (n := n) (by omega)
      omega
    · exact sq_in w.h0 (List.mem_filter.mp hx).1
  dx := by
    refine ⟨e, fun h => ?_⟩
    by_cases c : e ∈ lk m s
    · obtain ⟨a, ha, z⟩ := List.mem_map.mp (h.mpr c)
      have q := (List.mem_filter.mp ha).2
      have z : (a : Int) = e := z
      rw [z] at q
      simp [c] at q
    · have hr : e.toNat < n := by omega
      refine c (h.mp (List.mem_map.mpr ⟨e.toNat, List.mem_filter.mpr ⟨List.mem_range.mpr hr, ?_⟩, ?_⟩))
      · rw [Int.toNat_of_nonneg e0]
        simp [c]
      · exact Int.toNat_of_nonneg e0
  du := by
    refine ⟨[e, f], fun h => ?_⟩
    by_cases c : [e, f] ∈ lk t k
    · have q := (List.mem_filter.mp (h.mpr c)).2
      simp [c] at q
    · refine c (h.mp (List.mem_filter.mpr ⟨in_sq w.h0 w.h1 e0 e1 f0 f1, ?_⟩))
      simp [c]
section
variable {D : Dn} {l : LH} {n : Nat} {m : List (Str × List Int)} {t : List (Str × List (List Int))} {s k : Str} {xs : List Int} {us : List (List Int)} {x0 x2 x3 x7 x10 x11 x12 x13 x14 x15 x16 x17 x18 : Option LV}
theorem lap05c (w : W5 n m t s k) (f : F5 n m t s k xs us) (q : ∀ x17 x18, D.nx [x0, some (.ref 0), x2, x3, some (.pv (plP n m t)), some (.pv (.int (n : Int))), some (.pv (wb n m t)), x7, some (.pv (.str s)), some (.pv (.str k)), x10, x11, x12, x13, x14, x15, some (.pv (.lst [wb n (putS m s xs) t, wb n m (putS t k us), webP ((n : Int) + 1) (cmM m) (cmT t)])), x17, x18] l) :
    (t05c [x0, some (.ref 0), x2, x3, some (.pv (plP n m t)), some (.pv (.int (n : Int))), some (.pv (wb n m t)), x7, some (.pv (.str s)), some (.pv (.str k)), x10, x11, x12, x13, x14, x15, some (.pv (.lst [wb n (putS m s xs) t, wb n m (putS t k us), webP ((n : Int) + 1) (cmM m) (cmT t)])), x17, x18] l).sp D := by
  unfold t05c
  walk_at "su"
  rw [show zOwnEq false ["Web"] ownK m_Web_eq (.pv (wb n (putS m s xs) t)) (.pv (wb n m t)) l = _ from f.q1 w]
  walk_at "su"
  rw [show zOwnEq false ["Web"] ownK m_Web_eq (.pv (wb n m t)) (.pv (wb n (putS m s xs) t)) l = _ from f.q2 w]
  walk_at "su"
  rw [show zOwnEq false ["Web"] ownK m_Web_eq (.pv (wb n m (putS t k us))) (.pv (wb n m t)) l = _ from f.q3 w]
  walk_at "su"
  rw [show zOwnEq false ["Web"] ownK m_Web_eq (.pv (wb n m t)) (.pv (wb n m (putS t k us))) l = _ from f.q4 w]
  walk_at "su"
  rw [show zOwnEq false ["Web"] ownK m_Web_eq (.pv (webP ((n : Int) + 1) (cmM m) (cmT t))) (.pv (wb n m t)) l = _ from w.q5]
  walk_at "su"
  rw [show zOwnEq false ["Web"] ownK m_Web_eq (.pv (wb n m t)) (.pv (webP ((n : Int) + 1) (cmM m) (cmT t))) l = _ from w.q6]
  walk_at "su"
  rw [show zIn false (.pv (.bl true)) (.pv (.lst [.bl (false ^^ false), .bl (false ^^ false), .bl (false ^^ false)])) l = _ from no_tt3]
  walk_at "su"
  refine meth_p (by decide) ?_
  walk_at "su"
  rw [show zIx (.pv (.dct (pD .int m))) (.pv (.str s)) l = _ from w.ixm]
  walk_at "su"
  rw [show m_Web_painted [.pv (wb n (putS m s xs) t), .pv (.str s), .pv (.lst ((lk m s).map .int))] l = _ from w.pb f]
  walk_at "su"
  rw [show zOwnEq true ["Web"] ownK m_Web_eq (.pv (wb n m t)) (.pv (wb n m t)) l = _ from w.self]
  walk_at "su"
  refine meth_p (by decide) ?_
  walk_at "su"
  rw [show zIx (.pv (.dct (pD tupP t))) (.pv (.str k)) l = _ from w.ixt]
  walk_at "su"
  rw [show m_Web_redrawn [.pv (wb n m (putS t k us)), .pv (.str k), .pv (.lst ((lk t k).map tupP))] l = _ from w.rb f]
  walk_at "su"
  rw [show zOwnEq true ["Web"] ownK m_Web_eq (.pv (wb n m t)) (.pv (wb n m t)) l = _ from w.self]
  walk_at "su"
  rw [show zOwnS ["Web"] m_Web_repr [.pv (wb n m t)] l = _ from w.os]
  walk_at "su"
  rw [show zOwnEq false ["Web"] ownK m_Web_eq (.pv (wb n m t)) (.pv .non) l = _ from W5.e1]
  walk_at "su"
  rw [show zOwnEq false ["Web"] ownK m_Web_eq (.pv (wb n m t)) (.pv (.int n)) l = _ from W5.e2]
  walk_at "su"
  rw [show zOwnEq false ["Web"] ownK m_Web_eq (.pv (wb n m t)) (.pv (.str (wsh n m t))) l = _ from W5.e3]
  walk_at "su"
  rw [show zOwnEq false ["Web"] ownK m_Web_eq (.pv (wb n m t)) (.pv (.tup [.int n, .dct (pD .int m), .dct (pD tupP t)])) l = _ from W5.e4]
  walk_at "su"
  rw [show zIn false (.pv (.bl true)) (.pv (.lst [.bl false, .bl false, .bl false, .bl false])) l = _ from no_tt4]
  walk_at "su"
  exact q _ _
end
section
variable {D : Dn} {l : LH} {n : Nat} {m : List (Str × List Int)} {t : List (Str × List (List Int))} {s k : Str} {e f : Int} {x0 x2 x3 x11 x12 x13 x14 x15 x16 x17 x18 : Option LV}
theorem lap05b (w : W5 n m t s k) (e0 : 0 ≤ e) (e1 : e < n) (f0 : 0 ≤ f) (f1 : f < n) (q : ∀ x11 x12 x13 x14 x15 x16 x17 x18, D.nx [x0, some (.ref 0), x2, x3, some (.pv (plP n m t)), some (.pv (.int (n : Int))), some (.pv (wb n m t)), some (.pv (.int e)), some (.pv (.str s)), some (.pv (.str k)), some (.pv (.tup [.int e, .int f])), x11, x12, x13, x14, x15, x16, x17, x18] l) :
    (t05b [x0, some (.ref 0), x2, x3, some (.pv (plP n m t)), some (.pv (.int (n : Int))), some (.pv (wb n m t)), some (.pv (.int e)), some (.pv (.str s)), some (.pv (.str k)), some (.pv (.tup [.int e, .int f])), x11, x12, x13, x14, x15, x16, x17, x18] l).sp D := by
  have g0 := w.h0
  have g1 := w.h1
  unfold t05b
  walk_at "s"
  rw [zints_as]
  refine lc_f (G := fun a => .int (a : Int)) (p := fun a => xor (decide ((a : Int) ∈ lk m s)) (decide ((a : Int) = e))) rfl (fun a ha => ?_) ?_
  · walk_at "s"
    with_reducible refine get2_d ?_
    walk_at "s"
    simp only [getD_pD]
    rw [in_i5]
    walk_at "s"
    generalize decide ((a : Int) ∈ lk m s) = u
    generalize decide ((a : Int) = e) = v
    cases u <;> cases v <;> rfl
  walk_at "s"
  with_reducible refine get2_d ?_
  walk_at "s"
  rw [square_ok l g0 (by omega)]
  unfold lT
  walk_at "s"
  refine ⟨by have := sq_len (n := n) (by omega); rw [sizeLine_eq]; omega, ?_⟩
  rw [getD_pD]
  rw [List.map_map]
  refine lc_ps (F := fun u => LV.pv (tupP u)) (G := tupP) (p := fun u => xor (decide (u ∈ lk t k)) (decide (u = [e, f]))) (by simp only [lstOf_lst, List.map_map, sameO_self]) (fun u hu => ?_) ?_
  · walk_at "s"
    rw [in_t5]
    walk_at "s"
    rw [eq_t5]
    walk_at "s"
    generalize decide (u ∈ lk t k) = u1
    generalize decide (u = [e, f]) = v
    cases u1 <;> cases v <;> rfl
  walk_at "s"
  refine meth_p (by decide) ?_
  walk_at "s"
  have ex : ∀ P : Nat → Bool, (List.map (fun a : Nat => PV.int (a : Int)) ((List.range n).filter P)) = (((List.range n).filter P).map fun a : Nat => (a : Int)).map .int := fun P => by rw [List.map_map]; rfl
  rw [ex]
  have f5 := flip5 w e0 e1 f0 f1
  generalize (((List.range n).filter fun a : Nat => xor (decide ((a : Int) ∈ lk m s)) (decide ((a : Int) = e))).map fun a : Nat => (a : Int)) = xs at *
  generalize ((sq n).filter fun u => xor (decide (u ∈ lk t k)) (decide (u = [e, f]))) = us at *
  rw [show m_Web_painted [.pv (wb n m t), .pv (.str s), .pv (.lst (xs.map .int))] l = _ from w.pe f5]
  walk_at "s"
  refine meth_p (by decide) ?_
  walk_at "s"
  rw [show m_Web_redrawn [.pv (wb n m t), .pv (.str k), .pv (.lst (us.map tupP))] l = _ from w.re f5]
  walk_at "s"
  have mk := make_ok (size := (n : Int) + 1) (lh := l) (by omega) (by omega) (w.om.up (by omega)) (w.ot.up (by omega))
  rw [show b_mk_Web_marks_ties [.pv (.int ((n : Int) + 1))] [.pv (.dct (pD .int m)), .pv (.dct (pD tupP t))] = [.pv (.int ((n : Int) + 1)), .pv (.dct (pD .int m)), .pv (.dct (pD tupP t))] from rfl, mk]
  walk_at "s"
  refine lap05c w f5 fun x17 x18 => ?_
  exact q _ _ _ _ _ _ _ _
end
section
variable {D : Dn} {l : LH} {x0 x2 x3 x4 x5 x6 x7 x8 x9 x10 x11 x12 x13 x14 x15 x16 x17 x18 : Option LV}
theorem lap05 (hb : HB [] l) (q : ∀ l x3 x4 x5 x6 x7 x8 x9 x10 x11 x12 x13 x14 x15 x16 x17 x18, HB [] l → D.nx [x0, some (.ref 0), x2, x3, x4, x5, x6, x7, x8, x9, x10, x11, x12, x13, x14, x15, x16, x17, x18] l) :
    (t05a [x0, some (.ref 0), x2, x3, x4, x5, x6, x7, x8, x9, x10, x11, x12, x13, x14, x15, x16, x17, x18] l).sp D := by
  unfold t05a
  walk_at "s"
  refine names_k hb fun na nb nc nd l hb n4 => ?_
  walk_at "s"
  refine Res.sp.to (plain_g (top := 4) Jk.nil hb (by decide) (by decide) n4.ab n4.cd) ?_
  rintro v l ⟨hb, size, m, t, rfl, h0, h1, hp⟩
  obtain ⟨n, rfl⟩ : ∃ n : Nat, size = n := ⟨size.toNat, by omega⟩
  have h5 : n ≤ 4 := by omega
  have g0 : 1 ≤ n := by omega
  obtain ⟨hm, nm⟩ := hp.mok (nmg_ok n4.na) (nmg_ok n4.nb) n4.ab
  obtain ⟨ht, nt⟩ := hp.tok (nmg_ok n4.nc) (nmg_ok n4.nd) n4.cd
  walk_at "s"
  rw [web_ok l h0 (by omega) hm ht nm nt]
  walk_at "s"
  rw [web_ok l h0 (by omega) hm ht nm nt]
  walk_at "s"
  rw [show zOwnEq true ["Web"] ownK m_Web_eq (.pv (wb n m t)) (.pv (wb n m t)) l = _ from oweq_self nm nt]
  walk_at "s"
  rw [show zOwnEq false ["Web"] ownK m_Web_eq (.pv (wb n m t)) (.pv (wb n m t)) l = _ from oweq_self nm nt]
  walk_at "s"
  refine draw_k hb (by omega) (by omega) fun e l hb e0 e1 => ?_
  walk_at "s"
  refine draw_k hb (by omega) (by omega) fun i l hb i0 i1 => ?_
  walk_at "s"
  obtain ⟨s, hs, es⟩ := ix4 (a := na) (b := nb) (c := nc) (d := nd) i0 i1
  rw [es]
  walk_at "s"
  refine draw_k hb (by omega) (by omega) fun j l hb j0 j1 => ?_
  walk_at "s"
  obtain ⟨k, hk, ek⟩ := ix4b (a := na) (b := nb) (c := nc) (d := nd) j0 j1
  rw [ek]
  walk_at "s"
  refine draw_k hb (by omega) (by omega) fun f l hb f0 f1 => ?_
  walk_at "s"
  have w : W5 n m t s k := by
    refine ⟨g0, h5, hm, nm, ht, nt, ?_, ?_, ?_, ?_, ?_, ?_, ?_, ?_⟩
    · obtain ⟨xs, ys, rfl, _, _⟩ := hp.m
      exact Nat.le_refl _
    · obtain ⟨xs, ys, rfl, _, _⟩ := hp.t
      exact Nat.le_refl _
    · obtain ⟨xs, ys, rfl, _, _⟩ := hp.m
      simpa using hs
    · obtain ⟨xs, ys, rfl, _, _⟩ := hp.t
      simpa using hk
    · rcases hs with rfl | rfl
      · exact nmg_ok n4.na
      · exact nmg_ok n4.nb
    · rcases hk with rfl | rfl
      · exact nmg_ok n4.nc
      · exact nmg_ok n4.nd
    · obtain ⟨xs, ys, rfl, _, _⟩ := hp.m
      intro r hr
      simp only [List.map_cons, List.map_nil, List.mem_cons, List.not_mem_nil, or_false] at hr
      rcases hr with rfl | rfl
      · exact nms_len _ n4.ia
      · exact nms_len _ n4.ib
    · obtain ⟨xs, ys, rfl, _, _⟩ := hp.t
      intro r hr
      simp only [List.map_cons, List.map_nil, List.mem_cons, List.not_mem_nil, or_false] at hr
      rcases hr with rfl | rfl
      · exact nms_len _ n4.ic
      · exact nms_len _ n4.id
  with_reducible refine lap05b w e0 e1 f0 f1 fun x11 x12 x13 x14 x15 x16 x17 x18 => ?_
  exact q _ _ _ _ _ _ _ _ _ _ _ _ _ _ _ _ _ hb
end
theorem law_true_sp (ns : List Int) (hl : ns.length ≤ 63) : (m_law [.pv (.scr ns)] []).sp (fun v _ => v = .pv (.bl true)) noE := by
  unfold m_law
  rw [b_law_t]
  walk_at "s"
  refine bag_k hl fun l hb => ?_
  walk_at "s"
  refine forL_sp (fun r e l => HB [] l ∧ ∃ x0 x2 x3 x4 x5 x6 x7 x8 x9 x10 x11 x12 x13 x14 x15 x16 x17 x18, e = [x0, some (.ref 0), x2, x3, x4, x5, x6, x7, x8, x9, x10, x11, x12, x13, x14, x15, x16, x17, x18]) ?_ ?_ _ _ _ ⟨hb, _, _, _, _, _, _, _, _, _, _, _, _, _, _, _, _, _, _, rfl⟩
  · rintro y0 r env l ⟨hb, x0, x2, x3, x4, x5, x6, x7, x8, x9, x10, x11, x12, x13, x14, x15, x16, x17, x18, rfl⟩
    refine ⟨rfl, ?_⟩
    walk_at "s"
    refine lap05 hb fun l x3 x4 x5 x6 x7 x8 x9 x10 x11 x12 x13 x14 x15 x16 x17 x18 hb => ?_
    exact lp_nx ⟨hb, _, _, _, _, _, _, _, _, _, _, _, _, _, _, _, _, _, _, rfl⟩
  · rintro env l ⟨hb, x0, x2, x3, x4, x5, x6, x7, x8, x9, x10, x11, x12, x13, x14, x15, x16, x17, x18, rfl⟩
    refine ⟨rfl, ?_⟩
    refine thn_nx ?_
    walk_at "s"
    first | exact sp_clean rfl | (refine thn_rt ?_; exact sp_clean rfl) | trace_state
theorem law_true (ns : List Int) (hl : ns.length ≤ 63) : ∃ lh, m_law [.pv (.scr ns)] [] = .ok (.pv (.bl true)) lh := by
  obtain ⟨v, l, e, h⟩ := (law_true_sp ns hl).ex
  subst h
  exact ⟨l, e⟩
end K05
namespace K05
open PySem PySem.Spec PyProof.Rows L2 Z
theorem facts [L : LamC] [S : Susp] {w : World} {K : PySem.W.Frag} {h : Heap} {mg : Str → Option Value} (X : K.In h) (G : h.Ns mainGlobals mg) (c : Z.SaysZ fa fn tbs spq pdf tfs ex w h K) : Facts PySem.Challenge.rw_redrawties_k05_webs_equal.prog w K mg := by
  obtain ⟨x0, xr0⟩ := ba2 (show (He.tupB K "WORDS" [.str "yes", .str "not", .str "and", .str "or", .str "near", .str "any", .str "back", .str "then", .str "either", .str "again", .str "leap", .str "paint", .str "redraw", .str "when", .str "do", .str "else", .str "end"] && _) = true from c.more)
  obtain ⟨x1, xr1⟩ := ba2 (show (ownB K ownK ownC && _) = true from xr0)
  obtain ⟨x2, xr2⟩ := ba2 (show ((K.lookup sysModules).isSome && _) = true from xr1)
  obtain ⟨x3, xr3⟩ := ba2 (show (d_RedrawError_init.ok K PySem.Challenge.pw_redrawties_k05_webs_equal.main.file && _) = true from xr2)
  obtain ⟨x4, xr4⟩ := ba2 (show (d_InvalidName_init.ok K PySem.Challenge.pw_redrawties_k05_webs_equal.main.file && _) = true from xr3)
  obtain ⟨x5, xr5⟩ := ba2 (show (excGB K (He.ga K "InvalidName") (He.ga K "InvalidName") (He.fAd K ("RedrawError", some "__init__")) && _) = true from xr4)
  obtain ⟨x6, xr6⟩ := ba2 (show (excVB K (He.ga K "InvalidName") (He.ga K "RedrawError") && _) = true from xr5)
  obtain ⟨x7, xr7⟩ := ba2 (show (noB K (He.ga K "InvalidName") ["name", "code"] && _) = true from xr6)
  obtain ⟨x8, xr8⟩ := ba2 (show ((He.eqO (PySem.W.findIn K (.ref (He.ga K "InvalidName")) "__init__") (some (some (.ref (He.fAd K ("InvalidName", some "__init__"))))) && decide (PySem.W.typeIn K (.ref (He.fAd K ("InvalidName", some "__init__"))) = some (.type "function"))) && _) = true from xr7)
  obtain ⟨x9, xr9⟩ := ba2 (show (d_InvalidNode_init.ok K PySem.Challenge.pw_redrawties_k05_webs_equal.main.file && _) = true from xr8)
  obtain ⟨x10, xr10⟩ := ba2 (show (excGB K (He.ga K "InvalidNode") (He.ga K "InvalidNode") (He.fAd K ("RedrawError", some "__init__")) && _) = true from xr9)
  obtain ⟨x11, xr11⟩ := ba2 (show (excVB K (He.ga K "InvalidNode") (He.ga K "RedrawError") && _) = true from xr10)
  obtain ⟨x12, xr12⟩ := ba2 (show (noB K (He.ga K "InvalidNode") ["node", "code"] && _) = true from xr11)
  obtain ⟨x13, xr13⟩ := ba2 (show ((He.eqO (PySem.W.findIn K (.ref (He.ga K "InvalidNode")) "__init__") (some (some (.ref (He.fAd K ("InvalidNode", some "__init__"))))) && decide (PySem.W.typeIn K (.ref (He.fAd K ("InvalidNode", some "__init__"))) = some (.type "function"))) && _) = true from xr12)
  obtain ⟨x14, xr14⟩ := ba2 (show (d_InvalidTie_init.ok K PySem.Challenge.pw_redrawties_k05_webs_equal.main.file && _) = true from xr13)
  obtain ⟨x15, xr15⟩ := ba2 (show (excGB K (He.ga K "InvalidTie") (He.ga K "InvalidTie") (He.fAd K ("RedrawError", some "__init__")) && _) = true from xr14)
  obtain ⟨x16, xr16⟩ := ba2 (show (excVB K (He.ga K "InvalidTie") (He.ga K "RedrawError") && _) = true from xr15)
  obtain ⟨x17, xr17⟩ := ba2 (show (noB K (He.ga K "InvalidTie") ["tie", "code"] && _) = true from xr16)
  obtain ⟨x18, xr18⟩ := ba2 (show ((He.eqO (PySem.W.findIn K (.ref (He.ga K "InvalidTie")) "__init__") (some (some (.ref (He.fAd K ("InvalidTie", some "__init__"))))) && decide (PySem.W.typeIn K (.ref (He.fAd K ("InvalidTie", some "__init__"))) = some (.type "function"))) && _) = true from xr17)
  obtain ⟨x19, xr19⟩ := ba2 (show (eqB K ["Web"] ownK (He.fAd K ("Web", some "__eq__")) && _) = true from xr18)
  obtain ⟨x20, xr20⟩ := ba2 (show (methB K (He.ga K "Web") "__repr__" (He.fAd K ("Web", some "__repr__")) && true) = true from xr19)
  exact {
    F_law_bag := c.d.def_ 0 (d := d_law_bag) rfl,
    g_law_bag := (He.glo_ok X G (c.d.fact 0 (f := .glo "_law_bag") rfl)),
    F_law_draw := c.d.def_ 1 (d := d_law_draw) rfl,
    g_law_draw := (He.glo_ok X G (c.d.fact 1 (f := .glo "_law_draw") rfl)),
    F_law_one := c.d.def_ 2 (d := d_law_one) rfl,
    g_law_one := (He.glo_ok X G (c.d.fact 2 (f := .glo "_law_one") rfl)),
    F_law_names := c.d.def_ 3 (d := d_law_names) rfl,
    g_law_names := (He.glo_ok X G (c.d.fact 3 (f := .glo "_law_names") rfl)),
    F_law_square := c.d.def_ 4 (d := d_law_square) rfl,
    g_law_square := (He.glo_ok X G (c.d.fact 4 (f := .glo "_law_square") rfl)),
    F_law_plain := c.d.def_ 5 (d := d_law_plain) rfl,
    g_law_plain := (He.glo_ok X G (c.d.fact 5 (f := .glo "_law_plain") rfl)),
    F_Web_eq := c.d.def_ 6 (d := d_Web_eq) rfl,
    F_is_name := c.d.def_ 7 (d := d_is_name) rfl,
    g_is_name := (He.glo_ok X G (c.d.fact 6 (f := .glo "is_name") rfl)),
    F_is_count := c.d.def_ 8 (d := d_is_count) rfl,
    g_is_count := (He.glo_ok X G (c.d.fact 7 (f := .glo "is_count") rfl)),
    F_check_node := c.d.def_ 9 (d := d_check_node) rfl,
    g_check_node := (He.glo_ok X G (c.d.fact 8 (f := .glo "check_node") rfl)),
    F_clean_marks := c.d.def_ 10 (d := d_clean_marks) rfl,
    g_clean_marks := (He.glo_ok X G (c.d.fact 9 (f := .glo "clean_marks") rfl)),
    F_check_pair := c.d.def_ 11 (d := d_check_pair) rfl,
    g_check_pair := (He.glo_ok X G (c.d.fact 10 (f := .glo "check_pair") rfl)),
    F_clean_ties := c.d.def_ 12 (d := d_clean_ties) rfl,
    g_clean_ties := (He.glo_ok X G (c.d.fact 11 (f := .glo "clean_ties") rfl)),
    F_Web_init := c.d.def_ 13 (d := d_Web_init) rfl,
    F_law_web := c.d.def_ 14 (d := d_law_web) rfl,
    g_law_web := (He.glo_ok X G (c.d.fact 12 (f := .glo "_law_web") rfl)),
    F_Web_painted := c.d.def_ 15 (d := d_Web_painted) rfl,
    F_Web_redrawn := c.d.def_ 16 (d := d_Web_redrawn) rfl,
    F_Web_repr := c.d.def_ 17 (d := d_Web_repr) rfl,
    F_law := c.d.def_ 18 (d := d_law) rfl,
    g_law := (He.glo_ok X G (c.d.fact 13 (f := .glo "law") rfl)),
    F_RedrawError_init := SupQ.sup (d := d_RedrawError_init) (c.sup 0) x3 (by kernel_rfl),
    F_InvalidName_init := SupQ.sup (d := d_InvalidName_init) (c.sup 1) x4 (by kernel_rfl),
    F_InvalidNode_init := SupQ.sup (d := d_InvalidNode_init) (c.sup 2) x9 (by kernel_rfl),
    F_InvalidTie_init := SupQ.sup (d := d_InvalidTie_init) (c.sup 3) x14 (by kernel_rfl),
    g_InvalidName := (He.glo_ok X G (c.d.fact 20 (f := .glo "InvalidName") rfl)),
    g_InvalidNode := (He.glo_ok X G (c.d.fact 21 (f := .glo "InvalidNode") rfl)),
    g_InvalidTie := (He.glo_ok X G (c.d.fact 22 (f := .glo "InvalidTie") rfl)),
    g_RedrawError := (He.glo_ok X G (c.d.fact 19 (f := .glo "RedrawError") rfl)),
    g_Web := (He.glo_ok X G (c.d.fact 14 (f := .glo "Web") rfl)),
    mk_Web := (He.mkr_ok (c.d.fact 15 (f := .mkr "Web") rfl)),
    m_Web_eq := eqF_of (fm_cons (He.glo_ok X G (c.d.fact 14 (f := .glo "Web") rfl)) fm_nil) (fm_cons (He.cls_ok (c.d.fact 16 (f := .cls "Web") rfl)) fm_nil) (fm_cons (He.glo_ok X G (c.d.fact 14 (f := .glo "Web") rfl)) fm_nil) x19,
    m_Web_painted := mthF_of (He.glo_ok X G (c.d.fact 14 (f := .glo "Web") rfl)) (He.cls_ok (c.d.fact 16 (f := .cls "Web") rfl)) (He.meth_ok (c.d.fact 17 (f := .meth "Web" "painted") rfl)),
    m_Web_redrawn := mthF_of (He.glo_ok X G (c.d.fact 14 (f := .glo "Web") rfl)) (He.cls_ok (c.d.fact 16 (f := .cls "Web") rfl)) (He.meth_ok (c.d.fact 18 (f := .meth "Web" "redrawn") rfl)),
    m_Web_repr := (mthsF_cons (mthF_in (He.glo_ok X G (c.d.fact 14 (f := .glo "Web") rfl)) (He.cls_ok (c.d.fact 16 (f := .cls "Web") rfl)) x20) mthsF_nil),
    fld_own_marks := fldF_of (fm_cons ⟨(He.glo_ok X G (c.d.fact 14 (f := .glo "Web") rfl)), (He.cls_ok (c.d.fact 16 (f := .cls "Web") rfl)), (He.noat_ok (c.d.fact 23 (f := .noat "Web" "own_marks") rfl))⟩ fm_nil),
    fld_own_size := fldF_of (fm_cons ⟨(He.glo_ok X G (c.d.fact 14 (f := .glo "Web") rfl)), (He.cls_ok (c.d.fact 16 (f := .cls "Web") rfl)), (He.noat_ok (c.d.fact 24 (f := .noat "Web" "own_size") rfl))⟩ fm_nil),
    fld_own_ties := fldF_of (fm_cons ⟨(He.glo_ok X G (c.d.fact 14 (f := .glo "Web") rfl)), (He.cls_ok (c.d.fact 16 (f := .cls "Web") rfl)), (He.noat_ok (c.d.fact 25 (f := .noat "Web" "own_ties") rfl))⟩ fm_nil),
    n_abs := He.free_ok X G (c.d.fact 26 (f := .free "abs") rfl),
    n_all := He.free_ok X G (c.d.fact 27 (f := .free "all") rfl),
    n_bool := He.free_ok X G (c.d.fact 28 (f := .free "bool") rfl),
    n_int := He.free_ok X G (c.d.fact 29 (f := .free "int") rfl),
    n_isinstance := He.free_ok X G (c.d.fact 30 (f := .free "isinstance") rfl),
    n_len := He.free_ok X G (c.d.fact 31 (f := .free "len") rfl),
    n_list := He.free_ok X G (c.d.fact 32 (f := .free "list") rfl),
    n_range := He.free_ok X G (c.d.fact 33 (f := .free "range") rfl),
    n_repr := He.free_ok X G (c.d.fact 34 (f := .free "repr") rfl),
    n_set := He.free_ok X G (c.d.fact 35 (f := .free "set") rfl),
    n_sorted := He.free_ok X G (c.d.fact 36 (f := .free "sorted") rfl),
    n_str := He.free_ok X G (c.d.fact 37 (f := .free "str") rfl),
    n_tuple := He.free_ok X G (c.d.fact 38 (f := .free "tuple") rfl),
    i_MOST_LETTERS := He.int_ok X G (c.d.fact 39 (f := .int "MOST_LETTERS" 8) rfl),
    i_MOST_NODES_webs := He.int_ok X G (c.d.fact 40 (f := .int "MOST_NODES_webs" 300) rfl),
    s_LETTERS := He.str_ok X G (c.d.fact 41 (f := .str "LETTERS" "abcdefghijklmnopqrstuvwxyz") rfl),
    r_WORDS := ⟨(He.glo_ok X G (c.d.fact 42 (f := .glo "WORDS") rfl)), fun W => .tup (.inr (kt_of x0)) (.cons .str (.cons .str (.cons .str (.cons .str (.cons .str (.cons .str (.cons .str (.cons .str (.cons .str (.cons .str (.cons .str (.cons .str (.cons .str (.cons .str (.cons .str (.cons .str (.cons .str .nil)))))))))))))))))⟩,
    own := ownF_of (fm_cons (He.glo_ok X G (c.d.fact 14 (f := .glo "Web") rfl)) fm_nil) (fm_cons (He.cls_ok (c.d.fact 16 (f := .cls "Web") rfl)) fm_nil) x1,
    sysm := x2,
    eg_InvalidName := excGB_ok x5,
    ev_InvalidName := excVB_ok x6,
    no_InvalidName := x7,
    in_InvalidName := ⟨He.eqO_ok (ba2 x8).1, of_decide_eq_true (ba2 x8).2⟩,
    eg_InvalidNode := excGB_ok x10,
    ev_InvalidNode := excVB_ok x11,
    no_InvalidNode := x12,
    in_InvalidNode := ⟨He.eqO_ok (ba2 x13).1, of_decide_eq_true (ba2 x13).2⟩,
    eg_InvalidTie := excGB_ok x15,
    ev_InvalidTie := excVB_ok x16,
    no_InvalidTie := x17,
    in_InvalidTie := ⟨He.eqO_ok (ba2 x18).1, of_decide_eq_true (ba2 x18).2⟩,
    top_super := by kernel_rfl,
    n_super := He.free_ok X G (c.d.fact 43 (f := .free "super") rfl) }
end K05
open PySem PySem.W PySem.Calls PyProof.Rows
theorem PySem.Challenge.cw_redrawties_k05_webs_equal_holds : PySem.Challenge.rw_redrawties_k05_webs_equal.Holds := by
  refine K05.headL ?hc
  case hc =>
    refine Z.walk_G (l := PySem.Challenge.rw_redrawties_k05_webs_equal) (n := 63) (k := 11) (x := "_law_script") (CX := fun _ => Z.CXF) rfl (by decide) (by kernel_rfl) ⟨rfl, by decide, by decide⟩ ?F (fun _ _ _ _ _ z => let ⟨_, _, _, z⟩ := z; z)
    intro w mg fa h Y G hmg0
    obtain ⟨K, KX, c⟩ := Y
    have hmg : mg ("law" : PySem.Str) = some (.ref fa) := by
      have e : (HandSHeadRun.topDef (OpenLaw.row PySem.Challenge.rw_redrawties_k05_webs_equal).prog 29).name = ("law" : PySem.Str) := by kernel_rfl
      rw [← e]
      exact hmg0
    letI : Z.LamC := ⟨fun _ => none, "", none⟩
    letI : Z.Susp := ⟨[], []⟩
    have t := K05.facts KX G c
    obtain ⟨fd, F⟩ := t.F_law
    have e := hmg.symm.trans t.g_law
    cases e
    have b := L2.FunD.bindsA (ps := ["_law_script"]) F fun _ _ _ _ _ _ us hl => match us, hl with | [_], _ => rfl
    exact ⟨K, KX, fd, [], _, fun p hp => (nomatch hp), fun p hp => (nomatch hp), fun p hp => (nomatch hp), fun s v => b s [v] rfl, fun H a ns hl _ _ hS => let ⟨_, q⟩ := K05.law_true ns hl; Z.law_sp q hS (fun _ z => by cases z) rfl, fun base _ _ _ => Z.fnG_cxf (K05.ok_law t F)⟩
