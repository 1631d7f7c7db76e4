import PyProof.Rows.All
import HandS.ForMost
import HandS.ForExc
import HandS.Wide
import HandS.WideMore
import HandS.TupAny
import HandS.TupMul
import HandS.Zip
import HandS.IsInst
import HandS.Walk
import HandS.CallSlots
import HandS.Flow
import HandS.Small
import HandS.Defaults
import HandS.HeadEnd
import HandS.HeadHook1
import HandS.HeadHook2
import HandS.Head0
import HandS.Head1
import HandS.Head2
import KE.KEqNest
import HandS.Lambda
import HandS.Slots
import HandS.SlotsOwn
import HandS.Codes
import HandS.Style
import PyProof.Rows.RuleB_pow
import KE.GoesMore
import KE.GoesZip
import KE.GoesEnum
import HandS.SortInts
import HandS.Set
import HandS.Strs
import PyProof.ReprReads
import PyProof.ReprRoads
import PyProof.CallFns
import KE.KSortKey
import HandS.Keys
import HandS.SortKw
import HandS.ExcOwn
import HandS.ExcInit
import HandS.ExcField
import HandS.FStr
import HandS.NestedK
import KE.KExcSuper
import PyProof.FString4
import HandS.TryMany
import HandS.HeadHook4
import HandS.EndTab
import HandS.Iter
import HandS.WideBits
import PyProof.Rows.RuleDivmod
import HandS.NoneIn
import HandS.More
import HandS.DictComp
import KE.KEqDict
import KE.KDictZip
import HandS.Star
import HandS.TupLe
import HandS.Head4
import PyProof.CallStr
import PyProof.StrOps2
import HandS.ExcIs
import HandS.Text
import PySem.Challenge.RW_shiftlaws_k10_whole_errors
set_option Elab.async false
set_option linter.all false
set_option maxRecDepth 100000
set_option maxHeartbeats 4000000
namespace DL
open PySem PySem.Spec PyProof.Rows L2
/-- plain data: immutable trees, and places of what may change -/
inductive D where
  | non | bl (b : Bool) | int (i : Int) | str (x : Str) | ty (n : String) | ob (a : Addr)
  | tup (ds : List D) | lst (ds : List D) | rol (ds : List D) | loc (l : Nat) | fn (x : Str) | dct (ks : List Key) (ds : List D) | obj (c : Str) (ds : List D) | exo (c : Str) (f : Str) (ds : List D)
  deriving Inhabited
/-- a def's code object -/
def codeA (K : PySem.W.Frag) (f : Addr) : Addr := match K.lookup f with
  | some ⟨_, _, .func fd, _⟩ => (match fd.code with
    | .ref c => c
    | _ => 0)
  | _ => 0
mutual
/-- the written part holds the data d at u -/
def kRep (K : PySem.W.Frag) : D → Value → Bool
  | .non, .none => true
  | .bl b, .bool c => b == c
  | .int i, .int j _ => decide (i = j)
  | .str x, .str y _ => decide (x = y)
  | .tup ds, .ref a => match K.lookup a with
    | some ⟨.type c, _, .seq its _, _⟩ => decide (c = "tuple") && (decide (its.size ≤ sizeLine) && kRepL K ds its.toList)
    | _ => false
  | _, _ => false
def kRepL (K : PySem.W.Frag) : List D → List Value → Bool
  | [], [] => true
  | d :: ds, u :: us => kRep K d u && kRepL K ds us
  | _, _ => false
end
/-- an own exception class and its __init__ -/
structure InitD where
  cls : Str
  params : Arguments
  body : List Stmt
  scope : Scope
  fld : Str
  base : String
  newId : String
  initId : String
  mro : List Value
abbrev InitV : Type := Option (Str × Arguments × FuncBody × Scope × Addr × List Str × Addr)
def InitD.at_ (K : PySem.W.Frag) (d : InitD) : Addr := He.ma K (He.ga K d.cls) "__init__"
def InitD.obs (K : PySem.W.Frag) (d : InitD) : InitV := match K.lookup (d.at_ K) with
  | some ⟨_, _, .func fd, _⟩ => some (fd.name, fd.params, fd.body, fd.scope, fd.globals, fd.closure.map (·.1), fd.builtins)
  | _ => none
def InitD.val (d : InitD) : InitV := some ("__init__", d.params, .stmts d.body, d.scope, mainGlobals, ["__class__"], builtinsNs)
def InitD.ok (file : Str) (K : PySem.W.Frag) (d : InitD) : Bool :=
  (PySem.W.excInitIn K (He.ga K d.cls) d.mro d.newId && PySem.W.excOver K (He.ga K d.cls) d.mro && PySem.W.keepIn K (.ref (He.ga K d.cls)) && He.eqO (PySem.W.findIn K (.ref (He.ga K d.cls)) "__init__") (some (some (.ref (d.at_ K)))) &&
    decide (PySem.W.typeIn K (.ref (d.at_ K)) = some (.type "function")) && He.eqO (PySem.W.findIn K (.ref (He.ga K d.cls)) "__setattr__") (some (some (.builtin "object.__setattr__")))) &&
  ((decide (PySem.W.takerIn K (He.ga K d.cls) d.fld = some none) && PySem.W.hasDictIn K (He.ga K d.cls) && decide (PySem.W.subIn K (.ref (He.ga K d.cls)) (.type "BaseException") = some true) && decide (PySem.W.subIn K (.ref (He.ga K d.cls)) (.type d.base) = some true) &&
    decide (PySem.W.typeIn K (.ref (He.ga K d.cls)) = some (.type "type")) && decide (PySem.W.mroIn K (He.ga K d.cls) (.ref (He.ga K d.cls)) = some true) && decide (PySem.W.ks_superIn K (He.ga K d.cls) (He.ga K d.cls) "__init__" = some (some (.builtin d.initId)))) &&
  ((match K.lookup (d.at_ K) with
    | some ⟨_, _, .func fd, _⟩ => (match fd.defaults with | .none => true | _ => false) && PySem.W.codeIn K fd.code fd.qualname && ((match fd.closure with
        | [(_, cc)] => (match K.lookup cc with
          | some ⟨_, _, .cell (some (.ref C)), _⟩ => decide (C = He.ga K d.cls)
          | _ => false)
        | _ => false) && (match fd.code with
        | .ref cda => (match K.lookup cda with
          | some ⟨_, _, .fields vs, _⟩ => (match (vs[2]? : Option Value) with
            | some (.str f _) => (file == f)
            | _ => false)
          | _ => false)
        | _ => false))
    | _ => false) && (decide (PySem.W.nsIn K cStatics "thirdparty.any" = some none) && xfB K (He.ga K d.cls) && He.eqO (PySem.W.findIn K (.ref (He.ga K d.cls)) d.fld) (some none))))
abbrev AlL : Type := Bool × List He.FnW × List InitV
structure Look where
  n : Nat
  fa : List He.Fa
  fn : List He.DefD
  ins : List InitD
  tf : List He.Defn
  file : Str
  ex : PySem.W.Frag → Bool
def Look.frag (L : Look) (g : Addr → Option Obj) : PySem.W.Frag := He.frT g (cStatics :: He.asD g L.n)
def Look.obs (L : Look) (g : Addr → Option Obj) (K : PySem.W.Frag) : AlL :=
  ((L.fa.all fun f => f.ok K) && (L.fn.all (fun d => d.ok K) && (L.ins.all (fun d => d.ok L.file K) && (L.ex K && He.tabsB g L.tf K))), L.fn.map (fun d => He.fnW K d.at_), L.ins.map fun d => d.obs K)
def Look.val (L : Look) : AlL := (true, L.fn.map He.DefD.val, L.ins.map InitD.val)
structure Look.Says (L : Look) (h : Heap) (K : PySem.W.Frag) : Prop where
  fa : ∀ f ∈ L.fa, f.ok K = true
  fn : ∀ d ∈ L.fn, ∃ fd, FunD K d.name d.qual d.params d.body d.scope (d.dvs K) (d.kws K) (He.fAd K d.at_) fd
  ins : ∀ d ∈ L.ins, d.obs K = d.val ∧ d.ok L.file K = true
  ex : L.ex K = true
  hd : ∀ p ∈ L.tf, PySem.W.codeHdIn K (He.cT K p).1 (He.cT K p).2 = true
  out : ∀ p ∈ L.tf, K.lookup (He.cT K p).2 = none
  empty : ∀ p ∈ L.tf, h.get? (He.cT K p).2 = some { cls := .none, data := .fields #[] }
theorem map_eq_mem {α β : Type} {f g : α → β} : ∀ {l : List α}, l.map f = l.map g → ∀ x ∈ l, f x = g x
  | a :: l, e, x, hx => by
    simp only [List.map_cons, List.cons.injEq] at e
    rcases List.mem_cons.mp hx with z | z
    · rw [z]; exact e.1
    · exact map_eq_mem e.2 x z
def datB (K : PySem.W.Frag) (x : Str) (d : D) : Bool := match PySem.W.nsIn K mainGlobals x with
  | some (some u) => kRep K d u
  | _ => false
def xfBB (K : PySem.W.Frag) (x f : Str) : Bool := xfB K (He.ga K x) && He.eqO (PySem.W.findIn K (.ref (He.ga K x)) f) (some none)
/-- classes by name, with their slots in order -/
abbrev SlTab := List (Str × List Str)
def btys : List String := ["NoneType", "bool", "int", "str", "tuple", "list", "dict"]
def slotB (K : PySem.W.Frag) (c f : Str) (i : Nat) : Bool := match PySem.W.findIn K (.ref (He.ga K c)) f with
  | some (some (.ref p)) => decide (PySem.W.specialIn K (.ref p) "__get__" = some (some (.builtin "member_descriptor.__get__"))) && (decide (PySem.W.takesIn K (.ref p) = some true) && (decide (PySem.W.typeIn K (.ref p) = some (.type "member_descriptor")) && (decide (PySem.W.slotIn K p (He.ga K c) = some i) && decide (i < 1000))))
  | _ => false
def clsB (K : PySem.W.Frag) (T : SlTab) : Bool := T.all fun p =>
  (PySem.W.plainGet K (He.ga K p.1) Str.empty && (PySem.W.isClsIn K (He.ga K p.1) && (PySem.W.plainOver K (He.ga K p.1) && decide (PySem.W.findIn K (.ref (He.ga K p.1)) "__setattr__" = some (some (.builtin "object.__setattr__")))))) &&
  ((decide (PySem.W.findIn K (.ref (He.ga K p.1)) "__class__" = some (some (.builtin "object.__class__"))) && (decide (PySem.W.specialIn K (.builtin "object.__class__") "__get__" = some (some (.builtin "getset_descriptor.__get__"))) &&
    (decide (PySem.W.takesIn K (.builtin "object.__class__") = some true) && decide (PySem.W.mroIn K (He.ga K p.1) (.type "object") = some true)))) &&
  ((p.2.zipIdx.all fun q => slotB K p.1 q.1 q.2) &&
  ((btys.all fun n => decide (PySem.W.kitOne K (.ref (He.ga K p.1)) (.type n) = some false) && decide (PySem.W.kitOne K (.type n) (.ref (He.ga K p.1)) = some false)) &&
  (T.all fun q => decide (PySem.W.kitOne K (.ref (He.ga K p.1)) (.ref (He.ga K q.1)) = some (decide (p.1 = q.1)))))))
/-- what the exceptions are: own, built-in ancestors; what is asked; what they keep -/
structure ExTab where
  own : List (Str × List Str × List String)
  ys : List Str
  ns : List String
  fl : List (Str × Str)
def exCB (K : PySem.W.Frag) (C : Addr) : Bool :=
  (decide (PySem.W.findIn K (.ref C) "__getattribute__" = some (some (.builtin "BaseException.__getattribute__"))) && (decide (PySem.W.findIn K (.ref C) "__getattr__" = some none) && (decide (PySem.W.subIn K (.ref C) (.type "BaseException") = some true) && PySem.W.hasDictIn K C))) &&
  (decide (PySem.W.findIn K (.ref C) "__class__" = some (some (.builtin "object.__class__"))) && (decide (PySem.W.specialIn K (.builtin "object.__class__") "__get__" = some (some (.builtin "getset_descriptor.__get__"))) && (decide (PySem.W.takesIn K (.builtin "object.__class__") = some true) && decide (PySem.W.mroIn K C (.type "object") = some true))))
def exTB (K : PySem.W.Frag) (T : ExTab) : Bool :=
  (T.own.all fun p => exCB K (He.ga K p.1) && ((T.ys.all fun y => decide (PySem.W.kitOne K (.ref (He.ga K p.1)) (.ref (He.ga K y)) = some (p.2.1.contains y))) && (T.ns.all fun n => decide (PySem.W.kitOne K (.ref (He.ga K p.1)) (.type n) = some (p.2.2.contains n))))) &&
  (T.fl.all fun p => exCB K (He.ga K p.1) && decide (PySem.W.findIn K (.ref (He.ga K p.1)) p.2 = some none))
end DL
namespace DL
open PySem PySem.Spec PyProof.Rows L2
def ringF (g : Addr → Option Obj) : Nat → List Addr → List Addr
  | 0, f => f
  | n + 1, f => f ++ ringF g n (f.flatMap fun a => match g a with
    | some o => He.refsD o
    | none => [])
def Look.frag2 (L : Look) (n : Nat) (g : Addr → Option Obj) : PySem.W.Frag := He.frT g (cStatics :: ringF g n [mainGlobals])
theorem Look.says_of2 {L : Look} {h : Heap} {as : List Addr} (e : L.obs h.get? (He.frT h.get? as) = L.val) : L.Says h (He.frT h.get? as) := by
  have e1 := congrArg (fun z : AlL => z.1) e
  have e2 := congrArg (fun z : AlL => z.2.1) e
  have e3 := congrArg (fun z : AlL => z.2.2) e
  simp only [Look.obs, Look.val, Bool.and_eq_true] at e1 e2 e3
  obtain ⟨a1, a2, a3, a4, a5⟩ := e1
  have tab : ∀ p ∈ L.tf, PySem.W.codeHdIn (He.frT h.get? as) (He.cT (He.frT h.get? as) p).1 (He.cT (He.frT h.get? as) p).2 = true ∧ ∃ o, h.get? (He.cT (He.frT h.get? as) p).2 = some o ∧ He.emptyTab o = true := fun p hp => by
    have z := List.all_eq_true.mp a5 p hp
    simp only [Bool.and_eq_true] at z
    refine ⟨z.1, ?_⟩
    cases q : h.get? (He.cT (He.frT h.get? as) p).2 with
    | none => rw [q] at z; cases z.2
    | some o => rw [q] at z; exact ⟨o, rfl, z.2⟩
  exact ⟨List.all_eq_true.mp a1, fun d hd => He.DefD.funD (map_eq_mem e2 d hd) (List.all_eq_true.mp a2 d hd), fun d hd => ⟨map_eq_mem e3 d hd, List.all_eq_true.mp a3 d hd⟩, a4, fun p hp => (tab p hp).1,
    fun p hp => let ⟨_, o, q, z⟩ := tab p hp; He.frT_none q z, fun p hp => let ⟨_, o, q, z⟩ := tab p hp; by rw [q, He.emptyTab_eq z]⟩
def Look.hook2 (L : Look) (n : Nat) : PySem.W.Hook where
  α := AlL
  obs := fun s => L.obs s.heap.get? (L.frag2 n s.heap.get?)
  val := fun _ => L.val
  says := fun _ h => ∃ K : PySem.W.Frag, K.In h ∧ L.Says h K
  of := fun _ _ e => ⟨_, He.frT_in, Look.says_of2 e⟩
  keeps := fun _ _ _ ⟨K, hK, c⟩ k => ⟨K, PySem.W.Frag.In.keeps hK k, ⟨c.fa, c.fn, c.ins, c.ex, c.hd, c.out, fun p hp => k _ _ (c.empty p hp)⟩⟩
theorem Look.obs_eq2 {L : Look} {n : Nat} {g : Addr → Option Obj} {s : Shared} (h : ∀ a, g a = s.heap.get? a) : L.obs g (L.frag2 n g) = (L.hook2 n).obs s := by
  have e : g = s.heap.get? := funext h
  rw [e] <;> rfl
end DL
noncomputable section
namespace DL
open PySem PySem.Spec PyProof.Rows L2 PySem.W PySem.Calls HandSHeadRun
/-- the state behind the top's run, looked at by f, is v -/
def RunF {α : Type} (r : OpenRow) (M : Nat) (w : World) (f : SharedT → α) (v : α) : Prop :=
  ∀ os : OsState, (endF (stepQ (denQ tabQ) r.prog w) M r.prog w os).map f = some v
theorem RunF.at_ {α : Type} {r : OpenRow} {M : Nat} {w : World} {f : SharedT → α} {v : α} (x : RunF r M w f v) {os : OsState} {s : SharedT} (e : endF (stepQ (denQ tabQ) r.prog w) M r.prog w os = some s) : f s = v := by
  have x := x os
  rw [e] at x
  exact Option.some.inj x
theorem all_cut {α : Type} (p : α → Bool) (l : List α) (i : Nat) (a : (l.take i).all p = true) (b : (l.drop i).all p = true) : l.all p = true := by
  rw [← List.take_append_drop i l, List.all_append, a, b]; rfl
theorem map_cut {α β : Type} (p q : α → β) (l : List α) (i : Nat) (a : (l.take i).map p = (l.take i).map q) (b : (l.drop i).map p = (l.drop i).map q) : l.map p = l.map q := by
  rw [← List.take_append_drop i l, List.map_append, List.map_append, a, b]
def Look.ob2 (L : Look) (N : Nat) (s : SharedT) : AlL := L.obs (getT s) (L.frag2 N (getT s))
def Look.part1 (r : OpenRow) (q : Program) (loose : List PySem.Str) (w : World) (s : SharedT) :=
  (looksF r.prog (boot_heap w.params) s.abs, seenQ q loose (importedModules r.prog.main.body) (fun s => xlAt q [] s && recOk r.toRowW.records s) s.abs)
def Look.part2 (L : Look) (N : Nat) (s : SharedT) :=
  (L.ins.all (fun d => d.ok L.file (L.frag2 N (getT s))), L.ins.map (fun d => d.obs (L.frag2 N (getT s))), L.ex (L.frag2 N (getT s)) && He.tabsB (getT s) L.tf (L.frag2 N (getT s)))
def Look.val2 (L : Look) := (true, L.ins.map InitD.val, true)
def faP (l : List He.Fa) (L : Look) (N : Nat) (s : SharedT) : Bool := l.all fun f => f.ok (L.frag2 N (getT s))
def fnP (l : List He.DefD) (L : Look) (N : Nat) (s : SharedT) := (l.all (fun d => d.ok (L.frag2 N (getT s))), l.map fun d => He.fnW (L.frag2 N (getT s)) d.at_)
theorem RunF.fa_cut {L : Look} {N M : Nat} {r : OpenRow} {w : World} {l : List He.Fa} (i : Nat) (p : RunF r M w (faP (l.take i) L N) true) (p' : RunF r M w (faP (l.drop i) L N) true) : RunF r M w (faP l L N) true := fun os => by
  cases e : endF (stepQ (denQ tabQ) r.prog w) M r.prog w os with
  | none => have x := p os; rw [e] at x; cases x
  | some s => exact congrArg some (all_cut _ l i (p.at_ e) (p'.at_ e))
theorem RunF.fn_cut {L : Look} {N M : Nat} {r : OpenRow} {w : World} {l : List He.DefD} (i : Nat) (p : RunF r M w (fnP (l.take i) L N) (true, (l.take i).map He.DefD.val)) (p' : RunF r M w (fnP (l.drop i) L N) (true, (l.drop i).map He.DefD.val)) : RunF r M w (fnP l L N) (true, l.map He.DefD.val) := fun os => by
  cases e : endF (stepQ (denQ tabQ) r.prog w) M r.prog w os with
  | none => have x := p os; rw [e] at x; cases x
  | some s =>
    have c := p.at_ e
    have d := p'.at_ e
    simp only [fnP, Prod.mk.injEq] at c d
    exact congrArg some (Prod.ext (all_cut _ l i c.1 d.1) (map_cut _ _ l i c.2 d.2))
theorem RunF.two {α β : Type} {r : OpenRow} {M : Nat} {w : World} {f : SharedT → α} {g : SharedT → β} {a : α} {b : β} (x : RunF r M w (fun s => (f s, g s)) (a, b)) : RunF r M w f a ∧ RunF r M w g b := by
  constructor
  · intro os
    cases e : endF (stepQ (denQ tabQ) r.prog w) M r.prog w os with
    | none => have y := x os; rw [e] at y; cases y
    | some s => exact congrArg some (congrArg Prod.fst (x.at_ e))
  · intro os
    cases e : endF (stepQ (denQ tabQ) r.prog w) M r.prog w os with
    | none => have y := x os; rw [e] at y; cases y
    | some s => exact congrArg some (congrArg Prod.snd (x.at_ e))
theorem Look.run_of {L : Look} {N M : Nat} {r : OpenRow} {q : Program} {loose : List PySem.Str} {w : World}
    (p0 : RunF r M w (Look.part1 r q loose w) (true, openGood q loose)) (p1 : RunF r M w (L.part2 N) L.val2) (p2 : RunF r M w (faP L.fa L N) true) (p3 : RunF r M w (fnP L.fn L N) (true, L.fn.map He.DefD.val)) :
    RunEq r q (L.hook2 N) (L.ob2 N) M loose w := fun os => by
  cases e : endF (stepQ (denQ tabQ) r.prog w) M r.prog w os with
  | none => have x := p1 os; rw [e] at x; cases x
  | some s =>
    have a0 := p0.at_ e
    have a := p1.at_ e
    have b := p2.at_ e
    have c := p3.at_ e
    simp only [Look.part1, Prod.mk.injEq] at a0
    simp only [Look.part2, Look.val2, Prod.mk.injEq] at a
    simp only [fnP, Prod.mk.injEq] at c
    obtain ⟨a1, a2⟩ := a0
    obtain ⟨a3, a4, a5⟩ := a
    have b1 : L.fa.all (fun f => f.ok (L.frag2 N (getT s))) = true := b
    have z : L.ob2 N s = L.val := by
      unfold Look.ob2 Look.obs Look.val
      rw [b1, c.1, c.2, a3, a4, a5]
      rfl
    show some (_, _, _) = some (_, _, _)
    rw [a1, a2, z]
    rfl
theorem Look.ob2_eq {L : Look} {N : Nat} (s : SharedT) : L.ob2 N s = (L.hook2 N).obs s.abs := Look.obs_eq2 (getT_eq s)
end DL
namespace DL
open PySem PySem.Spec PyProof.Rows L2
def gtA (K : PySem.W.Frag) (p : Str × Option Str) : Addr := match PySem.W.recIn K (He.fAd K p) "property" with
  | some (.ref g :: _) => g
  | _ => 0
def gnW (K : PySem.W.Frag) (p : Str × Option Str) : He.FnW := match K.lookup (gtA K p) with
  | some ⟨_, _, .func w, _⟩ => some (w.name, w.qualname, w.params, w.body, w.scope, w.globals, w.closure, w.builtins)
  | _ => none
def gtB (K : PySem.W.Frag) (d : He.DefD) : Bool :=
  ((PySem.W.keepIn K (.ref (gtA K d.at_)) && match K.lookup (gtA K d.at_) with
    | some ⟨_, _, .func w, _⟩ => PySem.W.codeIn K w.code d.qual && (He.dflB K w.defaults (d.dvs K) && He.kwdB K w.kwdefaults (d.kws K))
    | _ => false) && (He.eqO (PySem.W.findIn K (.ref (He.ga K d.at_.1)) (d.at_.2.getD "")) (some (some (.ref (He.fAd K d.at_)))) && He.eqO (PySem.W.specialIn K (.ref (He.fAd K d.at_)) "__get__") (some (some (.builtin "property.__get__"))))) &&
  (decide (PySem.W.takesIn K (.ref (He.fAd K d.at_)) = some true) && match PySem.W.recIn K (He.fAd K d.at_) "property" with
    | some (.ref g :: _) => g == gtA K d.at_
    | _ => false)
structure GetD (K : PySem.W.Frag) (d : He.DefD) (fd : FuncData) : Prop where
  fn : FunD K d.name d.qual d.params d.body d.scope (d.dvs K) (d.kws K) (gtA K d.at_) fd
  at_ : PySem.W.findIn K (.ref (He.ga K d.at_.1)) (d.at_.2.getD "") = some (some (.ref (He.fAd K d.at_)))
  get : PySem.W.specialIn K (.ref (He.fAd K d.at_)) "__get__" = some (some (.builtin "property.__get__"))
  tk : PySem.W.takesIn K (.ref (He.fAd K d.at_)) = some true
  rc : ∃ rest, PySem.W.recIn K (He.fAd K d.at_) "property" = some (.ref (gtA K d.at_) :: rest)
theorem get_of {K : PySem.W.Frag} {d : He.DefD} (e : gnW K d.at_ = d.val) (c : gtB K d = true) : ∃ fd, GetD K d fd := by
  unfold gtB at c
  simp only [Bool.and_eq_true, decide_eq_true_eq] at c
  obtain ⟨⟨⟨c1, c2⟩, c3, c4⟩, c5, c6⟩ := c
  have rc : ∃ rest, PySem.W.recIn K (He.fAd K d.at_) "property" = some (.ref (gtA K d.at_) :: rest) := by
    cases q : PySem.W.recIn K (He.fAd K d.at_) "property" with
    | none => rw [q] at c6; cases c6
    | some l =>
      rw [q] at c6
      cases l with
      | nil => cases c6
      | cons v r =>
        cases v with
        | ref g =>
          have : g = gtA K d.at_ := by simpa using c6
          rw [this]
          exact ⟨r, rfl⟩
        | _ => cases c6
  unfold gnW at e
  cases q : K.lookup (gtA K d.at_) with
  | none => rw [q] at c2; cases c2
  | some ob =>
    obtain ⟨o1, o2, o3, o4⟩ := ob
    rw [q] at c2 e
    cases o3 with
    | func w =>
      obtain ⟨m1, m2, m3, m4, m5, m6, m7, m8, m9, m10, m11, m12, m13, m14, m15⟩ := w
      have e2 : (some (m1, m2, m3, m4, m5, m6, m7, m15) : He.FnW) = d.val := e
      unfold He.DefD.val at e2
      simp only [Option.some.injEq, Prod.mk.injEq] at e2
      obtain ⟨g1, g2, g3, g4, g5, g6, g7, g8⟩ := e2
      subst g1 g2 g3 g4 g5 g6 g7 g8
      simp only [Bool.and_eq_true] at c2
      exact ⟨_, ⟨⟨o1, o2, m8, m9, m10, m11, m12, m13, m14, o4, rfl, q, c2.1, He.dflB_ok c2.2.1, He.kwdB_ok c2.2.2⟩, c1⟩, He.eqO_ok c3, He.eqO_ok c4, c5, rc⟩
    | _ => cases c2
structure LookP extends Look where
  pr : List He.DefD
abbrev AlP : Type := AlL × Bool × List He.FnW
def LookP.frag3 (L : LookP) (n : Nat) (g : Addr → Option Obj) : PySem.W.Frag := He.frT g (cStatics :: sysModules :: ringF g n [mainGlobals])
def LookP.prO (L : LookP) (K : PySem.W.Frag) : Bool × List He.FnW := (L.pr.all (gtB K) && (K.lookup sysModules).isSome, L.pr.map fun d => gnW K d.at_)
def LookP.prV (L : LookP) : Bool × List He.FnW := (true, L.pr.map He.DefD.val)
structure LookP.Says (L : LookP) (h : Heap) (K : PySem.W.Frag) : Prop extends L.toLook.Says h K where
  pr : ∀ d ∈ L.pr, ∃ fd, GetD K d fd
  sys : (K.lookup sysModules).isSome = true
theorem LookP.says_of {L : LookP} {h : Heap} {as : List Addr} (e : (L.toLook.obs h.get? (He.frT h.get? as), L.prO (He.frT h.get? as)) = (L.toLook.val, L.prV)) : L.Says h (He.frT h.get? as) := by
  have e1 := congrArg Prod.fst e
  have e2 := congrArg (fun z : AlP => z.2.1) e
  have e3 := congrArg (fun z : AlP => z.2.2) e
  simp only [LookP.prO, LookP.prV, Bool.and_eq_true] at e2 e3
  exact { Look.says_of2 e1 with pr := fun d hd => get_of (map_eq_mem e3 d hd) (List.all_eq_true.mp e2.1 d hd), sys := e2.2 }
def LookP.hook (L : LookP) (n : Nat) : PySem.W.Hook where
  α := AlP
  obs := fun s => (L.toLook.obs s.heap.get? (L.frag3 n s.heap.get?), L.prO (L.frag3 n s.heap.get?))
  val := fun _ => (L.toLook.val, L.prV)
  says := fun _ h => ∃ K : PySem.W.Frag, K.In h ∧ L.Says h K
  of := fun _ _ e => ⟨_, He.frT_in, LookP.says_of e⟩
  keeps := fun _ _ _ ⟨K, hK, c⟩ k => ⟨K, PySem.W.Frag.In.keeps hK k, { fa := c.fa, fn := c.fn, ins := c.ins, ex := c.ex, hd := c.hd, out := c.out, empty := fun p hp => k _ _ (c.empty p hp), pr := c.pr, sys := c.sys }⟩
theorem LookP.obs_eq {L : LookP} {n : Nat} {g : Addr → Option Obj} {s : Shared} (h : ∀ a, g a = s.heap.get? a) : (L.toLook.obs g (L.frag3 n g), L.prO (L.frag3 n g)) = (L.hook n).obs s := by
  have e : g = s.heap.get? := funext h
  rw [e] <;> rfl
noncomputable section
open PySem.W PySem.Calls HandSHeadRun
def LookP.ob (L : LookP) (N : Nat) (s : SharedT) : AlP := (L.toLook.obs (getT s) (L.frag3 N (getT s)), L.prO (L.frag3 N (getT s)))
def LookP.part2 (L : LookP) (N : Nat) (s : SharedT) :=
  (L.ins.all (fun d => d.ok L.file (L.frag3 N (getT s))), L.ins.map (fun d => d.obs (L.frag3 N (getT s))), L.ex (L.frag3 N (getT s)) && He.tabsB (getT s) L.tf (L.frag3 N (getT s)), L.prO (L.frag3 N (getT s)))
def LookP.val2 (L : LookP) := (true, L.ins.map InitD.val, true, L.prV)
def faQ (l : List He.Fa) (L : LookP) (N : Nat) (s : SharedT) : Bool := l.all fun f => f.ok (L.frag3 N (getT s))
def fnQ (l : List He.DefD) (L : LookP) (N : Nat) (s : SharedT) := (l.all (fun d => d.ok (L.frag3 N (getT s))), l.map fun d => He.fnW (L.frag3 N (getT s)) d.at_)
theorem RunF.faq_cut {L : LookP} {N M : Nat} {r : OpenRow} {w : World} {l : List He.Fa} (i : Nat) (p : RunF r M w (faQ (l.take i) L N) true) (p' : RunF r M w (faQ (l.drop i) L N) true) : RunF r M w (faQ l L N) true := fun os => by
  cases e : endF (stepQ (denQ tabQ) r.prog w) M r.prog w os with
  | none => have x := p os; rw [e] at x; cases x
  | some s => exact congrArg some (all_cut _ l i (p.at_ e) (p'.at_ e))
theorem RunF.fnq_cut {L : LookP} {N M : Nat} {r : OpenRow} {w : World} {l : List He.DefD} (i : Nat) (p : RunF r M w (fnQ (l.take i) L N) (true, (l.take i).map He.DefD.val)) (p' : RunF r M w (fnQ (l.drop i) L N) (true, (l.drop i).map He.DefD.val)) : RunF r M w (fnQ l L N) (true, l.map He.DefD.val) := fun os => by
  cases e : endF (stepQ (denQ tabQ) r.prog w) M r.prog w os with
  | none => have x := p os; rw [e] at x; cases x
  | some s =>
    have c := p.at_ e
    have d := p'.at_ e
    simp only [fnQ, Prod.mk.injEq] at c d
    exact congrArg some (Prod.ext (all_cut _ l i c.1 d.1) (map_cut _ _ l i c.2 d.2))
theorem RunF.pair {α β : Type} {r : OpenRow} {M : Nat} {w : World} {f : SharedT → α × β} {v : α × β} (x : RunF r M w (fun s => (f s).1) v.1) (y : RunF r M w (fun s => (f s).2) v.2) : RunF r M w f v := fun os => by
  cases e : endF (stepQ (denQ tabQ) r.prog w) M r.prog w os with
  | none => have x := x os; rw [e] at x; cases x
  | some s => exact congrArg some (Prod.ext (x.at_ e) (y.at_ e))
theorem RunF.looks {r : OpenRow} {M : Nat} {w : World} {q : Program} {loose : List PySem.Str}
    (x : RunF r M w (fun s => staticsOk (importedModules r.prog.main.body) (boot_heap w.params) s.abs.heap && (gensDone s.abs && laidKept (boot_heap w.params) s.abs.heap)) true) (y : RunF r M w (fun s => namesBound r.prog s.abs.heap) true) :
    RunF r M w (fun s => (Look.part1 r q loose w s).1) true := fun os => by
  cases e : endF (stepQ (denQ tabQ) r.prog w) M r.prog w os with
  | none => have x := x os; rw [e] at x; cases x
  | some s =>
    have a := x.at_ e
    have b := y.at_ e
    simp only [Bool.and_eq_true] at a b
    refine congrArg some ?_
    show (staticsOk _ _ _ && namesBound _ _ && gensDone _ && laidKept _ _) = true
    rw [a.1, b, a.2.1, a.2.2]
    rfl
theorem LookP.run_of {L : LookP} {N M : Nat} {r : OpenRow} {q : Program} {loose : List PySem.Str} {w : World}
    (p0 : RunF r M w (Look.part1 r q loose w) (true, openGood q loose)) (p1 : RunF r M w (L.part2 N) L.val2) (p2 : RunF r M w (faQ L.fa L N) true) (p3 : RunF r M w (fnQ L.fn L N) (true, L.fn.map He.DefD.val)) :
    RunEq r q (L.hook N) (L.ob N) M loose w := fun os => by
  cases e : endF (stepQ (denQ tabQ) r.prog w) M r.prog w os with
  | none => have x := p1 os; rw [e] at x; cases x
  | some s =>
    have a0 := p0.at_ e
    have a := p1.at_ e
    have b := p2.at_ e
    have c := p3.at_ e
    simp only [Look.part1, Prod.mk.injEq] at a0
    simp only [LookP.part2, LookP.val2, Prod.mk.injEq] at a
    simp only [fnQ, Prod.mk.injEq] at c
    obtain ⟨a1, a2⟩ := a0
    obtain ⟨a3, a4, a5, a6⟩ := a
    have b1 : L.fa.all (fun f => f.ok (L.frag3 N (getT s))) = true := b
    have z : L.ob N s = (L.toLook.val, L.prV) := by
      unfold LookP.ob Look.obs Look.val
      rw [b1, c.1, c.2, a3, a4, a5, a6]
      rfl
    show some (_, _, _) = some (_, _, _)
    rw [a1, a2, z]
    rfl
theorem LookP.ob_eq {L : LookP} {N : Nat} (s : SharedT) : L.ob N s = (L.hook N).obs s.abs := LookP.obs_eq (getT_eq s)
end
end DL
set_option maxHeartbeats 0
namespace K10
open PySem PySem.Spec PyProof.Rows L2 DL
abbrev pw : Program := (PySem.Challenge.rw_shiftlaws_k10_whole_errors).prog
def topS (i : Nat) : Stmt := PySem.Challenge.pw_shiftlaws_k10_whole_errors.main.body.getD i (.Pass ⟨0, 0, 0, 0⟩)
abbrev FnP (K : PySem.W.Frag) (x q : Str) (st : Stmt) (f : Addr) (fd : FuncData) : Prop := FunD K x q (defArgs st) (defBody st) (defScope st) [] [] f fd
def iS_ParseError : Stmt := (match topS 10 with | .ClassDef _ _ _ b _ _ _ _ _ _ _ => b | _ => []).getD 0 (.Pass ⟨0, 0, 0, 0⟩)
def id_ParseError : InitD := ⟨"ParseError", defArgs iS_ParseError, defBody iS_ParseError, defScope iS_ParseError, "line", "ValueError", "ValueError.__new__", "ValueError.__init__", [.type "ValueError", .type "Exception", .type "BaseException", .type "object"]⟩
def iS_UnknownName : Stmt := (match topS 11 with | .ClassDef _ _ _ b _ _ _ _ _ _ _ => b | _ => []).getD 0 (.Pass ⟨0, 0, 0, 0⟩)
def id_UnknownName : InitD := ⟨"UnknownName", defArgs iS_UnknownName, defBody iS_UnknownName, defScope iS_UnknownName, "wanted", "KeyError", "LookupError.__new__", "KeyError.__init__", [.type "KeyError", .type "LookupError", .type "Exception", .type "BaseException", .type "object"]⟩
def iS_InvalidCount : Stmt := (match topS 12 with | .ClassDef _ _ _ b _ _ _ _ _ _ _ => b | _ => []).getD 0 (.Pass ⟨0, 0, 0, 0⟩)
def id_InvalidCount : InitD := ⟨"InvalidCount", defArgs iS_InvalidCount, defBody iS_InvalidCount, defScope iS_InvalidCount, "given", "IndexError", "IndexError.__new__", "IndexError.__init__", [.type "IndexError", .type "LookupError", .type "Exception", .type "BaseException", .type "object"]⟩
def iS_TooMany : Stmt := (match topS 13 with | .ClassDef _ _ _ b _ _ _ _ _ _ _ => b | _ => []).getD 0 (.Pass ⟨0, 0, 0, 0⟩)
def id_TooMany : InitD := ⟨"TooMany", defArgs iS_TooMany, defBody iS_TooMany, defScope iS_TooMany, "limit", "OverflowError", "OverflowError.__new__", "OverflowError.__init__", [.type "OverflowError", .type "ArithmeticError", .type "Exception", .type "BaseException", .type "object"]⟩
def iS_Refused : Stmt := (match topS 14 with | .ClassDef _ _ _ b _ _ _ _ _ _ _ => b | _ => []).getD 0 (.Pass ⟨0, 0, 0, 0⟩)
def id_Refused : InitD := ⟨"Refused", defArgs iS_Refused, defBody iS_Refused, defScope iS_Refused, "reason", "ArithmeticError", "ArithmeticError.__new__", "ArithmeticError.__init__", [.type "ArithmeticError", .type "Exception", .type "BaseException", .type "object"]⟩
def iS_NothingToUndo : Stmt := (match topS 15 with | .ClassDef _ _ _ b _ _ _ _ _ _ _ => b | _ => []).getD 0 (.Pass ⟨0, 0, 0, 0⟩)
def id_NothingToUndo : InitD := ⟨"NothingToUndo", defArgs iS_NothingToUndo, defBody iS_NothingToUndo, defScope iS_NothingToUndo, "wanted", "LookupError", "LookupError.__new__", "LookupError.__init__", [.type "LookupError", .type "Exception", .type "BaseException", .type "object"]⟩
def exT : ExTab := ⟨[("InvalidRow", ["InvalidRow", "SeriesError"], ["ValueError"]), ("InvalidLot", ["InvalidLot", "SeriesError"], ["ValueError"]), ("InvalidBook", ["InvalidBook", "SeriesError"], ["ValueError"]), ("InvalidTable", ["InvalidTable", "SeriesError"], ["ValueError"]), ("InvalidPoly", ["InvalidPoly", "SeriesError"], ["ValueError"]), ("InvalidLaw", ["InvalidLaw", "SeriesError"], ["ValueError"]), ("InvalidTale", ["InvalidTale", "SeriesError"], ["ValueError"]), ("InvalidOperation", ["InvalidOperation", "SeriesError"], ["ValueError"]), ("ParseError", ["ParseError", "SeriesError"], ["ValueError"]), ("UnknownName", ["UnknownName"], ["KeyError", "LookupError"]), ("InvalidCount", ["InvalidCount"], ["IndexError", "LookupError"]), ("TooMany", ["TooMany"], ["OverflowError", "ArithmeticError"]), ("Refused", ["Refused"], ["ArithmeticError"]), ("NothingToUndo", ["NothingToUndo"], ["LookupError"]), ("SeriesError", ["SeriesError"], ["ValueError"])], ["SeriesError", "InvalidRow", "InvalidLot", "InvalidTable", "InvalidPoly", "InvalidLaw", "InvalidBook", "InvalidTale", "InvalidOperation", "ParseError", "UnknownName", "InvalidCount", "TooMany", "Refused", "NothingToUndo"], ["ValueError", "KeyError", "IndexError", "OverflowError", "ArithmeticError", "LookupError"], [("ParseError", "line"), ("UnknownName", "wanted"), ("InvalidCount", "given"), ("TooMany", "limit"), ("Refused", "reason"), ("NothingToUndo", "wanted")]⟩
abbrev tabA (K : PySem.W.Frag) (x : Str) : Addr := He.tabOf K (codeA K (He.ga K x))
def lamN (x : Str) : Str := (envOfC x { kind := .function, names := [], isGenerator := false, isCoroutine := false } 0 0 .none).qual ++ "<lambda>"
def fns : List He.DefD := [⟨("_law_dice", none), "_law_dice", "_law_dice", defArgs (topS 17), defBody (topS 17), defScope (topS 17), [], []⟩, ⟨("_law_words", none), "_law_words", "_law_words", defArgs (topS 20), defBody (topS 20), defScope (topS 20), [], []⟩, ⟨("_law_roll", none), "_law_roll", "_law_roll", defArgs (topS 18), defBody (topS 18), defScope (topS 18), [], []⟩, ⟨("_law_pick", none), "_law_pick", "_law_pick", defArgs (topS 19), defBody (topS 19), defScope (topS 19), [], []⟩, ⟨("_law_keeping", none), "_law_keeping", "_law_keeping", defArgs (topS 22), defBody (topS 22), defScope (topS 22), [], []⟩, ⟨("_law_due", none), "_law_due", "_law_due", defArgs (topS 23), defBody (topS 23), defScope (topS 23), [], []⟩, ⟨("_law_plain", none), "_law_plain", "_law_plain", defArgs (topS 21), defBody (topS 21), defScope (topS 21), [], []⟩, ⟨("law", none), "law", "law", defArgs (topS 24), defBody (topS 24), defScope (topS 24), [], []⟩]
def fas : List He.Fa := [.glo "_law_dice", .glo "_law_words", .glo "_law_roll", .glo "_law_pick", .glo "_law_keeping", .glo "_law_due", .glo "_law_plain", .glo "law", .glo "InvalidRow", .glo "InvalidLot", .glo "InvalidBook", .glo "InvalidTable", .glo "InvalidPoly", .glo "InvalidLaw", .glo "InvalidTale", .glo "InvalidOperation", .glo "ParseError", .glo "UnknownName", .glo "InvalidCount", .glo "TooMany", .glo "Refused", .glo "NothingToUndo", .glo "SeriesError", .free "len", .free "int", .free "abs", .free "max", .free "isinstance", .free "ValueError", .free "KeyError", .free "IndexError", .free "OverflowError", .free "ArithmeticError", .free "LookupError", .free "zip", .free "super", .free "min", .free "range", .free "str", .free "repr", .exc "InvalidRow", .exc "InvalidLot", .exc "InvalidBook", .exc "InvalidTable", .exc "InvalidPoly", .exc "InvalidLaw", .exc "InvalidTale", .exc "InvalidOperation", .exc "SeriesError"]
def exs (K : PySem.W.Frag) : List Bool := [exTB K exT]
def exB (K : PySem.W.Frag) : Bool := (exs K).all id
def look : LookP := { n := 4, fa := fas, fn := fns, ins := [id_ParseError, id_UnknownName, id_InvalidCount, id_TooMany, id_Refused, id_NothingToUndo], tf := [], file := PySem.Challenge.pw_shiftlaws_k10_whole_errors.main.file, ex := exB, pr := [] }
end K10
namespace K10
noncomputable section
open PySem PySem.Spec PyProof.Rows L2 DL
abbrev R : PySem.W.OpenRow := PySem.W.OpenLaw.row PySem.Challenge.rw_shiftlaws_k10_whole_errors
abbrev hk : PySem.W.Hook := look.hook 4
abbrev ob (s : PySem.W.SharedT) : DL.AlP := look.ob 4 s
theorem ob_eq (s : PySem.W.SharedT) : ob s = hk.obs s.abs := LookP.ob_eq s
def loose : List Str := (["SeriesError", "InvalidRow", "InvalidLot", "InvalidTable", "InvalidPoly", "InvalidLaw", "InvalidBook", "InvalidTale", "InvalidOperation", "ParseError", "UnknownName", "InvalidCount"] : List Str) ++ (["TooMany", "Refused", "NothingToUndo", "_law_dice", "_law_roll", "_law_pick", "_law_words", "_law_plain", "_law_keeping", "_law_due"] : List Str)
theorem early (h : (PySem.Challenge.rw_shiftlaws_k10_whole_errors).row.wellSaid = true → (PySem.Challenge.rw_shiftlaws_k10_whole_errors).row.Holds) : (PySem.Challenge.rw_shiftlaws_k10_whole_errors).Holds := by
  o_law
  exact h (by assumption)
theorem end_b : R.prog.bare := ⟨rfl, rfl, rfl, rfl, rfl, by decide +kernel⟩
theorem run1a (w : World) : RunF R 40000 w (fun s => PySem.W.staticsOk (PySem.importedModules R.prog.main.body) (PySem.W.boot_heap w.params) s.abs.heap && (PySem.W.gensDone s.abs && PySem.W.laidKept (PySem.W.boot_heap w.params) s.abs.heap)) true := by
  intro os
  kernel_rfl
theorem run1b (w : World) : RunF R 40000 w (fun s => PySem.W.namesBound R.prog s.abs.heap) true := by
  intro os
  kernel_rfl
theorem run1c (w : World) : RunF R 40000 w (fun s => (Look.part1 R (PySem.W.view R.prog [24]) loose w s).2.1) (PySem.W.openGood (PySem.W.view R.prog [24]) loose).1 := by
  intro os
  kernel_rfl
theorem run1d (w : World) : RunF R 40000 w (fun s => (Look.part1 R (PySem.W.view R.prog [24]) loose w s).2.2) (PySem.W.openGood (PySem.W.view R.prog [24]) loose).2 := by
  intro os
  kernel_rfl
theorem run1 (w : World) : RunF R 40000 w (Look.part1 R (PySem.W.view R.prog [24]) loose w) (true, PySem.W.openGood (PySem.W.view R.prog [24]) loose) :=
  RunF.pair (f := Look.part1 R (PySem.W.view R.prog [24]) loose w) (v := (true, PySem.W.openGood (PySem.W.view R.prog [24]) loose)) (RunF.looks (q := (PySem.W.view R.prog [24])) (loose := loose) (run1a w) (run1b w)) (RunF.pair (f := fun s => (Look.part1 R (PySem.W.view R.prog [24]) loose w s).2) (v := PySem.W.openGood (PySem.W.view R.prog [24]) loose) (run1c w) (run1d w))
theorem run2 (w : World) : RunF R 40000 w (fun s => (look.part2 4 s, faQ look.fa look 4 s)) (look.val2, true) := by
  intro os
  kernel_rfl
theorem run_fn1 (w : World) : RunF R 40000 w (fnQ (look.fn.take 4) look 4) (true, (look.fn.take 4).map He.DefD.val) := by
  intro os
  kernel_rfl
theorem run_fn2 (w : World) : RunF R 40000 w (fnQ (look.fn.drop 4) look 4) (true, (look.fn.drop 4).map He.DefD.val) := by
  intro os
  kernel_rfl
theorem run (w : World) : HandSHeadRun.RunEq R (PySem.W.view R.prog [24]) hk ob 40000 loose w := LookP.run_of (run1 w) (run2 w).two.1 (run2 w).two.2 (.fnq_cut 4 (run_fn1 w) (run_fn2 w))
end
end K10
set_option maxHeartbeats 4000000
namespace DL
open PySem PySem.Spec PyProof.Rows L2
/-- what may change -/
inductive Cell where
  | lst (ds : List D) | dic (kvs : List (Key × D)) | dik (kvs : List (Key × D)) | ins (c : Str) (fs : List (Option D))
  deriving Inhabited
abbrev Store := List Cell
abbrev DEnv := List (Option D)
abbrev Sg := L2.St
/-- the written part, and addresses that no data stands at -/
structure KB where
  K : PySem.W.Frag
  B : List Addr
def TK (K : PySem.W.Frag) (a : Addr) (xs : List V) : Prop :=
  ∃ (o : Obj) (its : Array Value) (n : Nat), K.lookup a = some o ∧ o.cls = .type "tuple" ∧ o.data = .seq its n ∧ its.size ≤ sizeLine ∧ Vals xs its.toList
def LK (K : PySem.W.Frag) (a : Addr) (xs : List V) : Prop :=
  ∃ (o : Obj) (its : Array Value) (n : Nat), K.lookup a = some o ∧ o.cls = .type "list" ∧ o.dict = none ∧ o.data = .seq its n ∧ its.size ≤ sizeLine ∧ Vals xs its.toList
/-- an exception's object, never in the air -/
def ExO (a C : Addr) (od : Option Addr) : HO := .ext fun h => ∃ (oe : Obj) (vs : Array Value), h.get? a = some oe ∧ Zc (.ref C) od oe ∧ oe.data = .fields vs
def exD (dx : Addr) : List V → Option Addr
  | [] => none
  | _ => some dx
/-- .. of the class at C, what it keeps -/
def ExS (H : Hp) (a C : Addr) (f : Str) (dx : Addr) (vs : List V) : Prop := H a = some (ExO a C (exD dx vs)) ∧ ((vs = [] ∧ dx = a) ∨ H dx = some (.xd (vs.map fun v => (f, v))))
theorem exO_tbl {a C : Addr} {od : Option Addr} : ∀ ps, ExO a C od ≠ .tbl ps := fun ps z => by unfold ExO at z; cases z
theorem ExS.dx {H : Hp} {a C : Addr} {f : Str} {dx : Addr} {vs : List V} (h : ExS H a C f dx vs) : ∃ o, H dx = some o ∧ ∀ ps, o ≠ .tbl ps := by
  rcases h with ⟨h1, ⟨_, rfl⟩ | h2⟩
  · exact ⟨_, h1, exO_tbl⟩
  · exact ⟨_, h2, fun _ z => nomatch z⟩
theorem ExS.imp {H H' : Hp} {a C : Addr} {f : Str} {dx : Addr} {vs : List V} (h : ExS H a C f dx vs) (k1 : ∀ o, H a = some o → (∀ ps, o ≠ .tbl ps) → H' a = some o) (k2 : ∀ o, H dx = some o → (∀ ps, o ≠ .tbl ps) → H' dx = some o) : ExS H' a C f dx vs := by
  obtain ⟨h1, h2⟩ := h
  refine ⟨k1 _ h1 exO_tbl, ?_⟩
  rcases h2 with h2 | h2
  · exact .inl h2
  · exact .inr (k2 _ h2 fun _ z => nomatch z)
mutual
def Rep (K : KB) (H : Hp) (m : List Addr) : D → V → Prop
  | .non, v => v = .non
  | .bl b, v => v = .bl b
  | .int i, v => v = .int i
  | .str x, v => v = .str x
  | .ty n, v => v = .ty n
  | .ob a, v => v = .ref a
  | .tup ds, v => ∃ a vs, v = .ref a ∧ ((Rd H a (.tup vs) ∧ a ∉ m ∧ a ∉ K.B) ∨ TK K.K a vs) ∧ RepL K H m ds vs
  | .lst ds, v => ∃ a vs, v = .ref a ∧ (H a = some (.lst vs) ∧ a ∉ m ∧ a ∉ K.B) ∧ RepL K H m ds vs
  | .rol ds, v => ∃ a vs, v = .ref a ∧ (((∃ o, H a = some (.frz o (.lst vs))) ∧ a ∉ m ∧ a ∉ K.B) ∨ LK K.K a vs) ∧ RepL K H m ds vs
  | .loc l, v => ∃ a, v = .ref a ∧ m[l]? = some a
  | .fn x, v => v = .ref (He.ga K.K x)
  | .dct ks ds, v => ∃ a vs, v = .ref a ∧ (∃ o, H a = some (.frz o (.dK (ks.zip vs)))) ∧ ks.length = ds.length ∧ RepL K H m ds vs
  | .obj c ds, v => ∃ a dx vs, v = .ref a ∧ (H a = some (SlX.SlO a (He.ga K.K c) dx (vs.map some)) ∧ H dx = some (.xd []) ∧ a ∉ m ∧ a ∉ K.B ∧ dx ∉ m ∧ dx ∉ K.B) ∧ RepL K H m ds vs
  | .exo c f ds, v => ∃ a dx vs, v = .ref a ∧ (ExS H a (He.ga K.K c) f dx vs ∧ a ∉ m ∧ a ∉ K.B ∧ dx ∉ m ∧ dx ∉ K.B) ∧ RepL K H m ds vs
def RepL (K : KB) (H : Hp) (m : List Addr) : List D → List V → Prop
  | [], vs => vs = []
  | d :: ds, vs => ∃ v r, vs = v :: r ∧ Rep K H m d v ∧ RepL K H m ds r
end
def RepP {κ : Type} (K : KB) (H : Hp) (m : List Addr) : List (κ × D) → List (κ × V) → Prop
  | [], vs => vs = []
  | (k, d) :: ds, vs => ∃ v r, vs = (k, v) :: r ∧ Rep K H m d v ∧ RepP K H m ds r
def RepO (K : KB) (H : Hp) (m : List Addr) : List (Option D) → List (Option V) → Prop
  | [], vs => vs = []
  | none :: ds, vs => ∃ r, vs = none :: r ∧ RepO K H m ds r
  | some d :: ds, vs => ∃ v r, vs = some v :: r ∧ Rep K H m d v ∧ RepO K H m ds r
def RepC (K : KB) (H : Hp) (m : List Addr) : Cell → Addr → Prop
  | .lst ds, a => ∃ vs, H a = some (.lst vs) ∧ RepL K H m ds vs
  | .dic kvs, a => ∃ vs, H a = some (.dK vs) ∧ RepP K H m kvs vs
  | .dik kvs, a => ∃ o vs, H a = some (.frz o (.dK vs)) ∧ RepP K H m kvs vs
  | .ins c fs, a => ∃ dx vs, H a = some (SlX.SlO a (He.ga K.K c) dx vs) ∧ H dx = some (.xd []) ∧ dx ∉ m ∧ dx ∉ K.B ∧ RepO K H m fs vs
/-- the tables in which the code objects of lambdas are kept, by the written part: told once for a whole law -/
class TabsCtx where
  T : List (Addr × Str)
variable [TabsCtx]
/-- the table at P stands, all that it tells bears the name q -/
def TabM (H : Hp) (m : List Addr) (P : Addr) (q : Str) : Prop :=
  ∃ ps : Array Value, H P = some (.tbl ps) ∧ P ∉ m ∧ TriplesOk ps.toList ∧ ∀ (pos : Pos) (cv : Value), codeAmong pos ps.toList = some cv → ∃ c, cv = .ref c ∧ H c = some (LamX.CodeO c q) ∧ c ∉ m
theorem TabM.tabS {H : Hp} {m : List Addr} {P : Addr} {q : Str} (t : TabM H m P q) : LamX.TabS H P q := by
  obtain ⟨ps, h1, _, h2, h3⟩ := t
  exact ⟨ps, h1, h2, fun pos cv hc => let ⟨c, e1, e2, _⟩ := h3 pos cv hc; ⟨c, e1, e2⟩⟩
theorem TabM.keepAll {H H' : Hp} {m m' : List Addr} {P : Addr} {q : Str} (k : ∀ a o, H a = some o → a ∉ m → H' a = some o ∧ a ∉ m') (t : TabM H m P q) : TabM H' m' P q := by
  obtain ⟨ps, h1, n1, h2, h3⟩ := t
  obtain ⟨h1', n1'⟩ := k _ _ h1 n1
  exact ⟨ps, h1', n1', h2, fun pos cv hc => let ⟨c, e1, e2, n2⟩ := h3 pos cv hc; ⟨c, e1, k _ _ e2 n2⟩⟩
structure RepSt (K : KB) (H : Hp) (m : List Addr) (st : Store) : Prop where
  ban : ∀ b ∈ K.B, (∃ o, H b = some o ∧ ∀ ps, o ≠ .tbl ps) ∧ b ∉ m
  len : m.length = st.length
  nd : m.Nodup
  cell : ∀ (l : Nat) (c : Cell), st[l]? = some c → ∃ a, m[l]? = some a ∧ RepC K H m c a
  tabs : ∀ p ∈ TabsCtx.T, TabM H m p.1 p.2
structure RepE (K : KB) (H : Hp) (m : List Addr) (ρ : DEnv) (σ : Sg) : Prop where
  len : ρ.length = σ.length
  val : ∀ (i : Nat) (d : D), ρ[i]? = some (some d) → ∃ v, σ[i]? = some (some v) ∧ Rep K H m d v
structure Evo (H : Hp) (m : List Addr) (H' : Hp) (m' : List Addr) : Prop where
  ext : ∃ e, m' = m ++ e
  keep : ∀ a o, H a = some o → a ∉ m → (∀ ps, o ≠ .tbl ps) → H' a = some o ∧ a ∉ m'
  tabs : ∀ p ∈ TabsCtx.T, TabM H m p.1 p.2 → TabM H' m' p.1 p.2
  frz : ∀ a o u, H a = some (.frz o u) → H' a = some (.frz o u)
theorem Evo.of {H H' : Hp} {m m' : List Addr} (e : ∃ e, m' = m ++ e) (k : ∀ a o, H a = some o → a ∉ m → H' a = some o ∧ a ∉ m') (f : ∀ a o u, H a = some (.frz o u) → H' a = some (.frz o u)) : Evo H m H' m' := ⟨e, fun a o h n _ => k a o h n, fun _ _ t => t.keepAll k, f⟩
section
variable {K : KB} {H H' H1 H2 : Hp} {m m' m1 m2 : List Addr}
theorem Evo.refl : Evo H m H m := .of ⟨[], by simp⟩ (fun _ _ h n => ⟨h, n⟩) fun _ _ _ h => h
theorem Evo.trans (a : Evo H m H1 m1) (b : Evo H1 m1 H2 m2) : Evo H m H2 m2 := by
  obtain ⟨⟨e, rfl⟩, k, t, f⟩ := a
  obtain ⟨⟨e', rfl⟩, k', t', f'⟩ := b
  exact ⟨⟨e ++ e', by rw [List.append_assoc]⟩, fun a o h n z => let ⟨h1, n1⟩ := k a o h n z; k' a o h1 n1 z, fun p hp x => t' p hp (t p hp x), fun a o u h => f' a o u (f a o u h)⟩
/-- everything tracked stands -/
def Grow (H H' : Hp) : Prop := ∀ a o, H a = some o → H' a = some o
theorem Grow.refl : Grow H H := fun _ _ h => h
theorem Grow.trans (a : Grow H H1) (b : Grow H1 H2) : Grow H H2 := fun x o h => b x o (a x o h)
theorem Grow.evo (g : Grow H H') : Evo H m H' m := .of ⟨[], by simp⟩ (fun a o h n => ⟨g a o h, n⟩) fun a o u h => g a _ h
theorem Grow.upd {p : Addr} {o : HO} (h : H p = none) : Grow H (upd H p o) := fun a u e => by rw [upd_ne (ne_of_none e h)]; exact e
theorem Evo.get (e : Evo H m H' m') {l : Nat} {a : Addr} (h : m[l]? = some a) : m'[l]? = some a := by
  obtain ⟨x, rfl⟩ := e.ext
  have hl : l < m.length := (List.getElem?_eq_some_iff.mp h).1
  rw [List.getElem?_append_left hl]; exact h
theorem Evo.rd (e : Evo H m H' m') {a : Addr} {u : HO} (h : Rd H a u) (n : a ∉ m) (z : ∀ ps, u ≠ .tbl ps := by intro _ z; cases z) : Rd H' a u ∧ a ∉ m' := by
  rcases h with h | ⟨o, h⟩
  · obtain ⟨h1, n1⟩ := e.keep a _ h n z; exact ⟨.inl h1, n1⟩
  · obtain ⟨h1, n1⟩ := e.keep a _ h n (fun _ z => nomatch z); exact ⟨.inr ⟨o, h1⟩, n1⟩
theorem slO_tbl {a C dx : Addr} {vs : List (Option V)} : ∀ ps, SlX.SlO a C dx vs ≠ .tbl ps := fun ps z => by unfold SlX.SlO at z; cases z
theorem slO_lst {a C dx : Addr} {vs : List (Option V)} : ∀ xs, SlX.SlO a C dx vs ≠ .lst xs := fun ps z => by unfold SlX.SlO at z; cases z
theorem slO_dK {a C dx : Addr} {vs : List (Option V)} : ∀ xs, SlX.SlO a C dx vs ≠ .dK xs := fun ps z => by unfold SlX.SlO at z; cases z
theorem codeO_slO {a C dx : Addr} {q : Str} {vs : List (Option V)} : LamX.CodeO a q ≠ SlX.SlO a C dx vs := fun z => by
  unfold LamX.CodeO SlX.SlO at z
  injection z with z
  have key := congrFun z (Heap.mk ((Array.replicate a default).push { cls := .none, data := .fields #[.none, .str q 0] }) {})
  have e : (Heap.mk ((Array.replicate a default).push { cls := .none, data := .fields #[.none, .str q 0] }) {}).get? a = some { cls := .none, data := .fields #[.none, .str q 0] } := by
    unfold Heap.get?
    have : ((Array.replicate a (default : Obj)).push { cls := .none, data := .fields #[.none, .str q 0] })[a]? = some { cls := .none, data := .fields #[.none, .str q 0] } := by
      rw [Array.getElem?_push]
      simp
    rw [this]
  have l : ∃ (oc : Obj) (vs : Array Value) (t : Tok), (Heap.mk ((Array.replicate a default).push { cls := .none, data := .fields #[.none, .str q 0] }) {}).get? a = some oc ∧ oc.data = .fields vs ∧ vs[1]? = some (.str q t) := ⟨_, _, 0, e, rfl, rfl⟩
  rw [key] at l
  obtain ⟨sl, h, _⟩ := l
  rw [e] at h
  have h := congrArg Obj.data (Option.some.inj h)
  simp [PySem.W.instObj] at h
mutual
theorem Rep.evo (e : Evo H m H' m') : ∀ (d : D) (v : V), Rep K H m d v → Rep K H' m' d v
  | .non, _, h => by unfold Rep at h ⊢; exact h
  | .bl _, _, h => by unfold Rep at h ⊢; exact h
  | .int _, _, h => by unfold Rep at h ⊢; exact h
  | .str _, _, h => by unfold Rep at h ⊢; exact h
  | .ty _, _, h => by unfold Rep at h ⊢; exact h
  | .ob _, _, h => by unfold Rep at h ⊢; exact h
  | .tup ds, _, h => by
    unfold Rep at h ⊢
    obtain ⟨a, vs, rfl, h1, h2⟩ := h
    refine ⟨a, vs, rfl, ?_, RepL.evo e ds vs h2⟩
    rcases h1 with ⟨h1, n⟩ | h1
    · obtain ⟨n1, n2⟩ := n
      obtain ⟨q1, q2⟩ := e.rd h1 n1
      exact .inl ⟨q1, q2, n2⟩
    · exact .inr h1
  | .lst ds, _, h => by
    unfold Rep at h ⊢
    obtain ⟨a, vs, rfl, ⟨h1, n, nb⟩, h2⟩ := h
    obtain ⟨q1, q2⟩ := e.keep a _ h1 n (fun _ z => nomatch z)
    exact ⟨a, vs, rfl, ⟨q1, q2, nb⟩, RepL.evo e ds vs h2⟩
  | .rol ds, _, h => by
    unfold Rep at h ⊢
    obtain ⟨a, vs, rfl, h1, h2⟩ := h
    refine ⟨a, vs, rfl, ?_, RepL.evo e ds vs h2⟩
    rcases h1 with ⟨⟨o, h1⟩, n, nb⟩ | h1
    · obtain ⟨h3, n3⟩ := e.keep a _ h1 n (fun _ z => nomatch z)
      exact .inl ⟨⟨o, h3⟩, n3, nb⟩
    · exact .inr h1
  | .loc l, _, h => by
    unfold Rep at h ⊢
    obtain ⟨a, rfl, h1⟩ := h
    exact ⟨a, rfl, e.get h1⟩
  | .fn _, _, h => by unfold Rep at h ⊢; exact h
  | .dct ks ds, _, h => by
    unfold Rep at h ⊢
    obtain ⟨a, vs, rfl, ⟨o, h1⟩, hl, h2⟩ := h
    exact ⟨a, vs, rfl, ⟨o, e.frz a o _ h1⟩, hl, RepL.evo e ds vs h2⟩
  | .obj c ds, _, h => by
    unfold Rep at h ⊢
    obtain ⟨a, dx, vs, rfl, ⟨h1, h3, n, nb, nd, ndb⟩, h2⟩ := h
    obtain ⟨q1, q2⟩ := e.keep a _ h1 n (slO_tbl)
    obtain ⟨q3, q4⟩ := e.keep dx _ h3 nd (fun _ z => nomatch z)
    exact ⟨a, dx, vs, rfl, ⟨q1, q3, q2, nb, q4, ndb⟩, RepL.evo e ds vs h2⟩
  | .exo c f ds, _, h => by
    unfold Rep at h ⊢
    obtain ⟨a, dx, vs, rfl, ⟨h1, n, nb, nd, ndb⟩, h2⟩ := h
    obtain ⟨o, q, z⟩ := h1.dx
    exact ⟨a, dx, vs, rfl, ⟨h1.imp (fun o q z => (e.keep a o q n z).1) fun o q z => (e.keep dx o q nd z).1, (e.keep a _ h1.1 n exO_tbl).2, nb, (e.keep dx o q nd z).2, ndb⟩, RepL.evo e ds vs h2⟩
theorem RepL.evo (e : Evo H m H' m') : ∀ (ds : List D) (vs : List V), RepL K H m ds vs → RepL K H' m' ds vs
  | [], _, h => by unfold RepL at h ⊢; exact h
  | d :: ds, _, h => by
    unfold RepL at h ⊢
    obtain ⟨v, r, rfl, h1, h2⟩ := h
    exact ⟨v, r, rfl, Rep.evo e d v h1, RepL.evo e ds r h2⟩
end
theorem RepP.evo {κ : Type} (e : Evo H m H' m') : ∀ (ds : List (κ × D)) (vs : List (κ × V)), RepP K H m ds vs → RepP K H' m' ds vs
  | [], _, h => h
  | (k, d) :: ds, _, ⟨v, r, q, h1, h2⟩ => ⟨v, r, q, Rep.evo e d v h1, RepP.evo e ds r h2⟩
theorem RepO.evo (e : Evo H m H' m') : ∀ (ds : List (Option D)) (vs : List (Option V)), RepO K H m ds vs → RepO K H' m' ds vs
  | [], _, h => h
  | none :: ds, _, ⟨r, q, h2⟩ => ⟨r, q, RepO.evo e ds r h2⟩
  | some d :: ds, _, ⟨v, r, q, h1, h2⟩ => ⟨v, r, q, Rep.evo e d v h1, RepO.evo e ds r h2⟩
theorem RepE.evo {ρ : DEnv} {σ : Sg} (e : Evo H m H' m') (h : RepE K H m ρ σ) : RepE K H' m' ρ σ :=
  ⟨h.len, fun i d q => let ⟨v, h1, h2⟩ := h.val i d q; ⟨v, h1, Rep.evo e d v h2⟩⟩
theorem RepSt.grow {st : Store} (g : Grow H H') (h : RepSt K H m st) : RepSt K H' m st :=
  ⟨fun b hb => let ⟨⟨o, q, z⟩, n⟩ := h.ban b hb; ⟨⟨o, g _ _ q, z⟩, n⟩, h.len, h.nd, fun l c q => by
    obtain ⟨a, h1, h2⟩ := h.cell l c q
    refine ⟨a, h1, ?_⟩
    cases c with
    | lst ds => obtain ⟨vs, x, y⟩ := h2; exact ⟨vs, g _ _ x, RepL.evo g.evo _ _ y⟩
    | dic kvs => obtain ⟨vs, x, y⟩ := h2; exact ⟨vs, g _ _ x, RepP.evo g.evo _ _ y⟩
    | dik kvs => obtain ⟨o2, vs, x, y⟩ := h2; exact ⟨o2, vs, g _ _ x, RepP.evo g.evo _ _ y⟩
    | ins C fs => obtain ⟨dx, vs, x, z, n, nb, y⟩ := h2; exact ⟨dx, vs, g _ _ x, g _ _ z, n, nb, RepO.evo g.evo _ _ y⟩, fun p hp => g.evo.tabs p hp (h.tabs p hp)⟩
theorem RepC.some {c : Cell} {a : Addr} (h : RepC K H m c a) : ∃ o, H a = some o ∧ ∀ ps, o ≠ .tbl ps := by
  cases c with
  | lst ds => obtain ⟨vs, x, y⟩ := h; exact ⟨_, x, fun _ z => nomatch z⟩
  | dic kvs => obtain ⟨vs, x, y⟩ := h; exact ⟨_, x, fun _ z => nomatch z⟩
  | dik kvs => obtain ⟨o2, vs, x, y⟩ := h; exact ⟨_, x, fun _ z => nomatch z⟩
  | ins C fs => obtain ⟨dx, vs, x, y⟩ := h; exact ⟨_, x, slO_tbl⟩
theorem RepSt.mem {st : Store} (h : RepSt K H m st) {a : Addr} (ha : a ∈ m) : ∃ o, H a = some o ∧ ∀ ps, o ≠ .tbl ps := by
  obtain ⟨l, hl, e⟩ := List.mem_iff_getElem.mp ha
  have hs : l < st.length := by rw [← h.len]; exact hl
  obtain ⟨b, h1, h2⟩ := h.cell l st[l] (by simp [hs])
  rw [List.getElem?_eq_getElem hl] at h1
  cases h1
  rw [e] at h2
  exact h2.some
theorem RepSt.fresh {st : Store} (h : RepSt K H m st) {p : Addr} (hp : H p = none) : p ∉ m := fun hm => by
  obtain ⟨o, e, _⟩ := h.mem hm
  rw [hp] at e; cases e
theorem RepSt.freshB {st : Store} (h : RepSt K H m st) {p : Addr} (hp : H p = none) : p ∉ K.B := fun hm => by
  obtain ⟨⟨o, e, _⟩, _⟩ := h.ban p hm
  rw [hp] at e; cases e
theorem RepL.length : ∀ {ds : List D} {vs : List V}, RepL K H m ds vs → ds.length = vs.length
  | [], _, h => by unfold RepL at h; subst h; rfl
  | d :: ds, _, h => by unfold RepL at h; obtain ⟨v, r, rfl, _, h2⟩ := h; simp [RepL.length h2]
theorem RepL.get : ∀ {ds : List D} {vs : List V} {i : Nat} {d : D}, RepL K H m ds vs → ds[i]? = some d → ∃ v, vs[i]? = some v ∧ Rep K H m d v
  | [], _, _, _, _, q => by simp at q
  | d :: ds, _, 0, _, h, q => by unfold RepL at h; obtain ⟨v, r, rfl, h1, _⟩ := h; simp at q; subst q; exact ⟨v, rfl, h1⟩
  | d :: ds, _, i + 1, _, h, q => by unfold RepL at h; obtain ⟨v, r, rfl, _, h2⟩ := h; simpa using RepL.get h2 (by simpa using q)
theorem RepL.getV : ∀ {ds : List D} {vs : List V} {i : Nat} {v : V}, RepL K H m ds vs → vs[i]? = some v → ∃ d, ds[i]? = some d ∧ Rep K H m d v
  | [], _, _, _, h, q => by unfold RepL at h; subst h; simp at q
  | d :: ds, _, 0, _, h, q => by unfold RepL at h; obtain ⟨v, r, rfl, h1, _⟩ := h; simp at q; subst q; exact ⟨d, rfl, h1⟩
  | d :: ds, _, i + 1, _, h, q => by unfold RepL at h; obtain ⟨v, r, rfl, _, h2⟩ := h; simpa using RepL.getV h2 (by simpa using q)
theorem RepL.nil : RepL K H m [] [] := by unfold RepL; rfl
theorem RepL.cons {d : D} {v : V} {ds : List D} {vs : List V} (h : Rep K H m d v) (t : RepL K H m ds vs) : RepL K H m (d :: ds) (v :: vs) := by unfold RepL; exact ⟨v, vs, rfl, h, t⟩
theorem RepL.append : ∀ {ds es : List D} {vs ws : List V}, RepL K H m ds vs → RepL K H m es ws → RepL K H m (ds ++ es) (vs ++ ws)
  | [], _, _, _, h, t => by unfold RepL at h; subst h; exact t
  | d :: ds, _, _, _, h, t => by unfold RepL at h; obtain ⟨v, r, rfl, h1, h2⟩ := h; exact .cons h1 (RepL.append h2 t)
theorem RepL.take : ∀ {ds : List D} {vs : List V} (n : Nat), RepL K H m ds vs → RepL K H m (ds.take n) (vs.take n)
  | _, _, 0, _ => by simpa using RepL.nil
  | [], _, n + 1, h => by unfold RepL at h; subst h; simpa using RepL.nil
  | d :: ds, _, n + 1, h => by unfold RepL at h; obtain ⟨v, r, rfl, h1, h2⟩ := h; exact .cons h1 (RepL.take n h2)
theorem RepL.drop : ∀ {ds : List D} {vs : List V} (n : Nat), RepL K H m ds vs → RepL K H m (ds.drop n) (vs.drop n)
  | _, _, 0, h => by simpa using h
  | [], _, n + 1, h => by unfold RepL at h; subst h; simpa using RepL.nil
  | d :: ds, _, n + 1, h => by unfold RepL at h; obtain ⟨v, r, rfl, h1, h2⟩ := h; simpa using RepL.drop n h2
theorem RepL.reverse : ∀ {ds : List D} {vs : List V}, RepL K H m ds vs → RepL K H m ds.reverse vs.reverse
  | [], _, h => by unfold RepL at h; subst h; simpa using RepL.nil
  | d :: ds, _, h => by
    unfold RepL at h; obtain ⟨v, r, rfl, h1, h2⟩ := h
    rw [List.reverse_cons, List.reverse_cons]
    exact (RepL.reverse h2).append (.cons h1 .nil)
theorem RepL.replicate : ∀ (n : Nat) {ds : List D} {vs : List V}, RepL K H m ds vs → RepL K H m (List.replicate n ds).flatten (List.replicate n vs).flatten
  | 0, _, _, _ => by simpa using RepL.nil
  | n + 1, _, _, h => by simpa [List.replicate_succ] using h.append (RepL.replicate n h)
theorem RepL.set : ∀ {ds : List D} {vs : List V} {d : D} {v : V} (n : Nat), RepL K H m ds vs → Rep K H m d v → RepL K H m (ds.set n d) (vs.set n v)
  | [], _, _, _, _, h, _ => by unfold RepL at h; subst h; simpa using RepL.nil
  | d :: ds, _, _, _, 0, h, q => by unfold RepL at h; obtain ⟨v, r, rfl, h1, h2⟩ := h; exact .cons q h2
  | d :: ds, _, _, _, n + 1, h, q => by unfold RepL at h; obtain ⟨v, r, rfl, h1, h2⟩ := h; exact .cons h1 (RepL.set n h2 q)
theorem RepL.ints : ∀ ns : List Int, RepL K H m (ns.map D.int) (ns.map V.int)
  | [] => .nil
  | n :: ns => .cons (by unfold Rep; rfl) (RepL.ints ns)
theorem RepL.inv_cons {d : D} {ds : List D} {vs : List V} (h : RepL K H m (d :: ds) vs) : ∃ v r, vs = v :: r ∧ Rep K H m d v ∧ RepL K H m ds r := by unfold RepL at h; exact h
theorem RepL.inv_nil {vs : List V} (h : RepL K H m [] vs) : vs = [] := by unfold RepL at h; exact h
theorem Rep.int_iff {i : Int} {v : V} : Rep K H m (.int i) v ↔ v = .int i := by unfold Rep; rfl
theorem Rep.bl_iff {i : Bool} {v : V} : Rep K H m (.bl i) v ↔ v = .bl i := by unfold Rep; rfl
theorem Rep.str_iff {i : Str} {v : V} : Rep K H m (.str i) v ↔ v = .str i := by unfold Rep; rfl
theorem Rep.non_iff {v : V} : Rep K H m .non v ↔ v = .non := by unfold Rep; rfl
theorem Rep.ty_iff {n : String} {v : V} : Rep K H m (.ty n) v ↔ v = .ty n := by unfold Rep; rfl
theorem Rep.ob_iff {a : Addr} {v : V} : Rep K H m (.ob a) v ↔ v = .ref a := by unfold Rep; rfl
theorem Rep.obj_iff {c : Str} {ds : List D} {v : V} : Rep K H m (.obj c ds) v ↔ ∃ a dx vs, v = .ref a ∧ (H a = some (SlX.SlO a (He.ga K.K c) dx (vs.map some)) ∧ H dx = some (.xd []) ∧ a ∉ m ∧ a ∉ K.B ∧ dx ∉ m ∧ dx ∉ K.B) ∧ RepL K H m ds vs := by rw [Rep]
theorem Rep.exo_iff {c f : Str} {ds : List D} {v : V} : Rep K H m (.exo c f ds) v ↔ ∃ a dx vs, v = .ref a ∧ (ExS H a (He.ga K.K c) f dx vs ∧ a ∉ m ∧ a ∉ K.B ∧ dx ∉ m ∧ dx ∉ K.B) ∧ RepL K H m ds vs := by rw [Rep]
theorem Rep.dct_iff {ks : List Key} {ds : List D} {v : V} : Rep K H m (.dct ks ds) v ↔ ∃ a vs, v = .ref a ∧ (∃ o, H a = some (.frz o (.dK (ks.zip vs)))) ∧ ks.length = ds.length ∧ RepL K H m ds vs := by rw [Rep]
theorem Rep.fn_iff {x : Str} {v : V} : Rep K H m (.fn x) v ↔ v = .ref (He.ga K.K x) := by unfold Rep; rfl
theorem Rep.loc_iff {l : Nat} {v : V} : Rep K H m (.loc l) v ↔ ∃ a, v = .ref a ∧ m[l]? = some a := by unfold Rep; rfl
theorem Rep.tup_iff {ds : List D} {v : V} : Rep K H m (.tup ds) v ↔ ∃ a vs, v = .ref a ∧ ((Rd H a (.tup vs) ∧ a ∉ m ∧ a ∉ K.B) ∨ TK K.K a vs) ∧ RepL K H m ds vs := by rw [Rep]
theorem Rep.lst_iff {ds : List D} {v : V} : Rep K H m (.lst ds) v ↔ ∃ a vs, v = .ref a ∧ (H a = some (.lst vs) ∧ a ∉ m ∧ a ∉ K.B) ∧ RepL K H m ds vs := by rw [Rep]
theorem Rep.rol_iff {ds : List D} {v : V} : Rep K H m (.rol ds) v ↔ ∃ a vs, v = .ref a ∧ (((∃ o, H a = some (.frz o (.lst vs))) ∧ a ∉ m ∧ a ∉ K.B) ∨ LK K.K a vs) ∧ RepL K H m ds vs := by rw [Rep]
theorem Rep.tup_sq {ds : List D} {v : V} (h : Rep K H m (.tup ds) v) : ∃ a vs, v = .ref a ∧ SqT K.K H a vs ∧ RepL K H m ds vs := by
  obtain ⟨a, vs, rfl, h1, h2⟩ := Rep.tup_iff.mp h
  refine ⟨a, vs, rfl, ?_, h2⟩
  rcases h1 with ⟨h1, _⟩ | h1
  · exact .inl h1
  · exact .inr h1
theorem Rep.lst_sq {ds : List D} {v : V} (h : Rep K H m (.lst ds) v) : ∃ a vs, v = .ref a ∧ SqL K.K H a vs ∧ RepL K H m ds vs := by
  obtain ⟨a, vs, rfl, h1, h2⟩ := Rep.lst_iff.mp h
  exact ⟨a, vs, rfl, .inl (.inl h1.1), h2⟩
theorem Rep.rol_sq {ds : List D} {v : V} (h : Rep K H m (.rol ds) v) : ∃ a vs, v = .ref a ∧ SqL K.K H a vs ∧ RepL K H m ds vs := by
  obtain ⟨a, vs, rfl, h1, h2⟩ := Rep.rol_iff.mp h
  refine ⟨a, vs, rfl, ?_, h2⟩
  rcases h1 with ⟨⟨o, h1⟩, _⟩ | h1
  · exact .inl (.inr ⟨o, h1⟩)
  · exact .inr h1
/-- a new tuple -/
theorem Rep.newT {st : Store} (rs : RepSt K H m st) {p : Addr} (hp : H p = none) {ds : List D} {vs : List V} (h : RepL K H m ds vs) : Rep K (upd H p (.tup vs)) m (.tup ds) (.ref p) :=
  Rep.tup_iff.mpr ⟨p, vs, rfl, .inl ⟨.inl upd_same, rs.fresh hp, rs.freshB hp⟩, RepL.evo (Grow.upd hp).evo _ _ h⟩
theorem Rep.newL {st : Store} (rs : RepSt K H m st) {p : Addr} (hp : H p = none) {ds : List D} {vs : List V} (h : RepL K H m ds vs) : Rep K (upd H p (.lst vs)) m (.lst ds) (.ref p) :=
  Rep.lst_iff.mpr ⟨p, vs, rfl, ⟨upd_same, rs.fresh hp, rs.freshB hp⟩, RepL.evo (Grow.upd hp).evo _ _ h⟩
/-- a new place -/
theorem Evo.push {p : Addr} {o : HO} (hp : H p = none) : Evo H m (upd H p o) (m ++ [p]) :=
  .of ⟨[p], rfl⟩ (fun a u e n => ⟨Grow.upd hp a u e, by
    simp only [List.mem_append, List.mem_singleton, not_or]
    exact ⟨n, ne_of_none e hp⟩⟩) fun a o u h => Grow.upd hp a _ h
theorem RepSt.evoC {st : Store} (rs : RepSt K H m st) {p : Addr} {o : HO} (hp : H p = none) : ∀ (l : Nat) (c : Cell), st[l]? = some c → ∃ a, (m ++ [p])[l]? = some a ∧ RepC K (upd H p o) (m ++ [p]) c a := fun l c q => by
  have e : Evo H m (upd H p o) (m ++ [p]) := .push hp
  obtain ⟨a, h1, h2⟩ := rs.cell l c q
  refine ⟨a, e.get h1, ?_⟩
  have g : Grow H (upd H p o) := Grow.upd hp
  cases c with
  | lst ds => obtain ⟨vs, x, y⟩ := h2; exact ⟨vs, g _ _ x, RepL.evo e _ _ y⟩
  | dic kvs => obtain ⟨vs, x, y⟩ := h2; exact ⟨vs, g _ _ x, RepP.evo e _ _ y⟩
  | dik kvs => obtain ⟨o2, vs, x, y⟩ := h2; exact ⟨o2, vs, g _ _ x, RepP.evo e _ _ y⟩
  | ins C fs =>
    obtain ⟨dx, vs, x, z, n, nb, y⟩ := h2
    refine ⟨dx, vs, g _ _ x, g _ _ z, ?_, nb, RepO.evo e _ _ y⟩
    simp only [List.mem_append, List.mem_singleton, not_or]
    exact ⟨n, ne_of_none z hp⟩
theorem RepSt.push {st : Store} (rs : RepSt K H m st) {p : Addr} {o : HO} (hp : H p = none) {c : Cell} (hc : RepC K (upd H p o) (m ++ [p]) c p) : RepSt K (upd H p o) (m ++ [p]) (st ++ [c]) where
  ban := fun b hb => by
    obtain ⟨⟨u, q, z0⟩, n⟩ := rs.ban b hb
    refine ⟨⟨u, Grow.upd hp _ _ q, z0⟩, ?_⟩
    simp only [List.mem_append, List.mem_singleton, not_or]
    exact ⟨n, ne_of_none q hp⟩
  len := by simp [rs.len]
  nd := List.nodup_append.mpr ⟨rs.nd, by simp, fun a ha b hb e => by
    simp at hb; subst hb; subst e; exact rs.fresh hp ha⟩
  cell := fun l c' q => by
    by_cases hl : l < st.length
    · rw [List.getElem?_append_left hl] at q
      exact rs.evoC hp l c' q
    · have hl' : l = st.length := by
        have := (List.getElem?_eq_some_iff.mp q).1
        simp at this; omega
      subst hl'
      simp at q
      subst q
      exact ⟨p, by rw [← rs.len]; simp, hc⟩
  tabs := fun q hq => (Evo.push hp).tabs q hq (rs.tabs q hq)
/-- a place is written -/
theorem Evo.write {l : Nat} {a : Addr} {o : HO} (h : m[l]? = some a) (hf : ∀ x u, H a ≠ some (.frz x u)) : Evo H m (upd H a o) m :=
  .of ⟨[], by simp⟩ (fun b u e n => ⟨by rw [upd_ne (fun z => n (by rw [z]; exact List.mem_of_getElem? h))]; exact e, n⟩) fun b x u e => by rw [upd_ne (fun z => hf x u (by rw [← z]; exact e))]; exact e
theorem RepSt.write {st : Store} (rs : RepSt K H m st) {l : Nat} {a : Addr} {o : HO} {c : Cell} (h : m[l]? = some a) (hown : H a ≠ some (.xd [])) (hf : ∀ x u, H a ≠ some (.frz x u)) (hc : RepC K (upd H a o) m c a) : RepSt K (upd H a o) m (st.set l c) where
  ban := fun b hb => by
    obtain ⟨⟨u, q, z0⟩, n⟩ := rs.ban b hb
    exact ⟨⟨u, by rw [upd_ne (fun z => n (by rw [z]; exact List.mem_of_getElem? h))]; exact q, z0⟩, n⟩
  len := by simp [rs.len]
  nd := rs.nd
  cell := fun k c' q => by
    have e : Evo H m (upd H a o) m := .write h hf
    by_cases hk : l = k
    · subst hk
      have hl : l < st.length := by
        have := (List.getElem?_eq_some_iff.mp h).1
        rw [rs.len] at this; exact this
      rw [List.getElem?_set_self hl] at q
      cases q
      exact ⟨a, h, hc⟩
    · rw [List.getElem?_set_ne hk] at q
      obtain ⟨b, h1, h2⟩ := rs.cell k c' q
      have hb : b ≠ a := by
        intro z; subst z
        obtain ⟨i1, e1⟩ := List.getElem?_eq_some_iff.mp h
        obtain ⟨i2, e2⟩ := List.getElem?_eq_some_iff.mp h1
        exact hk ((List.getElem_inj rs.nd).mp (e1.trans e2.symm))
      refine ⟨b, h1, ?_⟩
      cases c' with
      | lst ds => obtain ⟨vs, x, y⟩ := h2; exact ⟨vs, by rw [upd_ne hb]; exact x, RepL.evo e _ _ y⟩
      | dic kvs => obtain ⟨vs, x, y⟩ := h2; exact ⟨vs, by rw [upd_ne hb]; exact x, RepP.evo e _ _ y⟩
      | dik kvs => obtain ⟨o2, vs, x, y⟩ := h2; exact ⟨o2, vs, by rw [upd_ne hb]; exact x, RepP.evo e _ _ y⟩
      | ins C fs =>
        obtain ⟨dx, vs, x, z, n, nb, y⟩ := h2
        exact ⟨dx, vs, by rw [upd_ne hb]; exact x, by rw [upd_ne (fun w => hown (by rw [← w]; exact z))]; exact z, n, nb, RepO.evo e _ _ y⟩
  tabs := fun q hq => (Evo.write h hf).tabs q hq (rs.tabs q hq)
end
inductive Res (α : Type) where
  | ok (a : α) (st : Store) | exc (c : Value) (fs : Option (List (Str × D))) (st : Store) | fail
def Res.bind {α β : Type} (r : Res α) (k : α → Store → Res β) : Res β := match r with
  | .ok a st => k a st
  | .exc c fs st => .exc c fs st
  | .fail => .fail
@[simp] theorem Res.bind_ok {α β : Type} (a : α) (st : Store) (k : α → Store → Res β) : (Res.ok a st).bind k = k a st := id rfl
@[simp] theorem Res.bind_exc {α β : Type} (c fs st) (k : α → Store → Res β) : (Res.exc c fs st : Res α).bind k = .exc c fs st := id rfl
@[simp] theorem Res.bind_fail {α β : Type} (k : α → Store → Res β) : (Res.fail : Res α).bind k = .fail := id rfl
def RepX (K : KB) (H : Hp) (m : List Addr) : Option (List (Str × D)) → Option Addr → Prop
  | none, d => d = none
  | some fs, d => ∃ a vs, d = some a ∧ H a = some (.xd vs) ∧ a ∉ m ∧ RepP K H m fs vs
abbrev WH := Value → Option Addr → Hp → Prop
/-- a result leads where it shall -/
def GoodR {α β : Type} (R : Hp → List Addr → α → β → Prop) (r : Res α) (Q : β → Hp → Prop) (W : WH) (K : KB) (H : Hp) (m : List Addr) : Prop := match r with
  | .ok d st' => ∀ v H' m', Evo H m H' m' → R H' m' d v → RepSt K H' m' st' → Q v H'
  | .exc c fs st' => ∀ dx H' m', Evo H m H' m' → RepX K H' m' fs dx → RepSt K H' m' st' → W c dx H'
  | .fail => False
section
variable {K : KB} {H H' H1 H2 : Hp} {m m' m1 m2 : List Addr} {α β α' β' : Type}
theorem GoodR.evo {R : Hp → List Addr → α → β → Prop} {r : Res α} {Q : β → Hp → Prop} {W : WH} (h : GoodR R r Q W K H m) (e : Evo H m H' m') : GoodR R r Q W K H' m' := by
  cases r with
  | ok d st => exact fun v H2 m2 e2 => h v H2 m2 (e.trans e2)
  | exc c fs st => exact fun dx H2 m2 e2 => h dx H2 m2 (e.trans e2)
  | fail => exact h
theorem good_bind {R : Hp → List Addr → α → β → Prop} {R' : Hp → List Addr → α' → β' → Prop} {r : Res α} {k : α → Store → Res α'} {Q : β' → Hp → Prop} {Q1 : β → Hp → Prop} {W : WH} (h : GoodR R' (r.bind k) Q W K H m)
    (hk : ∀ d st1 v H1 m1, Evo H m H1 m1 → R H1 m1 d v → RepSt K H1 m1 st1 → GoodR R' (k d st1) Q W K H1 m1 → Q1 v H1) : GoodR R r Q1 W K H m := by
  cases r with
  | ok d st => exact fun v H1 m1 e rv rs => hk d st v H1 m1 e rv rs (GoodR.evo (r := k d st) h e)
  | exc c fs st => exact h
  | fail => exact h
theorem good_ok {R : Hp → List Addr → α → β → Prop} {d : α} {v : β} {st : Store} {Q : β → Hp → Prop} {W : WH} (h : GoodR R (.ok d st) Q W K H m) (r : R H m d v) (rs : RepSt K H m st) : Q v H := h v H m .refl r rs
theorem good_grow {R : Hp → List Addr → α → β → Prop} {d : α} {v : β} {st : Store} {Q : β → Hp → Prop} {W : WH} (h : GoodR R (.ok d st) Q W K H m) (g : Grow H H') (r : R H' m d v) (rs : RepSt K H m st) : Q v H' := h v H' m g.evo r (rs.grow g)
end
abbrev Fe := DEnv → Store → Res D
abbrev Ft := DEnv → Store → Res Bool
abbrev Fa := DEnv → Store → Res (List D)
def RB : Hp → List Addr → Bool → Bool → Prop := fun _ _ b c => c = b
abbrev WX := L2.WX
/-- an expression does what f tells -/
structure DE (X : Cx) (W : WX) (e : Expr) (f : Fe) : Prop where
  ex : ∃ t : TE, PE X e t ∧ ∀ (B : List Addr) (σ : Sg) (H : Hp) (ρ : DEnv) (st : Store) (m : List Addr) (Q : VK), RepE ⟨X.K, B⟩ H m ρ σ → RepSt ⟨X.K, B⟩ H m st → GoodR (Rep ⟨X.K, B⟩) (f ρ st) Q (fun c d H' => W c d σ H') ⟨X.K, B⟩ H m → t σ H Q
structure DT (X : Cx) (W : WX) (e : Expr) (f : Ft) : Prop where
  ex : ∃ t : TT, PT X e t ∧ ∀ (B : List Addr) (σ : Sg) (H : Hp) (ρ : DEnv) (st : Store) (m : List Addr) (Q : Bool → Hp → Prop), RepE ⟨X.K, B⟩ H m ρ σ → RepSt ⟨X.K, B⟩ H m st → GoodR RB (f ρ st) Q (fun c d H' => W c d σ H') ⟨X.K, B⟩ H m → t σ H Q
structure DA (X : Cx) (W : WX) (es : List Expr) (f : Fa) : Prop where
  ex : ∃ t : TA, PA X es t ∧ ∀ (B : List Addr) (σ : Sg) (H : Hp) (ρ : DEnv) (st : Store) (m : List Addr) (Q : List V → Hp → Prop), RepE ⟨X.K, B⟩ H m ρ σ → RepSt ⟨X.K, B⟩ H m st → GoodR (RepL ⟨X.K, B⟩) (f ρ st) Q (fun c d H' => W c d σ H') ⟨X.K, B⟩ H m → t σ H Q
  len : ∀ (ρ : DEnv) (st : Store) (ds : List D) (st' : Store), f ρ st = .ok ds st' → ds.length = es.length
inductive SRes where
  | nx (ρ : DEnv) (st : Store) | ret (d : D) (st : Store) | brk (ρ : DEnv) (st : Store) | cnt (ρ : DEnv) (st : Store)
  | exc (c : Value) (fs : Option (List (Str × D))) (ρ : DEnv) (st : Store) | fail
abbrev Fs := DEnv → Store → SRes
def GoodS (r : SRes) (En : Ends) (W : WX) (K : KB) (H : Hp) (m : List Addr) : Prop := match r with
  | .nx ρ st => ∀ σ' H' m', Evo H m H' m' → RepE K H' m' ρ σ' → RepSt K H' m' st → En.nx σ' H'
  | .ret d st => ∀ v H' m', Evo H m H' m' → Rep K H' m' d v → RepSt K H' m' st → En.rt v H'
  | .brk ρ st => ∀ σ' H' m', Evo H m H' m' → RepE K H' m' ρ σ' → RepSt K H' m' st → En.bk σ' H'
  | .cnt ρ st => ∀ σ' H' m', Evo H m H' m' → RepE K H' m' ρ σ' → RepSt K H' m' st → En.ct σ' H'
  | .exc c fs ρ st => ∀ σ' dx H' m', Evo H m H' m' → RepE K H' m' ρ σ' → RepX K H' m' fs dx → RepSt K H' m' st → W c dx σ' H'
  | .fail => False
structure DS (X : Cx) (W : WX) (s : Stmt) (f : Fs) : Prop where
  ex : ∃ t : TS, PS X s t ∧ ∀ (B : List Addr) (σ : Sg) (H : Hp) (ρ : DEnv) (st : Store) (m : List Addr) (En : Ends), RepE ⟨X.K, B⟩ H m ρ σ → RepSt ⟨X.K, B⟩ H m st → GoodS (f ρ st) En W ⟨X.K, B⟩ H m → t En σ H
structure DB (X : Cx) (W : WX) (ss : List Stmt) (f : Fs) : Prop where
  ex : ∃ t : TS, PSs X ss t ∧ ∀ (B : List Addr) (σ : Sg) (H : Hp) (ρ : DEnv) (st : Store) (m : List Addr) (En : Ends), RepE ⟨X.K, B⟩ H m ρ σ → RepSt ⟨X.K, B⟩ H m st → GoodS (f ρ st) En W ⟨X.K, B⟩ H m → t En σ H
/-- an expression's result, then a statement's -/
def Res.thenS {α : Type} (r : Res α) (ρ : DEnv) (k : α → Store → SRes) : SRes := match r with
  | .ok a st => k a st
  | .exc c fs st => .exc c fs ρ st
  | .fail => .fail
@[simp] theorem Res.thenS_ok {α : Type} (a : α) (st : Store) (ρ : DEnv) (k : α → Store → SRes) : (Res.ok a st).thenS ρ k = k a st := id rfl
@[simp] theorem Res.thenS_exc {α : Type} (c fs st) (ρ : DEnv) (k : α → Store → SRes) : (Res.exc c fs st : Res α).thenS ρ k = .exc c fs ρ st := id rfl
@[simp] theorem Res.thenS_fail {α : Type} (ρ : DEnv) (k : α → Store → SRes) : (Res.fail : Res α).thenS ρ k = .fail := id rfl
def SRes.seq (r : SRes) (k : Fs) : SRes := match r with
  | .nx ρ st => k ρ st
  | r => r
section
variable {K : KB} {H H' H1 H2 : Hp} {m m' m1 m2 : List Addr} {α β : Type} {W : WX} {En : Ends}
theorem GoodS.evo {r : SRes} (h : GoodS r En W K H m) (e : Evo H m H' m') : GoodS r En W K H' m' := by
  cases r with
  | nx ρ st => exact fun v H2 m2 e2 => h v H2 m2 (e.trans e2)
  | ret d st => exact fun v H2 m2 e2 => h v H2 m2 (e.trans e2)
  | brk ρ st => exact fun v H2 m2 e2 => h v H2 m2 (e.trans e2)
  | cnt ρ st => exact fun v H2 m2 e2 => h v H2 m2 (e.trans e2)
  | exc c fs ρ st => exact fun σ dx H2 m2 e2 => h σ dx H2 m2 (e.trans e2)
  | fail => exact h
theorem good_thenS {R : Hp → List Addr → α → β → Prop} {r : Res α} {ρ : DEnv} {σ : Sg} {k : α → Store → SRes} {Q1 : β → Hp → Prop} (re : RepE K H m ρ σ) (h : GoodS (r.thenS ρ k) En W K H m)
    (hk : ∀ d st1 v H1 m1, Evo H m H1 m1 → R H1 m1 d v → RepSt K H1 m1 st1 → GoodS (k d st1) En W K H1 m1 → Q1 v H1) : GoodR R r Q1 (fun c d H' => W c d σ H') K H m := by
  cases r with
  | ok d st => exact fun v H1 m1 e rv rs => hk d st v H1 m1 e rv rs (GoodS.evo (r := k d st) h e)
  | exc c fs st => exact fun dx H1 m1 e rx rs => h σ dx H1 m1 e (re.evo e) rx rs
  | fail => exact h
end
end DL
namespace DL
open PySem PySem.Spec PyProof.Rows L2
variable [TabsCtx]
section
variable {X : Cx} {W : WX} {pos : Pos} {a b e : Expr} {fa fb f : Fe}
def xVar (i : Nat) : Fe := fun ρ st => match ρ[i]? with
  | some (some d) => .ok d st
  | _ => .fail
theorem de_var (i : Nat) {x : Str} {pos : Pos} (hN : X.N[i]? = some x := by rfl) (hv : Vis X.env.scope x := by first | exact Or.inl rfl | exact Or.inr (Or.inl rfl) | exact Or.inr (Or.inr rfl)) (hd : (x == ("__debug__" : Str)) = false := by decide)
    (hcd : (x == ("__classdict__" : Str)) = false := by decide) : DE X W (.Name x pos) (xVar i) := by
  refine ⟨_, pv i hN hv hd hcd, fun B σ H ρ st m Q re rs h => ?_⟩
  unfold xVar at h
  cases q : ρ[i]? with
  | none => rw [q] at h; exact h.elim
  | some o =>
    cases o with
    | none => rw [q] at h; exact h.elim
    | some d =>
      rw [q] at h
      obtain ⟨v, h1, h2⟩ := re.val i d q
      exact ⟨v, h1, good_ok h h2 rs⟩
def xC (d : D) : Fe := fun _ st => .ok d st
theorem de_c {v : V} {d : D} (h : PE X e (tC v)) (r : ∀ B H m, Rep ⟨X.K, B⟩ H m d v) : DE X W e (xC d) :=
  ⟨_, h, fun B σ H ρ st m Q re rs h => good_ok h (r B H m) rs⟩
theorem de_int {i : Int} {j pos} : DE X W (.Constant (.int i) j pos) (xC (.int i)) := de_c pe_int fun _ _ _ => Rep.int_iff.mpr rfl
theorem de_bl {b : Bool} {j pos} : DE X W (.Constant (.bool b) j pos) (xC (.bl b)) := de_c pe_bl fun _ _ _ => Rep.bl_iff.mpr rfl
theorem de_non {j pos} : DE X W (.Constant .none j pos) (xC .non) := de_c pe_non fun _ _ _ => Rep.non_iff.mpr rfl
theorem de_str {x : Str} {j pos} : DE X W (.Constant (.str x) j pos) (xC (.str x)) := de_c pe_str fun _ _ _ => Rep.str_iff.mpr rfl
/-- a module's constant -/
theorem de_glob {x : Str} {u : Value} {v : V} {d : D} {pos} (hg : Gl X x) (hm : X.mg x = some u) (r : RelV v u) (rd : ∀ B H m, Rep ⟨X.K, B⟩ H m d v) (hd : (x == ("__debug__" : Str)) = false := by decide) : DE X W (.Name x pos) (xC d) := de_c (pe_glob hg hm r hd) rd
theorem de_gint {x : Str} {i : Int} {t : Tok} {pos} (hg : Gl X x) (hm : X.mg x = some (.int i t)) (hd : (x == ("__debug__" : Str)) = false := by decide) : DE X W (.Name x pos) (xC (.int i)) := de_glob (v := .int i) hg hm ⟨_, rfl⟩ (fun _ _ _ => Rep.int_iff.mpr rfl) hd
theorem de_gstr {x : Str} {i : Str} {t : Tok} {pos} (hg : Gl X x) (hm : X.mg x = some (.str i t)) (hd : (x == ("__debug__" : Str)) = false := by decide) : DE X W (.Name x pos) (xC (.str i)) := de_glob (v := .str i) hg hm ⟨_, rfl⟩ (fun _ _ _ => Rep.str_iff.mpr rfl) hd
theorem de_gref {x : Str} {p : Addr} {pos} (hg : Gl X x) (hm : X.mg x = some (.ref p)) (hd : (x == ("__debug__" : Str)) = false := by decide) : DE X W (.Name x pos) (xC (.ob p)) := de_glob (v := .ref p) hg hm rfl (fun _ _ _ => Rep.ob_iff.mpr rfl) hd
/-- a built-in type's name -/
theorem de_bty {x : Str} {n : String} {pos} (hg : Gl X x) (hm : X.mg x = none) (hv : bootBuiltins x = some (.type n)) (hn : x ≠ "__name__" := by decide) (hd : (x == ("__debug__" : Str)) = false := by decide) : DE X W (.Name x pos) (xC (.ty n)) :=
  de_c (pe_bltn (v := .ty n) hg hm hv rfl hn hd) fun _ _ _ => Rep.ty_iff.mpr rfl
def lift (o : Option D) (st : Store) : Res D := match o with
  | some d => .ok d st
  | none => .fail
@[simp] theorem lift_some (d : D) (st : Store) : lift (some d) st = .ok d st := id rfl
@[simp] theorem lift_none (st : Store) : lift none st = .fail := id rfl
abbrev G2 := Store → D → D → Option D
abbrev G1 := Store → D → Option D
abbrev GL := Store → List D → Option D
structure DOp (X : Cx) (F : Value → Value → Sem Value) (g : G2) : Prop where
  ex : ∃ r : R2, OpR X F r ∧ ∀ (B : List Addr) (x y : V) (H : Hp) (m : List Addr) (st : Store) (da db d : D) (Q : VK), RepSt ⟨X.K, B⟩ H m st → Rep ⟨X.K, B⟩ H m da x → Rep ⟨X.K, B⟩ H m db y → g st da db = some d →
    (∀ v H', Grow H H' → Rep ⟨X.K, B⟩ H' m d v → Q v H') → r x y H Q
structure DUn (X : Cx) (F : Value → Sem Value) (g : G1) : Prop where
  ex : ∃ r, UnR X F r ∧ ∀ (B : List Addr) (x : V) (H : Hp) (m : List Addr) (st : Store) (da d : D) (Q : VK), RepSt ⟨X.K, B⟩ H m st → Rep ⟨X.K, B⟩ H m da x → g st da = some d →
    (∀ v H', Grow H H' → Rep ⟨X.K, B⟩ H' m d v → Q v H') → r x H Q
structure DCall (X : Cx) (f : Value) (g : GL) : Prop where
  ex : ∃ r, CallR X f r ∧ ∀ (B : List Addr) (xs : List V) (H : Hp) (m : List Addr) (st : Store) (ds : List D) (d : D) (Q : VK), RepSt ⟨X.K, B⟩ H m st → RepL ⟨X.K, B⟩ H m ds xs → g st ds = some d →
    (∀ v H', Grow H H' → Rep ⟨X.K, B⟩ H' m d v → Q v H') → r xs H Q
def xOp (g : G2) (fa fb : Fe) : Fe := fun ρ st => (fa ρ st).bind fun da s1 => (fb ρ s1).bind fun db s2 => lift (g s2 da db) s2
def xUn (g : G1) (fa : Fe) : Fe := fun ρ st => (fa ρ st).bind fun da s1 => lift (g s1 da) s1
def xCall (g : GL) (fa : Fa) : Fe := fun ρ st => (fa ρ st).bind fun ds s1 => lift (g s1 ds) s1
theorem good_lift {R : V → Hp → Prop} {K : KB} {H : Hp} {m : List Addr} {o : Option D} {st : Store} {W : WH} (h : GoodR (Rep K) (lift o st) R W K H m) : ∃ d, o = some d ∧ ∀ v H', Grow H H' → RepSt K H m st → Rep K H' m d v → R v H' := by
  cases o with
  | none => exact h.elim
  | some d => exact ⟨d, rfl, fun v H' g rs r => h v H' m g.evo r (rs.grow g)⟩
theorem op_run {F : Value → Value → Sem Value} {g : G2} {r : R2} (hr : ∀ (B : List Addr) (x y : V) (H : Hp) (m : List Addr) (st : Store) (da db d : D) (Q : VK), RepSt ⟨X.K, B⟩ H m st → Rep ⟨X.K, B⟩ H m da x → Rep ⟨X.K, B⟩ H m db y → g st da db = some d → (∀ v H', Grow H H' → Rep ⟨X.K, B⟩ H' m d v → Q v H') → r x y H Q)
    {ta tb : TE} (ha : ∀ (B : List Addr) (σ : Sg) (H : Hp) (ρ : DEnv) (st : Store) (m : List Addr) (Q : VK), RepE ⟨X.K, B⟩ H m ρ σ → RepSt ⟨X.K, B⟩ H m st → GoodR (Rep ⟨X.K, B⟩) (fa ρ st) Q (fun c d H' => W c d σ H') ⟨X.K, B⟩ H m → ta σ H Q)
    (hb : ∀ (B : List Addr) (σ : Sg) (H : Hp) (ρ : DEnv) (st : Store) (m : List Addr) (Q : VK), RepE ⟨X.K, B⟩ H m ρ σ → RepSt ⟨X.K, B⟩ H m st → GoodR (Rep ⟨X.K, B⟩) (fb ρ st) Q (fun c d H' => W c d σ H') ⟨X.K, B⟩ H m → tb σ H Q)
    (B : List Addr) (σ : Sg) (H : Hp) (ρ : DEnv) (st : Store) (m : List Addr) (Q : VK) (re : RepE ⟨X.K, B⟩ H m ρ σ) (rs : RepSt ⟨X.K, B⟩ H m st) (h : GoodR (Rep ⟨X.K, B⟩) (xOp g fa fb ρ st) Q (fun c d H' => W c d σ H') ⟨X.K, B⟩ H m) : tOp r ta tb σ H Q := by
  refine ha B σ H ρ st m _ re rs (good_bind h fun da s1 x H1 m1 e1 r1 rs1 h1 => ?_)
  refine hb B σ H1 ρ s1 m1 _ (re.evo e1) rs1 (good_bind h1 fun db s2 y H2 m2 e2 r2 rs2 h2 => ?_)
  obtain ⟨d, hd, q⟩ := good_lift h2
  exact hr B x y H2 m2 s2 da db d Q rs2 (Rep.evo e2 _ _ r1) r2 hd fun v H' g rv => q v H' g rs2 rv
theorem de_op {op : Operator} {g : G2} (o : DOp X (binaryOp op) g) (ha : DE X W a fa) (hb : DE X W b fb) : DE X W (.BinOp a op b pos) (xOp g fa fb) := by
  obtain ⟨r, hr, hq⟩ := o
  obtain ⟨ta, pa, qa⟩ := ha
  obtain ⟨tb, pb, qb⟩ := hb
  exact ⟨_, pe_op hr pa pb, op_run (F := binaryOp op) hq qa qb⟩
theorem de_cmp {op : CmpOp} {g : G2} (o : DOp X (compareOp op) g) (ha : DE X W a fa) (hb : DE X W b fb) (hm : behindInMarks op b = false := by first | exact nomark _ | rfl) : DE X W (.Compare a [op] [b] pos) (xOp g fa fb) := by
  obtain ⟨r, hr, hq⟩ := o
  obtain ⟨ta, pa, qa⟩ := ha
  obtain ⟨tb, pb, qb⟩ := hb
  exact ⟨_, pe_cmpR hr pa pb hm, op_run (F := compareOp op) hq qa qb⟩
theorem de_un {op : UnaryOp} {g : G1} (o : DUn X (unaryOp op) g) (ha : DE X W a fa) : DE X W (.UnaryOp op a pos) (xUn g fa) := by
  obtain ⟨r, hr, hq⟩ := o
  obtain ⟨ta, pa, qa⟩ := ha
  refine ⟨_, pe_un hr pa, fun B σ H ρ st m Q re rs h => ?_⟩
  refine qa B σ H ρ st m _ re rs (good_bind h fun da s1 x H1 m1 e1 r1 rs1 h1 => ?_)
  obtain ⟨d, hd, q⟩ := good_lift h1
  exact hq B x H1 m1 s1 da d Q rs1 r1 hd fun v H' g rv => q v H' g rs1 rv
variable {es : List Expr} {fs : Fa}
def aNil : Fa := fun _ st => .ok [] st
def aCons (f : Fe) (fs : Fa) : Fa := fun ρ st => (f ρ st).bind fun d s1 => (fs ρ s1).bind fun ds s2 => .ok (d :: ds) s2
theorem da_nil : DA X W [] aNil := ⟨⟨_, pa_nil, fun B σ H ρ st m Q re rs h => good_ok h RepL.nil rs⟩, fun ρ st ds st' h => by
  have e : Res.ok [] st = Res.ok ds st' := h
  injection e with e1 _
  subst e1; rfl⟩
theorem Res.bind_eq_ok {α β : Type} {r : Res α} {k : α → Store → Res β} {b : β} {st : Store} (h : r.bind k = .ok b st) : ∃ a s1, r = .ok a s1 ∧ k a s1 = .ok b st := by
  cases r with
  | ok a s1 => exact ⟨a, s1, rfl, h⟩
  | exc c fs st => nomatch h
  | fail => nomatch h
theorem da_cons {f : Fe} (h1 : DE X W e f) (h2 : DA X W es fs) (hs : starEach (e :: es) X.env = (false, eval e X.env) :: starEach es X.env := by rfl) : DA X W (e :: es) (aCons f fs) := by
  obtain ⟨ta, pa, qa⟩ := h1
  obtain ⟨⟨tb, pb, qb⟩, hl⟩ := h2
  refine ⟨⟨_, pa_cons pa pb hs, fun B σ H ρ st m Q re rs h => ?_⟩, fun ρ st ds st' h => ?_⟩
  · refine qa B σ H ρ st m _ re rs (good_bind h fun d s1 x H1 m1 e1 r1 rs1 h1 => ?_)
    refine qb B σ H1 ρ s1 m1 _ (re.evo e1) rs1 (good_bind h1 fun ds s2 xs H2 m2 e2 r2 rs2 h2 => ?_)
    exact good_ok h2 (RepL.cons (Rep.evo e2 _ _ r1) r2) rs2
  · obtain ⟨d, s1, _, h⟩ := Res.bind_eq_ok h
    obtain ⟨ds', s2, e2, h⟩ := Res.bind_eq_ok h
    injection h with h _
    subst h
    simp [hl _ _ _ _ e2]
theorem small_line {n : Nat} (h : n ≤ 1000) : n ≤ sizeLine := by rw [sizeLine_eq]; omega
def xTup (fs : Fa) : Fe := fun ρ st => (fs ρ st).bind fun ds s1 => .ok (.tup ds) s1
theorem de_tup {k : Nat} (h : DA X W es fs) (hn : es.length ≤ 1000 := by decide) : DE X W (.Tuple es k pos) (xTup fs) := by
  obtain ⟨⟨t, p, q⟩, hl⟩ := h
  refine ⟨_, pe_tup p, fun B σ H ρ st m Q re rs h => ?_⟩
  cases er : fs ρ st with
  | fail => rw [xTup, er] at h; exact h.elim
  | exc c f s => exact q B σ H ρ st m _ re rs (by rw [er]; rw [xTup, er] at h; exact h)
  | ok ds s1 =>
    refine q B σ H ρ st m _ re rs ?_
    rw [er]
    rw [xTup, er] at h
    intro xs H1 m1 e1 r1 rs1
    refine ⟨small_line (by rw [← r1.length, hl _ _ _ _ er]; exact hn), fun p hp => ?_⟩
    exact h (.ref p) _ m1 (e1.trans (Grow.upd hp).evo) (Rep.newT rs1 hp r1) (rs1.grow (Grow.upd hp))
/-- a list that is never changed -/
def xLst (fs : Fa) : Fe := fun ρ st => (fs ρ st).bind fun ds s1 => .ok (.lst ds) s1
/-- a list at a place of its own -/
def xNew (fs : Fa) : Fe := fun ρ st => (fs ρ st).bind fun ds s1 => .ok (.loc s1.length) (s1 ++ [.lst ds])
theorem de_lst (h : DA X W es fs) (hn : es.length ≤ 1000 := by decide) : DE X W (.List es pos) (xLst fs) := by
  obtain ⟨⟨t, p, q⟩, hl⟩ := h
  refine ⟨_, pe_lst p, fun B σ H ρ st m Q re rs h => ?_⟩
  cases er : fs ρ st with
  | fail => rw [xLst, er] at h; exact h.elim
  | exc c f s => exact q B σ H ρ st m _ re rs (by rw [er]; rw [xLst, er] at h; exact h)
  | ok ds s1 =>
    refine q B σ H ρ st m _ re rs ?_
    rw [er]
    rw [xLst, er] at h
    intro xs H1 m1 e1 r1 rs1
    refine ⟨small_line (by rw [← r1.length, hl _ _ _ _ er]; exact hn), fun p hp => ?_⟩
    exact h (.ref p) _ m1 (e1.trans (Grow.upd hp).evo) (Rep.newL rs1 hp r1) (rs1.grow (Grow.upd hp))
/-- a fresh list object becomes a place -/
theorem new_place {K : KB} {H : Hp} {m : List Addr} {st : Store} {ds : List D} {vs : List V} (rs : RepSt K H m st) (r : RepL K H m ds vs) {p : Addr} (hp : H p = none) :
    Evo H m (upd H p (.lst vs)) (m ++ [p]) ∧ Rep K (upd H p (.lst vs)) (m ++ [p]) (.loc st.length) (.ref p) ∧ RepSt K (upd H p (.lst vs)) (m ++ [p]) (st ++ [.lst ds]) :=
  ⟨.push hp, Rep.loc_iff.mpr ⟨p, rfl, by rw [← rs.len]; simp⟩, rs.push hp ⟨vs, upd_same, RepL.evo (.push hp) _ _ r⟩⟩
theorem de_new (h : DA X W es fs) (hn : es.length ≤ 1000 := by decide) : DE X W (.List es pos) (xNew fs) := by
  obtain ⟨⟨t, p, q⟩, hl⟩ := h
  refine ⟨_, pe_lst p, fun B σ H ρ st m Q re rs h => ?_⟩
  cases er : fs ρ st with
  | fail => rw [xNew, er] at h; exact h.elim
  | exc c f s => exact q B σ H ρ st m _ re rs (by rw [er]; rw [xNew, er] at h; exact h)
  | ok ds s1 =>
    refine q B σ H ρ st m _ re rs ?_
    rw [er]
    rw [xNew, er] at h
    intro xs H1 m1 e1 r1 rs1
    refine ⟨small_line (by rw [← r1.length, hl _ _ _ _ er]; exact hn), fun p hp => ?_⟩
    obtain ⟨a1, a2, a3⟩ := new_place rs1 r1 hp
    exact h (.ref p) _ _ (e1.trans a1) a2 a3
theorem de_callB {x : Str} {p : Pos} {id : String} {g : GL} (hc : DCall X (.builtin id) g) (hg : Gl X x) (hm : X.mg x = none) (hv : bootBuiltins x = some (.builtin id)) (ha : DA X W (e :: es) fs) (hn : x ≠ "__name__" := by decide) (hdb : (x == ("__debug__" : Str)) = false := by decide)
    (he : starEach (e :: es) X.env = (false, eval e X.env) :: starEach es X.env := by rfl) (hpl : (backTo pos (starEach es X.env)).any (·.1) = false := by rfl) : DE X W (.Call (.Name x p) (e :: es) [] pos) (xCall g fs) := by
  obtain ⟨r, hr, hq⟩ := hc
  obtain ⟨⟨t, pt, q⟩, _⟩ := ha
  refine ⟨_, pe_callB hr hg hm hv pt hn hdb he hpl, fun B σ H ρ st m Q re rs h => ?_⟩
  refine q B σ H ρ st m _ re rs (good_bind h fun ds s1 xs H1 m1 e1 r1 rs1 h1 => ?_)
  obtain ⟨d, hd, q⟩ := good_lift h1
  exact hq B xs H1 m1 s1 ds d Q rs1 r1 hd fun v H' g rv => q v H' g rs1 rv
theorem de_callTy {x : Str} {p : Pos} {T : String} {g : GL} (hc : DCall X (.type T) g) (hg : Gl X x) (hm : X.mg x = none) (hv : bootBuiltins x = some (.type T)) (ha : DA X W (e :: es) fs) (hn : x ≠ "__name__" := by decide) (hdb : (x == ("__debug__" : Str)) = false := by decide)
    (he : starEach (e :: es) X.env = (false, eval e X.env) :: starEach es X.env := by rfl) (hpl : (backTo pos (starEach es X.env)).any (·.1) = false := by rfl) : DE X W (.Call (.Name x p) (e :: es) [] pos) (xCall g fs) := by
  obtain ⟨r, hr, hq⟩ := hc
  obtain ⟨⟨t, pt, q⟩, _⟩ := ha
  refine ⟨_, pe_callTy hr hg hm hv pt hn hdb he hpl, fun B σ H ρ st m Q re rs h => ?_⟩
  refine q B σ H ρ st m _ re rs (good_bind h fun ds s1 xs H1 m1 e1 r1 rs1 h1 => ?_)
  obtain ⟨d, hd, q⟩ := good_lift h1
  exact hq B xs H1 m1 s1 ds d Q rs1 r1 hd fun v H' g rv => q v H' g rs1 rv
def tB : D → Option Bool
  | .bl b => some b
  | _ => none
def liftB (o : Option Bool) (st : Store) : Res Bool := match o with
  | some d => .ok d st
  | none => .fail
@[simp] theorem liftB_some (d : Bool) (st : Store) : liftB (some d) st = .ok d st := id rfl
@[simp] theorem liftB_none (st : Store) : liftB none st = .fail := id rfl
theorem good_liftB {R : Bool → Hp → Prop} {K : KB} {H : Hp} {m : List Addr} {o : Option Bool} {st : Store} {W : WH} (h : GoodR RB (liftB o st) R W K H m) : ∃ d, o = some d ∧ (RepSt K H m st → R d H) := by
  cases o with
  | none => exact h.elim
  | some d => exact ⟨d, rfl, fun rs => good_ok h rfl rs⟩
/-- a value that is a bool, as a test -/
def tVal (f : Fe) : Ft := fun ρ st => (f ρ st).bind fun d s1 => liftB (tB d) s1
theorem dt_cmp {op : CmpOp} {g : G2} (o : DOp X (compareOp op) g) (ha : DE X W a fa) (hb : DE X W b fb) (hm : behindInMarks op b = false := by first | exact nomark _ | rfl) : DT X W (.Compare a [op] [b] pos) (tVal (xOp g fa fb)) := by
  obtain ⟨r, hr, hq⟩ := o
  obtain ⟨ta, pa, qa⟩ := ha
  obtain ⟨tb, pb, qb⟩ := hb
  refine ⟨_, pt_cmpR hr pa pb hm, fun B σ H ρ st m Q re rs h => ?_⟩
  refine op_run (F := compareOp op) hq qa qb B σ H ρ st m _ re rs (good_bind h fun d s1 x H1 m1 e1 r1 rs1 h1 => ?_)
  obtain ⟨c, hc, q⟩ := good_liftB h1
  cases d with
  | bl k => cases hc; exact ⟨_, Rep.bl_iff.mp r1, q rs1⟩
  | _ => nomatch hc
theorem dt_val (ha : DE X W a fa) (he : ∀ whole, isTrue a X.env whole = (do let v ← whole; standAt a.pos; holding [v] (truthy v)) := by intro _; rfl) : DT X W a (tVal fa) := by
  obtain ⟨ta, pa, qa⟩ := ha
  refine ⟨_, pt_val pa he, fun B σ H ρ st m Q re rs h => ?_⟩
  refine qa B σ H ρ st m _ re rs (good_bind h fun d s1 x H1 m1 e1 r1 rs1 h1 => ?_)
  obtain ⟨c, hc, q⟩ := good_liftB h1
  cases d with
  | bl k => cases hc; exact ⟨_, Rep.bl_iff.mp r1, q rs1⟩
  | _ => nomatch hc
/-- what may be read as a list, as a tuple -/
def lstV (st : Store) : D → Option (List D)
  | .lst ds => some ds
  | .rol ds => some ds
  | .loc l => match st[l]? with
    | some (.lst ds) => some ds
    | _ => none
  | _ => none
def lstM (st : Store) : D → Option (List D)
  | .lst ds => some ds
  | .loc l => match st[l]? with
    | some (.lst ds) => some ds
    | _ => none
  | _ => none
def tupV : D → Option (List D)
  | .tup ds => some ds
  | _ => none
theorem lstM_rep {K : KB} {H : Hp} {m : List Addr} {st : Store} (rs : RepSt K H m st) {d : D} {v : V} {ds : List D} (r : Rep K H m d v) (h : lstM st d = some ds) : ∃ a vs, v = .ref a ∧ H a = some (.lst vs) ∧ RepL K H m ds vs := by
  cases d with
  | lst xs =>
    cases h
    obtain ⟨a, vs, h1, h2, h3⟩ := Rep.lst_iff.mp r
    exact ⟨a, vs, h1, h2.1, h3⟩
  | loc l =>
    obtain ⟨a, rfl, h1⟩ := Rep.loc_iff.mp r
    cases q : st[l]? with
    | none => simp [lstM, q] at h
    | some c =>
      simp only [lstM, q] at h
      cases c with
      | lst xs =>
        cases h
        obtain ⟨b, h2, vs, h3, h4⟩ := rs.cell l _ q
        rw [h1] at h2; cases h2
        exact ⟨a, vs, rfl, h3, h4⟩
      | dic _ => nomatch h
      | dik _ => nomatch h
      | ins _ _ => nomatch h
  | _ => nomatch h
theorem lstV_rep {K : KB} {H : Hp} {m : List Addr} {st : Store} (rs : RepSt K H m st) {d : D} {v : V} {ds : List D} (r : Rep K H m d v) (h : lstV st d = some ds) : ∃ a vs, v = .ref a ∧ SqL K.K H a vs ∧ RepL K H m ds vs := by
  cases d with
  | lst xs => cases h; exact r.lst_sq
  | rol xs => cases h; exact r.rol_sq
  | loc l =>
    obtain ⟨a, vs, h1, h2, h3⟩ := lstM_rep (ds := ds) rs r h
    exact ⟨a, vs, h1, .of h2, h3⟩
  | _ => nomatch h
theorem tupV_rep {K : KB} {H : Hp} {m : List Addr} {d : D} {v : V} {ds : List D} (r : Rep K H m d v) (h : tupV d = some ds) : ∃ a vs, v = .ref a ∧ SqT K.K H a vs ∧ RepL K H m ds vs := by
  cases d with
  | tup xs => cases h; exact r.tup_sq
  | _ => nomatch h
/-- truth -/
def truD (st : Store) (d : D) : Option Bool := match d with
  | .non => some false
  | .bl b => some b
  | .int i => some (i != 0)
  | .str y => if y.length ≤ sizeLine then some ((y.length : Int) != 0) else none
  | .tup ds => some (!ds.isEmpty)
  | d => (lstV st d).map fun ds => !ds.isEmpty
theorem isEmpty_len {α β : Type} {xs : List α} {ys : List β} (h : xs.length = ys.length) : xs.isEmpty = ys.isEmpty := by
  cases xs <;> cases ys <;> simp_all
theorem truD_rep {K : KB} {H : Hp} {m : List Addr} {st : Store} (rs : RepSt K H m st) {d : D} {v : V} {k : Bool} (r : Rep K H m d v) (h : truD st d = some k) : TruV K.K v H k := by
  have ls : ∀ {d : D}, Rep K H m d v → (lstV st d).map (fun ds => !ds.isEmpty) = some k → TruV K.K v H k := fun {d} r h => by
    obtain ⟨ds, h1, h2⟩ := Option.map_eq_some_iff.mp h
    obtain ⟨a, vs, rfl, h3, h4⟩ := lstV_rep rs r h1
    exact .inl ⟨vs, h3, by rw [← h2, isEmpty_len h4.length]⟩
  cases d with
  | non => cases Rep.non_iff.mp r; cases h; rfl
  | bl b => cases Rep.bl_iff.mp r; cases h; rfl
  | int i => cases Rep.int_iff.mp r; cases h; rfl
  | str y =>
    cases Rep.str_iff.mp r
    unfold truD at h
    simp only at h
    split at h
    · rename_i hy; cases h; exact ⟨hy, rfl⟩
    · nomatch h
  | tup ds =>
    obtain ⟨a, vs, rfl, h3, h4⟩ := r.tup_sq
    cases h
    exact .inr (.inl ⟨vs, h3, by rw [isEmpty_len h4.length]⟩)
  | lst ds => exact ls r h
  | rol ds => exact ls r h
  | loc l => exact ls r h
  | ty n => nomatch h
  | ob a => nomatch h
  | fn a => nomatch h
  | dct ks ds => nomatch h
  | obj c ds => nomatch h
  | exo c f ds => nomatch h
def tTru (f : Fe) : Ft := fun ρ st => (f ρ st).bind fun d s1 => liftB (truD s1 d) s1
theorem dt_tru (ha : DE X W a fa) (he : ∀ whole, isTrue a X.env whole = (do let v ← whole; standAt a.pos; holding [v] (truthy v)) := by intro _; rfl) : DT X W a (tTru fa) := by
  obtain ⟨ta, pa, qa⟩ := ha
  refine ⟨_, pt_truth pa he, fun B σ H ρ st m Q re rs h => ?_⟩
  refine qa B σ H ρ st m _ re rs (good_bind h fun d s1 x H1 m1 e1 r1 rs1 h1 => ?_)
  obtain ⟨c, hc, q⟩ := good_liftB h1
  exact ⟨c, truD_rep rs1 r1 hc, q rs1⟩
/-- and, or as tests -/
structure DW (X : Cx) (W : WX) (e : Expr) (f : Ft) : Prop where
  ex : ∃ t : TT, PW X e t ∧ ∀ (B : List Addr) (σ : Sg) (H : Hp) (ρ : DEnv) (st : Store) (m : List Addr) (Q : Bool → Hp → Prop), RepE ⟨X.K, B⟩ H m ρ σ → RepSt ⟨X.K, B⟩ H m st → GoodR RB (f ρ st) Q (fun c d H' => W c d σ H') ⟨X.K, B⟩ H m → t σ H Q
theorem DW.dt {f : Ft} (h : DW X W e f) : DT X W e f := let ⟨t, p, q⟩ := h; ⟨t, p.pt, q⟩
variable {ft gt : Ft} {rest : List Expr}
theorem dw_and1 (h : DT X W a ft) : DW X W (.BoolOp .And [a] pos) ft := let ⟨⟨t, p, q⟩⟩ := h; ⟨t, pw_and1 p, q⟩
theorem dw_or1 (h : DT X W a ft) : DW X W (.BoolOp .Or [a] pos) ft := let ⟨⟨t, p, q⟩⟩ := h; ⟨t, pw_or1 p, q⟩
def tAndF (f g : Ft) : Ft := fun ρ st => (f ρ st).bind fun b s1 => if b = true then g ρ s1 else .ok false s1
def tOrF (f g : Ft) : Ft := fun ρ st => (f ρ st).bind fun b s1 => if b = true then .ok true s1 else g ρ s1
def tNotF (f : Ft) : Ft := fun ρ st => (f ρ st).bind fun b s1 => .ok (!b) s1
theorem dw_and (ha : DT X W a ft) (hb : DW X W (.BoolOp .And (b :: rest) pos) gt) : DW X W (.BoolOp .And (a :: b :: rest) pos) (tAndF ft gt) := by
  obtain ⟨ta, pa, qa⟩ := ha
  obtain ⟨tb, pb, qb⟩ := hb
  refine ⟨_, pw_and pa pb, fun B σ H ρ st m Q re rs h => ?_⟩
  refine qa B σ H ρ st m _ re rs (good_bind h fun d s1 x H1 m1 e1 r1 rs1 h1 => ?_)
  cases (show x = d from r1)
  cases d with
  | true => rw [if_pos rfl] at h1 ⊢; exact qb B σ H1 ρ s1 m1 Q (re.evo e1) rs1 h1
  | false => rw [if_neg Bool.false_ne_true] at h1 ⊢; exact good_ok h1 rfl rs1
theorem dw_or (ha : DT X W a ft) (hb : DW X W (.BoolOp .Or (b :: rest) pos) gt) : DW X W (.BoolOp .Or (a :: b :: rest) pos) (tOrF ft gt) := by
  obtain ⟨ta, pa, qa⟩ := ha
  obtain ⟨tb, pb, qb⟩ := hb
  refine ⟨_, pw_or pa pb, fun B σ H ρ st m Q re rs h => ?_⟩
  refine qa B σ H ρ st m _ re rs (good_bind h fun d s1 x H1 m1 e1 r1 rs1 h1 => ?_)
  cases (show x = d from r1)
  cases d with
  | true => rw [if_pos rfl] at h1 ⊢; exact good_ok h1 rfl rs1
  | false => rw [if_neg Bool.false_ne_true] at h1 ⊢; exact qb B σ H1 ρ s1 m1 Q (re.evo e1) rs1 h1
theorem dt_not (ha : DT X W a ft) : DT X W (.UnaryOp .Not a pos) (tNotF ft) := by
  obtain ⟨ta, pa, qa⟩ := ha
  refine ⟨_, pt_not pa, fun B σ H ρ st m Q re rs h => ?_⟩
  refine qa B σ H ρ st m _ re rs (good_bind h fun d s1 x H1 m1 e1 r1 rs1 h1 => ?_)
  cases (show x = d from r1)
  exact good_ok h1 rfl rs1
/-- .. as values -/
def xAndF (f g : Fe) : Fe := fun ρ st => (f ρ st).bind fun d s1 => match d with
  | .bl true => g ρ s1
  | .bl false => .ok (.bl false) s1
  | _ => .fail
def xOrF (f g : Fe) : Fe := fun ρ st => (f ρ st).bind fun d s1 => match d with
  | .bl true => .ok (.bl true) s1
  | .bl false => g ρ s1
  | _ => .fail
def xNotF (f : Fe) : Fe := fun ρ st => (f ρ st).bind fun d s1 => match d with
  | .bl b => .ok (.bl (!b)) s1
  | _ => .fail
theorem de_one {op} (h : DE X W a fa) : DE X W (.BoolOp op [a] pos) fa := let ⟨⟨t, p, q⟩⟩ := h; ⟨t, pe_one p, q⟩
theorem de_and (ha : DE X W a fa) (hb : DE X W (.BoolOp .And (b :: rest) pos) fb) : DE X W (.BoolOp .And (a :: b :: rest) pos) (xAndF fa fb) := by
  obtain ⟨ta, pa, qa⟩ := ha
  obtain ⟨tb, pb, qb⟩ := hb
  refine ⟨_, pe_and pa pb, fun B σ H ρ st m Q re rs h => ?_⟩
  refine qa B σ H ρ st m _ re rs (good_bind h fun d s1 x H1 m1 e1 r1 rs1 h1 => ?_)
  cases d with
  | bl k =>
    cases Rep.bl_iff.mp r1
    refine ⟨k, rfl, ?_⟩
    cases k with
    | true => rw [if_pos rfl]; exact qb B σ H1 ρ s1 m1 Q (re.evo e1) rs1 h1
    | false => rw [if_neg Bool.false_ne_true]; exact good_ok h1 (Rep.bl_iff.mpr rfl) rs1
  | _ => exact h1.elim
theorem de_or (ha : DE X W a fa) (hb : DE X W (.BoolOp .Or (b :: rest) pos) fb) : DE X W (.BoolOp .Or (a :: b :: rest) pos) (xOrF fa fb) := by
  obtain ⟨ta, pa, qa⟩ := ha
  obtain ⟨tb, pb, qb⟩ := hb
  refine ⟨_, pe_or pa pb, fun B σ H ρ st m Q re rs h => ?_⟩
  refine qa B σ H ρ st m _ re rs (good_bind h fun d s1 x H1 m1 e1 r1 rs1 h1 => ?_)
  cases d with
  | bl k =>
    cases Rep.bl_iff.mp r1
    refine ⟨k, rfl, ?_⟩
    cases k with
    | true => rw [if_pos rfl]; exact good_ok h1 (Rep.bl_iff.mpr rfl) rs1
    | false => rw [if_neg Bool.false_ne_true]; exact qb B σ H1 ρ s1 m1 Q (re.evo e1) rs1 h1
  | _ => exact h1.elim
theorem de_not (ha : DE X W a fa) : DE X W (.UnaryOp .Not a pos) (xNotF fa) := by
  obtain ⟨ta, pa, qa⟩ := ha
  refine ⟨_, pe_not pa, fun B σ H ρ st m Q re rs h => ?_⟩
  refine qa B σ H ρ st m _ re rs (good_bind h fun d s1 x H1 m1 e1 r1 rs1 h1 => ?_)
  cases d with
  | bl k => exact ⟨k, Rep.bl_iff.mp r1, good_ok h1 (Rep.bl_iff.mpr rfl) rs1⟩
  | _ => exact h1.elim
def xIf (c : Ft) (f g : Fe) : Fe := fun ρ st => (c ρ st).bind fun b s1 => if b = true then f ρ s1 else g ρ s1
theorem de_if {c : Expr} (hc : DT X W c ft) (ha : DE X W a fa) (hb : DE X W b fb) : DE X W (.IfExp c a b pos) (xIf ft fa fb) := by
  obtain ⟨tc, pc, qc⟩ := hc
  obtain ⟨ta, pa, qa⟩ := ha
  obtain ⟨tb, pb, qb⟩ := hb
  refine ⟨_, pe_ifExp pc pa pb, fun B σ H ρ st m Q re rs h => ?_⟩
  refine qc B σ H ρ st m _ re rs (good_bind h fun d s1 x H1 m1 e1 r1 rs1 h1 => ?_)
  cases (show x = d from r1)
  cases d with
  | true => rw [if_pos rfl] at h1 ⊢; exact qa B σ H1 ρ s1 m1 Q (re.evo e1) rs1 h1
  | false => rw [if_neg Bool.false_ne_true] at h1 ⊢; exact qb B σ H1 ρ s1 m1 Q (re.evo e1) rs1 h1
/-- a < b < c -/
def xChain (g g' : G2) (fa fb fc : Fe) : Fe := fun ρ st => (fa ρ st).bind fun da s1 => (fb ρ s1).bind fun db s2 => (lift (g s2 da db) s2).bind fun k s3 => match k with
  | .bl true => (fc ρ s3).bind fun dc s4 => lift (g' s4 db dc) s4
  | .bl false => .ok (.bl false) s3
  | _ => .fail
theorem chain_run {op op' : CmpOp} {g g' : G2} {r r' : R2} {c : Expr} {fc : Fe} (hr : ∀ (B : List Addr) (x y : V) (H : Hp) (m : List Addr) (st : Store) (da db d : D) (Q : VK), RepSt ⟨X.K, B⟩ H m st → Rep ⟨X.K, B⟩ H m da x → Rep ⟨X.K, B⟩ H m db y → g st da db = some d → (∀ v H', Grow H H' → Rep ⟨X.K, B⟩ H' m d v → Q v H') → r x y H Q)
    (hr' : ∀ (B : List Addr) (x y : V) (H : Hp) (m : List Addr) (st : Store) (da db d : D) (Q : VK), RepSt ⟨X.K, B⟩ H m st → Rep ⟨X.K, B⟩ H m da x → Rep ⟨X.K, B⟩ H m db y → g' st da db = some d → (∀ v H', Grow H H' → Rep ⟨X.K, B⟩ H' m d v → Q v H') → r' x y H Q)
    {ta tb tc : TE} (ha : ∀ (B : List Addr) (σ : Sg) (H : Hp) (ρ : DEnv) (st : Store) (m : List Addr) (Q : VK), RepE ⟨X.K, B⟩ H m ρ σ → RepSt ⟨X.K, B⟩ H m st → GoodR (Rep ⟨X.K, B⟩) (fa ρ st) Q (fun c d H' => W c d σ H') ⟨X.K, B⟩ H m → ta σ H Q)
    (hb : ∀ (B : List Addr) (σ : Sg) (H : Hp) (ρ : DEnv) (st : Store) (m : List Addr) (Q : VK), RepE ⟨X.K, B⟩ H m ρ σ → RepSt ⟨X.K, B⟩ H m st → GoodR (Rep ⟨X.K, B⟩) (fb ρ st) Q (fun c d H' => W c d σ H') ⟨X.K, B⟩ H m → tb σ H Q)
    (hc : ∀ (B : List Addr) (σ : Sg) (H : Hp) (ρ : DEnv) (st : Store) (m : List Addr) (Q : VK), RepE ⟨X.K, B⟩ H m ρ σ → RepSt ⟨X.K, B⟩ H m st → GoodR (Rep ⟨X.K, B⟩) (fc ρ st) Q (fun c d H' => W c d σ H') ⟨X.K, B⟩ H m → tc σ H Q)
    (B : List Addr) (σ : Sg) (H : Hp) (ρ : DEnv) (st : Store) (m : List Addr) (Q : VK) (re : RepE ⟨X.K, B⟩ H m ρ σ) (rs : RepSt ⟨X.K, B⟩ H m st) (h : GoodR (Rep ⟨X.K, B⟩) (xChain g g' fa fb fc ρ st) Q (fun c d H' => W c d σ H') ⟨X.K, B⟩ H m) : tChain r r' ta tb tc σ H Q := by
  refine ha B σ H ρ st m _ re rs (good_bind h fun da s1 x H1 m1 e1 r1 rs1 h1 => ?_)
  refine hb B σ H1 ρ s1 m1 _ (re.evo e1) rs1 (good_bind h1 fun db s2 y H2 m2 e2 r2 rs2 h2 => ?_)
  cases hg : g s2 da db with
  | none => rw [hg] at h2; exact h2.elim
  | some d =>
    rw [hg] at h2
    refine hr B x y H2 m2 s2 da db d _ rs2 (Rep.evo e2 _ _ r1) r2 hg fun v H3 gr rv => ?_
    simp only [lift_some, Res.bind_ok] at h2
    cases d with
    | bl k =>
      refine ⟨k, Rep.bl_iff.mp rv, ?_⟩
      cases k with
      | true =>
        rw [if_pos rfl]
        refine hc B σ H3 ρ s2 m2 _ ((re.evo e1).evo (e2.trans gr.evo)) (rs2.grow gr) (good_bind (h2.evo gr.evo) fun dc s4 z H4 m4 e4 r4 rs4 h4 => ?_)
        obtain ⟨d, hd, q⟩ := good_lift h4
        exact hr' B y z H4 m4 s4 db dc d Q rs4 (Rep.evo (gr.evo.trans e4) _ _ r2) r4 hd fun v H' g rv => q v H' g rs4 rv
      | false => rw [if_neg Bool.false_ne_true]; exact h2 _ H3 m2 gr.evo (Rep.bl_iff.mpr rfl) (rs2.grow gr)
    | _ => exact h2.elim
theorem dt_chain {op op' : CmpOp} {g g' : G2} {c : Expr} {fc : Fe} (o : DOp X (compareOp op) g) (o' : DOp X (compareOp op') g') (ha : DE X W a fa) (hb : DE X W b fb) (hc : DE X W c fc)
    (hm : lastMarks [op, op'] [b, c] = false := by with_unfolding_all rfl) : DT X W (.Compare a [op, op'] [b, c] pos) (tVal (xChain g g' fa fb fc)) := by
  obtain ⟨r, hr, hq⟩ := o
  obtain ⟨r', hr', hq'⟩ := o'
  obtain ⟨ta, pa, qa⟩ := ha
  obtain ⟨tb, pb, qb⟩ := hb
  obtain ⟨tc, pc, qc⟩ := hc
  refine ⟨_, pt_chain hr hr' pa pb pc hm, fun B σ H ρ st m Q re rs h => ?_⟩
  refine chain_run (c := c) (op := op) (op' := op') hq hq' qa qb qc B σ H ρ st m _ re rs (good_bind h fun d s1 x H1 m1 e1 r1 rs1 h1 => ?_)
  obtain ⟨c, hc, q⟩ := good_liftB h1
  cases d with
  | bl k => cases hc; exact ⟨_, Rep.bl_iff.mp r1, q rs1⟩
  | _ => nomatch hc
theorem de_chain {op op' : CmpOp} {g g' : G2} {c : Expr} {fc : Fe} (o : DOp X (compareOp op) g) (o' : DOp X (compareOp op') g') (ha : DE X W a fa) (hb : DE X W b fb) (hc : DE X W c fc)
    (hm : lastMarks [op, op'] [b, c] = false := by with_unfolding_all rfl) : DE X W (.Compare a [op, op'] [b, c] pos) (xChain g g' fa fb fc) := by
  obtain ⟨r, hr, hq⟩ := o
  obtain ⟨r', hr', hq'⟩ := o'
  obtain ⟨ta, pa, qa⟩ := ha
  obtain ⟨tb, pb, qb⟩ := hb
  obtain ⟨tc, pc, qc⟩ := hc
  exact ⟨_, pe_chain hr hr' pa pb pc hm, chain_run (c := c) (op := op) (op' := op') hq hq' qa qb qc⟩
structure DIx (X : Cx) (g : G2) : Prop where
  ex : ∃ r : R2, IxR X r ∧ ∀ (B : List Addr) (x y : V) (H : Hp) (m : List Addr) (st : Store) (da db d : D) (Q : VK), RepSt ⟨X.K, B⟩ H m st → Rep ⟨X.K, B⟩ H m da x → Rep ⟨X.K, B⟩ H m db y → g st da db = some d →
    (∀ v H', Grow H H' → Rep ⟨X.K, B⟩ H' m d v → Q v H') → r x y H Q
theorem de_ix {g : G2} (o : DIx X g) (ha : DE X W a fa) (hb : DE X W b fb) (hs : PlainIx b := by intro _ _; rfl) : DE X W (.Subscript a b pos) (xOp g fa fb) := by
  obtain ⟨r, hr, hq⟩ := o
  obtain ⟨ta, pa, qa⟩ := ha
  obtain ⟨tb, pb, qb⟩ := hb
  exact ⟨_, pe_ix hr pa pb hs, op_run (F := fun _ _ => pure .none) hq qa qb⟩
abbrev Fo := DEnv → Store → Res (Option Int)
structure DO (X : Cx) (W : WX) (e : Option Expr) (f : Fo) : Prop where
  ex : ∃ t : TO, PO X e t ∧ ∀ (B : List Addr) (σ : Sg) (H : Hp) (ρ : DEnv) (st : Store) (m : List Addr) (Q : Option Int → Hp → Prop), RepE ⟨X.K, B⟩ H m ρ σ → RepSt ⟨X.K, B⟩ H m st → GoodR (fun _ _ (b c : Option Int) => c = b) (f ρ st) Q (fun c d H' => W c d σ H') ⟨X.K, B⟩ H m → t σ H Q
def oNone : Fo := fun _ st => .ok none st
def oSome (f : Fe) : Fo := fun ρ st => (f ρ st).bind fun d s1 => match d with
  | .int i => .ok (some i) s1
  | _ => .fail
theorem do_none : DO X W none oNone := ⟨_, po_none, fun B σ H ρ st m Q re rs h => good_ok h rfl rs⟩
theorem do_some (ha : DE X W a fa) : DO X W (some a) (oSome fa) := by
  obtain ⟨ta, pa, qa⟩ := ha
  refine ⟨_, po_some pa, fun B σ H ρ st m Q re rs h => ?_⟩
  refine qa B σ H ρ st m _ re rs (good_bind h fun d s1 x H1 m1 e1 r1 rs1 h1 => ?_)
  cases d with
  | int i => exact ⟨i, Rep.int_iff.mp r1, good_ok h1 rfl rs1⟩
  | _ => exact h1.elim
abbrev GS := Store → D → Option Int → Option Int → Option D
structure DSl (X : Cx) (g : GS) : Prop where
  ex : ∃ r, SlR X r ∧ ∀ (B : List Addr) (x : V) (lo hi : Option Int) (H : Hp) (m : List Addr) (st : Store) (da d : D) (Q : VK), RepSt ⟨X.K, B⟩ H m st → Rep ⟨X.K, B⟩ H m da x → g st da lo hi = some d →
    (∀ v H', Grow H H' → Rep ⟨X.K, B⟩ H' m d v → Q v H') → r x lo hi H Q
def xSl (g : GS) (fa : Fe) (fl fh : Fo) : Fe := fun ρ st => (fa ρ st).bind fun da s1 => (fl ρ s1).bind fun lo s2 => (fh ρ s2).bind fun hi s3 => lift (g s3 da lo hi) s3
theorem de_sl {g : GS} {lo hi : Option Expr} {fl fh : Fo} {p2 : Pos} (o : DSl X g) (ha : DE X W a fa) (hl : DO X W lo fl) (hh : DO X W hi fh) : DE X W (.Subscript a (.Slice lo hi none p2) pos) (xSl g fa fl fh) := by
  obtain ⟨r, hr, hq⟩ := o
  obtain ⟨ta, pa, qa⟩ := ha
  obtain ⟨tl, pl, ql⟩ := hl
  obtain ⟨th, ph, qh⟩ := hh
  refine ⟨_, pe_slice hr pa pl ph, fun B σ H ρ st m Q re rs h => ?_⟩
  refine qa B σ H ρ st m _ re rs (good_bind h fun da s1 x H1 m1 e1 r1 rs1 h1 => ?_)
  refine ql B σ H1 ρ s1 m1 _ (re.evo e1) rs1 (good_bind h1 fun l s2 l' H2 m2 e2 r2 rs2 h2 => ?_)
  refine qh B σ H2 ρ s2 m2 _ (re.evo (e1.trans e2)) rs2 (good_bind h2 fun u s3 u' H3 m3 e3 r3 rs3 h3 => ?_)
  cases (show l' = l from r2)
  cases (show u' = u from r3)
  obtain ⟨d, hd, q⟩ := good_lift h3
  exact hq B x _ _ H3 m3 s3 da d Q rs3 (Rep.evo (e2.trans e3) _ _ r1) hd fun v H' g rv => q v H' g rs3 rv
end
end DL
namespace DL
open PySem PySem.Spec PyProof.Rows L2
variable [TabsCtx]
mutual
def D.beq : D → D → Bool
  | .non, .non => true
  | .bl a, .bl b => a == b
  | .int a, .int b => a == b
  | .str a, .str b => a == b
  | .ty a, .ty b => a == b
  | .ob a, .ob b => a == b
  | .tup a, .tup b => D.beqL a b
  | .lst a, .lst b => D.beqL a b
  | .rol a, .rol b => D.beqL a b
  | .loc a, .loc b => a == b
  | .fn a, .fn b => a == b
  | .dct ks a, .dct js b => decide (ks = js) && D.beqL a b
  | .obj c a, .obj d b => decide (c = d) && D.beqL a b
  | .exo c f a, .exo d g b => decide (c = d) && (decide (f = g) && D.beqL a b)
  | _, _ => false
def D.beqL : List D → List D → Bool
  | [], [] => true
  | a :: r, b :: s => D.beq a b && D.beqL r s
  | _, _ => false
end
mutual
theorem D.beq_refl : ∀ a : D, D.beq a a = true
  | .non => rfl
  | .bl a => by simp [D.beq]
  | .int a => by simp [D.beq]
  | .str a => by simp [D.beq]
  | .ty a => by simp [D.beq]
  | .ob a => by simp [D.beq]
  | .tup a => by simp [D.beq, D.beqL_refl a]
  | .lst a => by simp [D.beq, D.beqL_refl a]
  | .rol a => by simp [D.beq, D.beqL_refl a]
  | .loc a => by simp [D.beq]
  | .fn a => by simp [D.beq]
  | .dct ks a => by simp [D.beq, D.beqL_refl a]
  | .obj c a => by simp [D.beq, D.beqL_refl a]
  | .exo c f a => by simp [D.beq, D.beqL_refl a]
theorem D.beqL_refl : ∀ a : List D, D.beqL a a = true
  | [] => rfl
  | a :: r => by simp [D.beqL, D.beq_refl a, D.beqL_refl r]
end
mutual
theorem D.beq_eq : ∀ (a b : D), D.beq a b = true → a = b
  | .non, b, h => by cases b <;> simp_all [D.beq]
  | .bl a, b, h => by cases b <;> simp_all [D.beq]
  | .int a, b, h => by cases b <;> simp_all [D.beq]
  | .str a, b, h => by cases b <;> simp_all [D.beq]
  | .ty a, b, h => by cases b <;> simp_all [D.beq]
  | .ob a, b, h => by cases b <;> simp_all [D.beq]
  | .tup a, b, h => by
    cases b with
    | tup c => rw [D.beqL_eq a c (by simpa [D.beq] using h)]
    | _ => simp [D.beq] at h
  | .lst a, b, h => by
    cases b with
    | lst c => rw [D.beqL_eq a c (by simpa [D.beq] using h)]
    | _ => simp [D.beq] at h
  | .rol a, b, h => by
    cases b with
    | rol c => rw [D.beqL_eq a c (by simpa [D.beq] using h)]
    | _ => simp [D.beq] at h
  | .loc a, b, h => by cases b <;> simp_all [D.beq]
  | .fn a, b, h => by cases b <;> simp_all [D.beq]
  | .dct ks a, b, h => by
    cases b with
    | dct js c =>
      simp only [D.beq, Bool.and_eq_true, decide_eq_true_eq] at h
      rw [h.1, D.beqL_eq a c h.2]
    | _ => simp [D.beq] at h
  | .obj x a, b, h => by
    cases b with
    | obj y c =>
      simp only [D.beq, Bool.and_eq_true, decide_eq_true_eq] at h
      rw [h.1, D.beqL_eq a c h.2]
    | _ => simp [D.beq] at h
  | .exo x f a, b, h => by
    cases b with
    | exo y g c =>
      simp only [D.beq, Bool.and_eq_true, decide_eq_true_eq] at h
      rw [h.1, h.2.1, D.beqL_eq a c h.2.2]
    | _ => simp [D.beq] at h
theorem D.beqL_eq : ∀ (a b : List D), D.beqL a b = true → a = b
  | [], b, h => by cases b with
    | nil => rfl
    | cons x y => simp [D.beqL] at h
  | a :: r, b, h => by
    cases b with
    | nil => simp [D.beqL] at h
    | cons x y =>
      simp only [D.beqL, Bool.and_eq_true] at h
      rw [D.beq_eq a x h.1, D.beqL_eq r y h.2]
end
def beqP {κ : Type} [DecidableEq κ] : List (κ × D) → List (κ × D) → Bool
  | [], [] => true
  | (k, a) :: r, (j, b) :: s => decide (k = j) && D.beq a b && beqP r s
  | _, _ => false
theorem beqP_refl {κ : Type} [DecidableEq κ] : ∀ a : List (κ × D), beqP a a = true
  | [] => rfl
  | (k, a) :: r => by simp [beqP, D.beq_refl, beqP_refl r]
theorem beqP_eq {κ : Type} [DecidableEq κ] : ∀ (a b : List (κ × D)), beqP a b = true → a = b
  | [], b, h => by cases b with
    | nil => rfl
    | cons x y => simp [beqP] at h
  | (k, a) :: r, b, h => by
    cases b with
    | nil => simp [beqP] at h
    | cons x y =>
      obtain ⟨j, x⟩ := x
      simp only [beqP, Bool.and_eq_true, decide_eq_true_eq] at h
      rw [h.1.1, D.beq_eq a x h.1.2, beqP_eq r y h.2]
def beqO : List (Option D) → List (Option D) → Bool
  | [], [] => true
  | none :: r, none :: s => beqO r s
  | some a :: r, some b :: s => D.beq a b && beqO r s
  | _, _ => false
theorem beqO_refl : ∀ a : List (Option D), beqO a a = true
  | [] => rfl
  | none :: r => by simp [beqO, beqO_refl r]
  | some a :: r => by simp [beqO, D.beq_refl, beqO_refl r]
theorem beqO_eq : ∀ (a b : List (Option D)), beqO a b = true → a = b
  | [], b, h => by cases b with
    | nil => rfl
    | cons x y => simp [beqO] at h
  | none :: r, b, h => by
    cases b with
    | nil => simp [beqO] at h
    | cons x y => cases x with
      | none => rw [beqO_eq r y (by simpa [beqO] using h)]
      | some z => simp [beqO] at h
  | some a :: r, b, h => by
    cases b with
    | nil => simp [beqO] at h
    | cons x y => cases x with
      | none => simp [beqO] at h
      | some z =>
        simp only [beqO, Bool.and_eq_true] at h
        rw [D.beq_eq a z h.1, beqO_eq r y h.2]
def Cell.beq : Cell → Cell → Bool
  | .lst a, .lst b => D.beqL a b
  | .dic a, .dic b => beqP a b
  | .dik a, .dik b => beqP a b
  | .ins C a, .ins D b => decide (C = D) && beqO a b
  | _, _ => false
theorem Cell.beq_refl (a : Cell) : Cell.beq a a = true := by
  cases a <;> simp [Cell.beq, D.beqL_refl, beqP_refl, beqO_refl]
theorem Cell.beq_eq (a b : Cell) (h : Cell.beq a b = true) : a = b := by
  cases a <;> cases b <;> simp only [Cell.beq, Bool.and_eq_true, decide_eq_true_eq] at h <;> try (exact absurd h Bool.false_ne_true)
  · rw [D.beqL_eq _ _ h]
  · rw [beqP_eq _ _ h]
  · rw [beqP_eq _ _ h]
  · rw [h.1, beqO_eq _ _ h.2]
def Store.beq : Store → Store → Bool
  | [], [] => true
  | a :: r, b :: s => Cell.beq a b && Store.beq r s
  | _, _ => false
theorem Store.beq_refl : ∀ a : Store, Store.beq a a = true
  | [] => rfl
  | a :: r => by simp [Store.beq, Cell.beq_refl, Store.beq_refl r]
theorem Store.beq_eq : ∀ (a b : Store), Store.beq a b = true → a = b
  | [], b, h => by cases b with
    | nil => rfl
    | cons x y => simp [Store.beq] at h
  | a :: r, b, h => by
    cases b with
    | nil => simp [Store.beq] at h
    | cons x y =>
      simp only [Store.beq, Bool.and_eq_true] at h
      rw [Cell.beq_eq a x h.1, Store.beq_eq r y h.2]
mutual
/-- no place from n on -/
def D.und (n : Nat) : D → Bool
  | .loc l => decide (l < n)
  | .tup ds => D.undL n ds
  | .lst ds => D.undL n ds
  | .rol ds => D.undL n ds
  | .dct _ ds => D.undL n ds
  | .obj _ ds => D.undL n ds
  | .exo _ _ ds => D.undL n ds
  | _ => true
def D.undL (n : Nat) : List D → Bool
  | [] => true
  | d :: ds => D.und n d && D.undL n ds
end
def belowP {κ : Type} (n : Nat) : List (κ × D) → Bool
  | [] => true
  | (_, d) :: r => D.und n d && belowP n r
def belowO (n : Nat) : List (Option D) → Bool
  | [] => true
  | none :: r => belowO n r
  | some d :: r => D.und n d && belowO n r
section
variable {K : KB} {H : Hp} {m : List Addr}
theorem RepP.unzip : ∀ {kvs : List (Key × D)} {vs : List (Key × V)}, RepP K H m kvs vs → RepL K H m (kvs.map (·.2)) (vs.map (·.2)) ∧ vs = (kvs.map (·.1)).zip (vs.map (·.2))
  | [], _, h => by cases (show _ = [] from h); exact ⟨.nil, rfl⟩
  | (k, d) :: r, _, ⟨v, t, e, h1, h2⟩ => by
    obtain ⟨a, b⟩ := RepP.unzip h2
    rw [e]
    refine ⟨.cons h1 a, ?_⟩
    simp only [List.map_cons, List.zip_cons_cons]
    rw [← b]
end
def Cell.below (n : Nat) : Cell → Bool
  | .lst ds => D.undL n ds
  | .dic kvs => belowP n kvs
  | .dik kvs => belowP n kvs
  | .ins _ fs => belowO n fs
def Store.below (n : Nat) : Store → Bool
  | [] => true
  | c :: s => Cell.below n c && Store.below n s
theorem Store.below_get {n : Nat} : ∀ {s : Store} {l : Nat} {c : Cell}, Store.below n s = true → s[l]? = some c → Cell.below n c = true
  | [], _, _, _, h => by simp at h
  | a :: s, 0, c, h, q => by simp only [Store.below, Bool.and_eq_true] at h; simp at q; subst q; exact h.1
  | a :: s, l + 1, c, h, q => by simp only [Store.below, Bool.and_eq_true] at h; exact Store.below_get h.2 (by simpa using q)
section
variable {K : KB} {H : Hp} {m e : List Addr} {n : Nat}
mutual
theorem Rep.below : ∀ {d : D} {v : V}, Rep K H m d v → D.und m.length d = true
  | .loc l, _, h => by
    obtain ⟨a, _, h1⟩ := Rep.loc_iff.mp h
    simp only [D.und, decide_eq_true_eq]
    exact (List.getElem?_eq_some_iff.mp h1).1
  | .tup ds, _, h => by obtain ⟨a, vs, _, _, h2⟩ := Rep.tup_iff.mp h; simp only [D.und]; exact RepL.below h2
  | .lst ds, _, h => by obtain ⟨a, vs, _, _, h2⟩ := Rep.lst_iff.mp h; simp only [D.und]; exact RepL.below h2
  | .rol ds, _, h => by obtain ⟨a, vs, _, _, h2⟩ := Rep.rol_iff.mp h; simp only [D.und]; exact RepL.below h2
  | .non, _, _ => rfl
  | .bl _, _, _ => rfl
  | .int _, _, _ => rfl
  | .str _, _, _ => rfl
  | .ty _, _, _ => rfl
  | .ob _, _, _ => rfl
  | .fn _, _, _ => rfl
  | .dct ks ds, _, h => by obtain ⟨a, vs, _, _, _, h2⟩ := Rep.dct_iff.mp h; simp only [D.und]; exact RepL.below h2
  | .obj c ds, _, h => by obtain ⟨a, dx, vs, _, _, h2⟩ := Rep.obj_iff.mp h; simp only [D.und]; exact RepL.below h2
  | .exo c f ds, _, h => by obtain ⟨a, dx, vs, _, _, h2⟩ := Rep.exo_iff.mp h; simp only [D.und]; exact RepL.below h2
theorem RepL.below : ∀ {ds : List D} {vs : List V}, RepL K H m ds vs → D.undL m.length ds = true
  | [], _, _ => rfl
  | d :: ds, _, h => by
    obtain ⟨v, r, _, h1, h2⟩ := h.inv_cons
    simp only [D.undL, Bool.and_eq_true]
    exact ⟨Rep.below h1, RepL.below h2⟩
end
theorem RepP.below {κ : Type} : ∀ {ds : List (κ × D)} {vs : List (κ × V)}, RepP K H m ds vs → belowP m.length ds = true
  | [], _, _ => rfl
  | (k, d) :: ds, _, ⟨v, r, _, h1, h2⟩ => by
    simp only [belowP, Bool.and_eq_true]
    exact ⟨Rep.below h1, RepP.below h2⟩
theorem RepO.below : ∀ {ds : List (Option D)} {vs : List (Option V)}, RepO K H m ds vs → belowO m.length ds = true
  | [], _, _ => rfl
  | none :: ds, _, ⟨r, _, h2⟩ => by simp only [belowO]; exact RepO.below h2
  | some d :: ds, _, ⟨v, r, _, h1, h2⟩ => by
    simp only [belowO, Bool.and_eq_true]
    exact ⟨Rep.below h1, RepO.below h2⟩
mutual
/-- later places forgotten -/
theorem Rep.cut : ∀ {d : D} {v : V}, Rep K H (m ++ e) d v → D.und m.length d = true → Rep K H m d v
  | .loc l, _, h, b => by
    obtain ⟨a, rfl, h1⟩ := Rep.loc_iff.mp h
    simp only [D.und, decide_eq_true_eq] at b
    rw [List.getElem?_append_left b] at h1
    exact Rep.loc_iff.mpr ⟨a, rfl, h1⟩
  | .tup ds, _, h, b => by
    obtain ⟨a, vs, rfl, h1, h2⟩ := Rep.tup_iff.mp h
    simp only [D.und] at b
    refine Rep.tup_iff.mpr ⟨a, vs, rfl, ?_, RepL.cut h2 b⟩
    rcases h1 with ⟨h1, n⟩ | h1
    · exact .inl ⟨h1, fun z => n.1 (List.mem_append_left _ z), n.2⟩
    · exact .inr h1
  | .lst ds, _, h, b => by
    obtain ⟨a, vs, rfl, ⟨h1, n, nb⟩, h2⟩ := Rep.lst_iff.mp h
    simp only [D.und] at b
    exact Rep.lst_iff.mpr ⟨a, vs, rfl, ⟨h1, fun z => n (List.mem_append_left _ z), nb⟩, RepL.cut h2 b⟩
  | .rol ds, _, h, b => by
    obtain ⟨a, vs, rfl, h1, h2⟩ := Rep.rol_iff.mp h
    simp only [D.und] at b
    refine Rep.rol_iff.mpr ⟨a, vs, rfl, ?_, RepL.cut h2 b⟩
    rcases h1 with ⟨h1, n⟩ | h1
    · exact .inl ⟨h1, fun z => n.1 (List.mem_append_left _ z), n.2⟩
    · exact .inr h1
  | .non, _, h, _ => by unfold Rep at h ⊢; exact h
  | .bl _, _, h, _ => by unfold Rep at h ⊢; exact h
  | .int _, _, h, _ => by unfold Rep at h ⊢; exact h
  | .str _, _, h, _ => by unfold Rep at h ⊢; exact h
  | .ty _, _, h, _ => by unfold Rep at h ⊢; exact h
  | .ob _, _, h, _ => by unfold Rep at h ⊢; exact h
  | .fn _, _, h, _ => by unfold Rep at h ⊢; exact h
  | .dct ks ds, _, h, b => by
    obtain ⟨a, vs, rfl, h1, hl, h2⟩ := Rep.dct_iff.mp h
    simp only [D.und] at b
    exact Rep.dct_iff.mpr ⟨a, vs, rfl, h1, hl, RepL.cut h2 b⟩
  | .obj c ds, _, h, b => by
    obtain ⟨a, dx, vs, rfl, ⟨h1, h3, n, nb, nd, ndb⟩, h2⟩ := Rep.obj_iff.mp h
    simp only [D.und] at b
    exact Rep.obj_iff.mpr ⟨a, dx, vs, rfl, ⟨h1, h3, fun z => n (List.mem_append_left _ z), nb, fun z => nd (List.mem_append_left _ z), ndb⟩, RepL.cut h2 b⟩
  | .exo c f ds, _, h, b => by
    obtain ⟨a, dx, vs, rfl, ⟨h1, n, nb, nd, ndb⟩, h2⟩ := Rep.exo_iff.mp h
    simp only [D.und] at b
    exact Rep.exo_iff.mpr ⟨a, dx, vs, rfl, ⟨h1, fun z => n (List.mem_append_left _ z), nb, fun z => nd (List.mem_append_left _ z), ndb⟩, RepL.cut h2 b⟩
theorem RepL.cut : ∀ {ds : List D} {vs : List V}, RepL K H (m ++ e) ds vs → D.undL m.length ds = true → RepL K H m ds vs
  | [], _, h, _ => by unfold RepL at h ⊢; exact h
  | d :: ds, _, h, b => by
    obtain ⟨v, r, rfl, h1, h2⟩ := h.inv_cons
    simp only [D.undL, Bool.and_eq_true] at b
    exact .cons (Rep.cut h1 b.1) (RepL.cut h2 b.2)
end
theorem RepP.cut {κ : Type} : ∀ {ds : List (κ × D)} {vs : List (κ × V)}, RepP K H (m ++ e) ds vs → belowP m.length ds = true → RepP K H m ds vs
  | [], _, h, _ => h
  | (k, d) :: ds, _, ⟨v, r, q, h1, h2⟩, b => by
    simp only [belowP, Bool.and_eq_true] at b
    exact ⟨v, r, q, Rep.cut h1 b.1, RepP.cut h2 b.2⟩
theorem RepO.cut : ∀ {ds : List (Option D)} {vs : List (Option V)}, RepO K H (m ++ e) ds vs → belowO m.length ds = true → RepO K H m ds vs
  | [], _, h, _ => h
  | none :: ds, _, ⟨r, q, h2⟩, b => by
    simp only [belowO] at b
    exact ⟨r, q, RepO.cut h2 b⟩
  | some d :: ds, _, ⟨v, r, q, h1, h2⟩, b => by
    simp only [belowO, Bool.and_eq_true] at b
    exact ⟨v, r, q, Rep.cut h1 b.1, RepO.cut h2 b.2⟩
theorem RepC.below {c : Cell} {a : Addr} (h : RepC K H m c a) : Cell.below m.length c = true := by
  cases c with
  | lst ds => obtain ⟨vs, x, y⟩ := h; exact y.below
  | dic kvs => obtain ⟨vs, x, y⟩ := h; exact y.below
  | dik kvs => obtain ⟨o2, vs, x, y⟩ := h; exact y.below
  | ins C fs => obtain ⟨dx, vs, x, z, n, nb, y⟩ := h; exact y.below
theorem RepC.cut {c : Cell} {a : Addr} (h : RepC K H (m ++ e) c a) (b : Cell.below m.length c = true) : RepC K H m c a := by
  cases c with
  | lst ds => obtain ⟨vs, x, y⟩ := h; exact ⟨vs, x, y.cut b⟩
  | dic kvs => obtain ⟨vs, x, y⟩ := h; exact ⟨vs, x, y.cut b⟩
  | dik kvs => obtain ⟨o2, vs, x, y⟩ := h; exact ⟨o2, vs, x, y.cut b⟩
  | ins C fs => obtain ⟨dx, vs, x, z, n, nb, y⟩ := h; exact ⟨dx, vs, x, z, fun w => n (List.mem_append_left _ w), nb, y.cut b⟩
theorem RepSt.below {st : Store} (h : RepSt K H m st) : Store.below m.length st = true := by
  have key : ∀ (s : Store), (∀ (l : Nat) (c : Cell), s[l]? = some c → Cell.below m.length c = true) → Store.below m.length s = true := by
    intro s
    induction s with
    | nil => intro _; rfl
    | cons c s ih =>
      intro hh
      simp only [Store.below, Bool.and_eq_true]
      exact ⟨hh 0 c rfl, ih fun l c' q => hh (l + 1) c' (by simpa using q)⟩
  exact key st fun l c q => let ⟨a, _, r⟩ := h.cell l c q; r.below
theorem RepSt.cut {st : Store} (h : RepSt K H (m ++ e) st) (hn : n = m.length) (b : Store.below n (st.take n) = true) : RepSt K H m (st.take n) := by
  subst hn
  have hl := h.len
  refine ⟨fun b hb => let ⟨q, n⟩ := h.ban b hb; ⟨q, fun z => n (List.mem_append_left _ z)⟩, by simp at hl ⊢; omega, (List.nodup_append.mp h.nd).1, fun l c q => ?_, fun p hp => (h.tabs p hp).keepAll fun a o q n => ⟨q, fun z => n (List.mem_append_left _ z)⟩⟩
  have hlt : l < m.length := by
    have := (List.getElem?_eq_some_iff.mp q).1
    simp at this; omega
  obtain ⟨a, h1, h2⟩ := h.cell l c (by rw [List.getElem?_take_of_lt hlt] at q; exact q)
  rw [List.getElem?_append_left hlt] at h1
  exact ⟨a, h1, h2.cut (Store.below_get b q)⟩
end
theorem Evo.cut {H H' : Hp} {m x : List Addr} (e : Evo H m H' (m ++ x)) : Evo H m H' m :=
  ⟨⟨[], by simp⟩, fun a o q n z => ⟨(e.keep a o q n z).1, n⟩, fun p hp t => (e.tabs p hp t).keepAll fun a o r n => ⟨r, fun z => n (List.mem_append_left _ z)⟩, e.frz⟩
def start (N : Nat) (ds : List D) : DEnv := ds.map some ++ List.replicate (N - ds.length) none
def ofS (r : SRes) : Res D := match r with
  | .nx _ st => .ok .non st
  | .ret d st => .ok d st
  | .exc c fs _ st => .exc c fs st
  | _ => .fail
abbrev Fd := List D → Store → Res D
def runD (N : Nat) (body : Fs) : Fd := fun ds st => ofS (body (start N ds) st)
/-- all slots are set -/
def allS : List (Option D) → Option (List D)
  | [] => some []
  | none :: _ => none
  | some d :: r => (allS r).map (d :: ·)
theorem allS_rep {K : KB} {H : Hp} {m : List Addr} : ∀ {fs : List (Option D)} {vs : List (Option V)} {ds : List D}, RepO K H m fs vs → allS fs = some ds → ∃ ws, vs = ws.map some ∧ RepL K H m ds ws
  | [], _, _, h, q => by cases q; cases (show _ = [] from h); exact ⟨[], rfl, .nil⟩
  | none :: _, _, _, _, q => nomatch q
  | some d :: r, _, _, ⟨v, t, e, h1, h2⟩, q => by
    obtain ⟨es, q1, rfl⟩ := Option.map_eq_some_iff.mp q
    obtain ⟨ws, e2, h3⟩ := allS_rep h2 q1
    exact ⟨v :: ws, by rw [e, e2]; rfl, .cons h1 h3⟩
/-- what is handed out with places made within is fixed -/
def frz (n : Nat) (s : Store) (d : D) : Option D := if D.und n d then some d else match d with
  | .loc l => match s[l]? with
    | some (.lst ds) => if D.undL n ds then some (.lst ds) else none
    | some (.ins c fs) => match allS fs with
      | some ds => if D.undL n ds then some (.obj c ds) else none
      | none => none
    | some (.dik kvs) => if belowP n kvs then some (.dct (kvs.map (·.1)) (kvs.map (·.2))) else none
    | _ => none
  | _ => none
/-- the places made within are forgotten -/
def pureR (n : Nat) (st : Store) (r : Res D) : Res D := match r with
  | .ok d s => if Store.beq (s.take n) st || Store.below n (s.take n) then
      match frz n s d with
      | some d' => .ok d' (s.take n)
      | none => .fail
    else .fail
  | .exc c none s => if Store.beq (s.take n) st || Store.below n (s.take n) then .exc c none (s.take n) else .fail
  | .exc c (some fs) s => if (Store.beq (s.take n) st || Store.below n (s.take n)) && belowP n fs then .exc c (some fs) (s.take n) else .fail
  | .fail => .fail
def runP (N : Nat) (body : Fs) : Fd := fun ds st => pureR st.length st (runD N body ds st)
/-- what a mark for a class stands for -/
def trK (K : PySem.W.Frag) : Value → Value
  | .str x _ => .ref (He.ga K x)
  | c => c
def spD (K : PySem.W.Frag) (n : Nat) (F : Fd) : Sp := fun vs H Q E => ∃ (B : List Addr) (ds : List D) (st : Store) (m : List Addr), ds.length = n ∧ RepL ⟨K, B⟩ H m ds vs ∧ RepSt ⟨K, B⟩ H m st ∧ GoodR (Rep ⟨K, B⟩) (F ds st) Q (fun c d H' => E (trK K c) d H') ⟨K, B⟩ H m
theorem pure_run {K : KB} {H : Hp} {m : List Addr} {st : Store} {r : Res D} {Q : VK} {E : WH} (rs : RepSt K H m st) (h : GoodR (Rep K) (pureR st.length st r) Q E K H m) : GoodR (Rep K) r Q E K H m := by
  have hb : ∀ {s : Store}, (Store.beq (s.take st.length) st || Store.below st.length (s.take st.length)) = true → Store.below st.length (s.take st.length) = true := fun {s} h => by
    rcases Bool.or_eq_true_iff.mp h with h | h
    · rw [Store.beq_eq _ _ h]; have := rs.below; rw [rs.len] at this; exact this
    · exact h
  cases r with
  | fail => exact h
  | ok d s =>
    intro v H1 m1 e1 r1 rs1
    unfold pureR at h
    simp only at h
    split at h
    · rename_i hc
      have hb := hb hc
      obtain ⟨x, rfl⟩ := e1.ext
      have e0 : Evo H m H1 m := e1.cut
      have rc : RepSt K H1 m (s.take st.length) := RepSt.cut rs1 rs.len.symm hb
      cases hf : frz st.length s d with
      | none => rw [hf] at h; exact h.elim
      | some d' =>
        rw [hf] at h
        refine h v H1 m e0 ?_ rc
        unfold frz at hf
        rw [← rs.len] at hf
        split at hf
        · rename_i hd; cases hf; exact r1.cut hd
        · rename_i hd
          cases d with
          | loc l =>
            simp only at hf
            cases q : s[l]? with
            | none => rw [q] at hf; cases hf
            | some c =>
              rw [q] at hf
              cases c with
              | lst ds =>
                simp only at hf
                split at hf
                · rename_i hds
                  cases hf
                  obtain ⟨a, rfl, h1⟩ := Rep.loc_iff.mp r1
                  obtain ⟨b, h2, vs, h3, h4⟩ := rs1.cell l _ q
                  rw [h1] at h2; cases h2
                  refine Rep.lst_iff.mpr ⟨a, vs, rfl, ⟨h3, fun hm => ?_, fun hB => (rs1.ban a hB).2 (List.mem_of_getElem? h1)⟩, h4.cut hds⟩
                  have hl : m.length ≤ l := by simpa [D.und] using hd
                  obtain ⟨i, hi, e⟩ := List.mem_iff_getElem.mp hm
                  have hi' : (m ++ x)[i]? = some a := by rw [List.getElem?_append_left hi, List.getElem?_eq_getElem hi, e]
                  obtain ⟨i1, e1⟩ := List.getElem?_eq_some_iff.mp h1
                  obtain ⟨i2, e2⟩ := List.getElem?_eq_some_iff.mp hi'
                  have := (List.getElem_inj rs1.nd).mp (e1.trans e2.symm)
                  omega
                · cases hf
              | dic _ => cases hf
              | dik kvs =>
                simp only at hf
                split at hf
                · rename_i hds
                  cases hf
                  obtain ⟨a, rfl, h1⟩ := Rep.loc_iff.mp r1
                  obtain ⟨b, h2, o2, vs, h3, h4⟩ := rs1.cell l _ q
                  rw [h1] at h2; cases h2
                  have h4 := h4.cut hds
                  obtain ⟨u1, u2⟩ := RepP.unzip h4
                  exact Rep.dct_iff.mpr ⟨a, _, rfl, ⟨o2, by rw [← u2]; exact h3⟩, by simp, u1⟩
                · cases hf
              | ins c fs =>
                simp only at hf
                cases ha : allS fs with
                | none => rw [ha] at hf; cases hf
                | some ds =>
                  rw [ha] at hf
                  simp only at hf
                  split at hf
                  · rename_i hds
                    cases hf
                    obtain ⟨a, rfl, h1⟩ := Rep.loc_iff.mp r1
                    obtain ⟨b, h2, dx, vs, h3, h4, h5, h5b, h6⟩ := rs1.cell l _ q
                    rw [h1] at h2; cases h2
                    obtain ⟨ws, rfl, h7⟩ := allS_rep h6 ha
                    refine Rep.obj_iff.mpr ⟨a, dx, ws, rfl, ⟨h3, h4, fun hm => ?_, fun hB => (rs1.ban a hB).2 (List.mem_of_getElem? h1), fun z => h5 (List.mem_append_left _ z), h5b⟩, h7.cut hds⟩
                    · have hl : m.length ≤ l := by simpa [D.und] using hd
                      obtain ⟨i, hi, e⟩ := List.mem_iff_getElem.mp hm
                      have hi' : (m ++ x)[i]? = some a := by rw [List.getElem?_append_left hi, List.getElem?_eq_getElem hi, e]
                      obtain ⟨i1, e1⟩ := List.getElem?_eq_some_iff.mp h1
                      obtain ⟨i2, e2⟩ := List.getElem?_eq_some_iff.mp hi'
                      have := (List.getElem_inj rs1.nd).mp (e1.trans e2.symm)
                      omega
                  · cases hf
          | _ => cases hf
    · exact h.elim
  | exc c fs s =>
    intro dx H1 m1 e1 r1 rs1
    obtain ⟨x, rfl⟩ := e1.ext
    have e0 : Evo H m H1 m := e1.cut
    cases fs with
    | none =>
      unfold pureR at h
      simp only at h
      split at h
      · rename_i hc
        exact h dx H1 m e0 r1 (RepSt.cut rs1 rs.len.symm (hb hc))
      · exact h.elim
    | some fs =>
      unfold pureR at h
      simp only at h
      split at h
      · rename_i hc
        rw [Bool.and_eq_true] at hc
        obtain ⟨a, vs, h1, h2, h3, h4⟩ := r1
        exact h dx H1 m e0 ⟨a, vs, h1, h2, fun z => h3 (List.mem_append_left _ z), h4.cut (by rw [rs.len]; exact hc.2)⟩ (RepSt.cut rs1 rs.len.symm (hb hc.1))
      · exact h.elim
/-- the places made within are forgotten; there were none -/
def pure0 (r : Res D) : Res D := match r with
  | .ok d s => match frz 0 s d with
    | some d' => .ok d' []
    | none => .fail
  | .exc c none _ => .exc c none []
  | .exc c (some fs) _ => if belowP 0 fs = true then .exc c (some fs) [] else .fail
  | .fail => .fail
/-- a def that gets no places and hands out none: run where none are -/
def runZ (N : Nat) (body : Fs) : Fd := fun ds st => if D.undL 0 ds then (match pure0 (runD N body ds []) with
    | .ok d _ => .ok d st
    | .exc c fs _ => .exc c fs st
    | .fail => .fail)
  else .fail
section
variable {K : PySem.W.Frag} {B : List Addr} {H H' : Hp} {m : List Addr}
theorem ne_place {st : Store} (rs : RepSt ⟨K, B⟩ H m st) {a : Addr} {u : HO} (h : H a = some u) (hu : ∀ xs, u ≠ .lst xs) (hd : ∀ xs, u ≠ .dK xs) (hi : ∀ a C d xs, u ≠ SlX.SlO a C d xs) (hf : ∀ o xs, u ≠ .frz o (.dK xs)) : a ∉ m := fun ha => by
  obtain ⟨l, hl, e⟩ := List.mem_iff_getElem.mp ha
  have hs : l < st.length := by rw [← rs.len]; exact hl
  obtain ⟨b, h1, h2⟩ := rs.cell l st[l] (by simp [hs])
  rw [List.getElem?_eq_getElem hl] at h1
  cases h1
  rw [e] at h2
  cases hc : st[l] with
  | lst ds => rw [hc] at h2; obtain ⟨vs, q, _⟩ := h2; rw [h] at q; cases q; exact hu _ rfl
  | dic ds => rw [hc] at h2; obtain ⟨vs, q, _⟩ := h2; rw [h] at q; cases q; exact hd _ rfl
  | dik ds => rw [hc] at h2; obtain ⟨o2, vs, q, _⟩ := h2; rw [h] at q; exact hf _ _ (Option.some.inj q)
  | ins C fs => rw [hc] at h2; obtain ⟨dx, vs, q, _⟩ := h2; rw [h] at q; exact hi _ _ _ _ (Option.some.inj q)
mutual
theorem Rep.lift {st : Store} (rs : RepSt ⟨K, B⟩ H m st) : ∀ {d : D} {v : V}, Rep ⟨K, B ++ m⟩ H [] d v → D.und 0 d = true → Rep ⟨K, B⟩ H m d v
  | .loc l, _, h, b => by simp [D.und] at b
  | .tup ds, _, h, b => by
    obtain ⟨a, vs, rfl, h1, h2⟩ := Rep.tup_iff.mp h
    simp only [D.und] at b
    refine Rep.tup_iff.mpr ⟨a, vs, rfl, ?_, RepL.lift rs h2 b⟩
    rcases h1 with ⟨h1, _, n⟩ | h1
    · exact .inl ⟨h1, fun z => n (List.mem_append_right _ z), fun z => n (List.mem_append_left _ z)⟩
    · exact .inr h1
  | .lst ds, _, h, b => by
    obtain ⟨a, vs, rfl, ⟨h1, _, n⟩, h2⟩ := Rep.lst_iff.mp h
    simp only [D.und] at b
    exact Rep.lst_iff.mpr ⟨a, vs, rfl, ⟨h1, fun z => n (List.mem_append_right _ z), fun z => n (List.mem_append_left _ z)⟩, RepL.lift rs h2 b⟩
  | .rol ds, _, h, b => by
    obtain ⟨a, vs, rfl, h1, h2⟩ := Rep.rol_iff.mp h
    simp only [D.und] at b
    refine Rep.rol_iff.mpr ⟨a, vs, rfl, ?_, RepL.lift rs h2 b⟩
    rcases h1 with ⟨h1, _, n⟩ | h1
    · exact .inl ⟨h1, fun z => n (List.mem_append_right _ z), fun z => n (List.mem_append_left _ z)⟩
    · exact .inr h1
  | .non, _, h, _ => by unfold Rep at h ⊢; exact h
  | .bl _, _, h, _ => by unfold Rep at h ⊢; exact h
  | .int _, _, h, _ => by unfold Rep at h ⊢; exact h
  | .str _, _, h, _ => by unfold Rep at h ⊢; exact h
  | .ty _, _, h, _ => by unfold Rep at h ⊢; exact h
  | .ob _, _, h, _ => by unfold Rep at h ⊢; exact h
  | .fn _, _, h, _ => by unfold Rep at h ⊢; exact h
  | .dct ks ds, _, h, b => by
    obtain ⟨a, vs, rfl, h1, hl, h2⟩ := Rep.dct_iff.mp h
    simp only [D.und] at b
    exact Rep.dct_iff.mpr ⟨a, vs, rfl, h1, hl, RepL.lift rs h2 b⟩
  | .obj c ds, _, h, b => by
    obtain ⟨a, dx, vs, rfl, ⟨h1, h3, _, n, _, nd⟩, h2⟩ := Rep.obj_iff.mp h
    simp only [D.und] at b
    exact Rep.obj_iff.mpr ⟨a, dx, vs, rfl, ⟨h1, h3, fun z => n (List.mem_append_right _ z), fun z => n (List.mem_append_left _ z), fun z => nd (List.mem_append_right _ z), fun z => nd (List.mem_append_left _ z)⟩, RepL.lift rs h2 b⟩
  | .exo c f ds, _, h, b => by
    obtain ⟨a, dx, vs, rfl, ⟨h1, _, n, _, nd⟩, h2⟩ := Rep.exo_iff.mp h
    simp only [D.und] at b
    exact Rep.exo_iff.mpr ⟨a, dx, vs, rfl, ⟨h1, fun z => n (List.mem_append_right _ z), fun z => n (List.mem_append_left _ z), fun z => nd (List.mem_append_right _ z), fun z => nd (List.mem_append_left _ z)⟩, RepL.lift rs h2 b⟩
theorem RepL.lift {st : Store} (rs : RepSt ⟨K, B⟩ H m st) : ∀ {ds : List D} {vs : List V}, RepL ⟨K, B ++ m⟩ H [] ds vs → D.undL 0 ds = true → RepL ⟨K, B⟩ H m ds vs
  | [], _, h, _ => by unfold RepL at h ⊢; exact h
  | d :: ds, _, h, b => by
    obtain ⟨v, r, rfl, h1, h2⟩ := h.inv_cons
    simp only [D.undL, Bool.and_eq_true] at b
    exact .cons (Rep.lift rs h1 b.1) (RepL.lift rs h2 b.2)
end
theorem RepP.lift {κ : Type} {st : Store} (rs : RepSt ⟨K, B⟩ H m st) : ∀ {ds : List (κ × D)} {vs : List (κ × V)}, RepP ⟨K, B ++ m⟩ H [] ds vs → belowP 0 ds = true → RepP ⟨K, B⟩ H m ds vs
  | [], _, h, _ => h
  | (k, d) :: ds, _, ⟨v, r, q, h1, h2⟩, b => by
    simp only [belowP, Bool.and_eq_true] at b
    exact ⟨v, r, q, Rep.lift rs h1 b.1, RepP.lift rs h2 b.2⟩
mutual
/-- data without places, told without them -/
theorem Rep.drop0 : ∀ {d : D} {v : V}, Rep ⟨K, B⟩ H m d v → D.und 0 d = true → Rep ⟨K, B ++ m⟩ H [] d v
  | .loc l, _, h, b => by simp [D.und] at b
  | .tup ds, _, h, b => by
    obtain ⟨a, vs, rfl, h1, h2⟩ := Rep.tup_iff.mp h
    simp only [D.und] at b
    refine Rep.tup_iff.mpr ⟨a, vs, rfl, ?_, RepL.drop0 h2 b⟩
    rcases h1 with ⟨h1, n, nb⟩ | h1
    · exact .inl ⟨h1, by simp, fun z => (List.mem_append.mp z).elim nb n⟩
    · exact .inr h1
  | .lst ds, _, h, b => by
    obtain ⟨a, vs, rfl, ⟨h1, n, nb⟩, h2⟩ := Rep.lst_iff.mp h
    simp only [D.und] at b
    exact Rep.lst_iff.mpr ⟨a, vs, rfl, ⟨h1, by simp, fun z => (List.mem_append.mp z).elim nb n⟩, RepL.drop0 h2 b⟩
  | .rol ds, _, h, b => by
    obtain ⟨a, vs, rfl, h1, h2⟩ := Rep.rol_iff.mp h
    simp only [D.und] at b
    refine Rep.rol_iff.mpr ⟨a, vs, rfl, ?_, RepL.drop0 h2 b⟩
    rcases h1 with ⟨h1, n, nb⟩ | h1
    · exact .inl ⟨h1, by simp, fun z => (List.mem_append.mp z).elim nb n⟩
    · exact .inr h1
  | .non, _, h, _ => by unfold Rep at h ⊢; exact h
  | .bl _, _, h, _ => by unfold Rep at h ⊢; exact h
  | .int _, _, h, _ => by unfold Rep at h ⊢; exact h
  | .str _, _, h, _ => by unfold Rep at h ⊢; exact h
  | .ty _, _, h, _ => by unfold Rep at h ⊢; exact h
  | .ob _, _, h, _ => by unfold Rep at h ⊢; exact h
  | .fn _, _, h, _ => by unfold Rep at h ⊢; exact h
  | .dct ks ds, _, h, b => by
    obtain ⟨a, vs, rfl, h1, hl, h2⟩ := Rep.dct_iff.mp h
    simp only [D.und] at b
    exact Rep.dct_iff.mpr ⟨a, vs, rfl, h1, hl, RepL.drop0 h2 b⟩
  | .obj c ds, _, h, b => by
    obtain ⟨a, dx, vs, rfl, ⟨h1, h3, n, nb, nd, ndb⟩, h2⟩ := Rep.obj_iff.mp h
    simp only [D.und] at b
    exact Rep.obj_iff.mpr ⟨a, dx, vs, rfl, ⟨h1, h3, by simp, fun z => (List.mem_append.mp z).elim nb n, by simp, fun z => (List.mem_append.mp z).elim ndb nd⟩, RepL.drop0 h2 b⟩
  | .exo c f ds, _, h, b => by
    obtain ⟨a, dx, vs, rfl, ⟨h1, n, nb, nd, ndb⟩, h2⟩ := Rep.exo_iff.mp h
    simp only [D.und] at b
    exact Rep.exo_iff.mpr ⟨a, dx, vs, rfl, ⟨h1, by simp, fun z => (List.mem_append.mp z).elim nb n, by simp, fun z => (List.mem_append.mp z).elim ndb nd⟩, RepL.drop0 h2 b⟩
theorem RepL.drop0 : ∀ {ds : List D} {vs : List V}, RepL ⟨K, B⟩ H m ds vs → D.undL 0 ds = true → RepL ⟨K, B ++ m⟩ H [] ds vs
  | [], _, h, _ => by unfold RepL at h ⊢; exact h
  | d :: ds, _, h, b => by
    obtain ⟨v, r, rfl, h1, h2⟩ := h.inv_cons
    simp only [D.undL, Bool.and_eq_true] at b
    exact .cons (Rep.drop0 h1 b.1) (RepL.drop0 h2 b.2)
end
theorem codeO_lst {c : Addr} {q : Str} (xs : List V) : LamX.CodeO c q ≠ .lst xs := fun z => by unfold LamX.CodeO at z; cases z
theorem codeO_dK {c : Addr} {q : Str} (xs : List (Key × V)) : LamX.CodeO c q ≠ .dK xs := fun z => by unfold LamX.CodeO at z; cases z
theorem codeO_frz {c : Addr} {q : Str} (o : Obj) (u : HO) : LamX.CodeO c q ≠ .frz o u := fun z => by unfold LamX.CodeO at z; cases z
theorem codeO_tbl {c : Addr} {q : Str} (xs : Array Value) : LamX.CodeO c q ≠ .tbl xs := fun z => by unfold LamX.CodeO at z; cases z
/-- nothing was a place: all places stand as they did -/
theorem evo_zero {st : Store} (rs : RepSt ⟨K, B⟩ H m st) {m' : List Addr} (e : Evo H [] H' m') : Evo H m H' m ∧ RepSt ⟨K, B⟩ H' m st := by
  have kp : ∀ a o, H a = some o → (∀ ps, o ≠ .tbl ps) → H' a = some o := fun a o q z => (e.keep a o q (by simp) z).1
  have tb : ∀ p ∈ TabsCtx.T, TabM H m p.1 p.2 → TabM H' m p.1 p.2 := fun p hp t => by
    have t0 : TabM H [] p.1 p.2 := t.keepAll fun a o r _ => ⟨r, by simp⟩
    obtain ⟨ps0, h1, n1, h2, h3⟩ := t
    obtain ⟨ps, g1, _, g2, g3⟩ := e.tabs p hp t0
    refine ⟨ps, g1, n1, g2, fun pos cv hc => ?_⟩
    obtain ⟨c, e1, e2, _⟩ := g3 pos cv hc
    refine ⟨c, e1, e2, fun hm => ?_⟩
    obtain ⟨l, hl, ea⟩ := List.mem_iff_getElem.mp hm
    have hs : l < st.length := by rw [← rs.len]; exact hl
    obtain ⟨b, b1, b2⟩ := rs.cell l st[l] (by simp [hs])
    rw [List.getElem?_eq_getElem hl] at b1
    cases b1
    rw [ea] at b2
    cases hcc : st[l] with
    | lst ds => rw [hcc] at b2; obtain ⟨vs, y, _⟩ := b2; have y := kp _ _ y (fun _ z => nomatch z); rw [e2] at y; exact codeO_lst _ (Option.some.inj y)
    | dic ds => rw [hcc] at b2; obtain ⟨vs, y, _⟩ := b2; have y := kp _ _ y (fun _ z => nomatch z); rw [e2] at y; exact codeO_dK _ (Option.some.inj y)
    | dik ds => rw [hcc] at b2; obtain ⟨o2, vs, y, _⟩ := b2; have y := kp _ _ y (fun _ z => nomatch z); rw [e2] at y; exact codeO_frz _ _ (Option.some.inj y)
    | ins C fs => rw [hcc] at b2; obtain ⟨dx, vs, y, _⟩ := b2; have y := kp _ _ y slO_tbl; rw [e2] at y; exact codeO_slO (Option.some.inj y)
  have ev : Evo H m H' m := ⟨⟨[], by simp⟩, fun a o q n z => ⟨kp a o q z, n⟩, tb, e.frz⟩
  refine ⟨ev, ⟨fun b hb => ?_, rs.len, rs.nd, fun l c q => ?_, fun p hp => tb p hp (rs.tabs p hp)⟩⟩
  · obtain ⟨⟨o, q, z⟩, n⟩ := rs.ban b hb
    exact ⟨⟨o, kp b o q z, z⟩, n⟩
  · obtain ⟨a, h1, h2⟩ := rs.cell l c q
    refine ⟨a, h1, ?_⟩
    cases c with
    | lst ds => obtain ⟨vs, x, y⟩ := h2; exact ⟨vs, kp _ _ x (fun _ z => nomatch z), RepL.evo ev _ _ y⟩
    | dic kvs => obtain ⟨vs, x, y⟩ := h2; exact ⟨vs, kp _ _ x (fun _ z => nomatch z), RepP.evo ev _ _ y⟩
    | dik kvs => obtain ⟨o2, vs, x, y⟩ := h2; exact ⟨o2, vs, kp _ _ x (fun _ z => nomatch z), RepP.evo ev _ _ y⟩
    | ins C fs => obtain ⟨dx, vs, x, z, n, nb, y⟩ := h2; exact ⟨dx, vs, kp _ _ x slO_tbl, kp _ _ z (fun _ z => nomatch z), n, nb, RepO.evo ev _ _ y⟩
theorem belowP_undL {n : Nat} : ∀ {kvs : List (Key × D)}, belowP n kvs = true → D.undL n (kvs.map (·.2)) = true
  | [], _ => rfl
  | (k, d) :: r, h => by
    simp only [belowP, Bool.and_eq_true] at h
    simp only [List.map_cons, D.undL, Bool.and_eq_true]
    exact ⟨h.1, belowP_undL h.2⟩
theorem pure0_ok {r : Res D} {d : D} {s : Store} (h : pure0 r = .ok d s) : D.und 0 d = true ∧ s = [] := by
  unfold pure0 at h
  split at h
  · rename_i d1 s1
    cases hf : frz 0 s1 d1 with
    | none => rw [hf] at h; cases h
    | some d2 =>
      rw [hf] at h
      injection h with h1 h2
      refine ⟨?_, h2.symm⟩
      rw [← h1]
      unfold frz at hf
      split at hf
      · rename_i hu; cases hf; exact hu
      · split at hf
        · split at hf
          · split at hf
            · rename_i hu; cases hf; simpa [D.und] using hu
            · cases hf
          · split at hf
            · split at hf
              · rename_i hu; cases hf; simpa [D.und] using hu
              · cases hf
            · cases hf
          · split at hf
            · rename_i hu; cases hf; simp only [D.und]; exact belowP_undL hu
            · cases hf
          · cases hf
        · cases hf
  · cases h
  · split at h <;> cases h
  · cases h
theorem pure0_exc {r : Res D} {c : Value} {fs : Option (List (Str × D))} {s : Store} (h : pure0 r = .exc c fs s) : (∀ l, fs = some l → belowP 0 l = true) ∧ s = [] := by
  unfold pure0 at h
  split at h
  · split at h <;> cases h
  · injection h with h1 h2 h3
    exact ⟨fun l z => (by rw [← h2] at z; cases z), h3.symm⟩
  · split at h
    · rename_i hc
      injection h with h1 h2 h3
      refine ⟨fun l z => ?_, h3.symm⟩
      rw [← h2] at z
      cases z
      exact hc
    · cases h
  · cases h
theorem pureR_zero (r : Res D) : pureR 0 [] r = pure0 r := by
  cases r with
  | ok d s => rfl
  | exc c fs s => cases fs <;> rfl
  | fail => rfl
theorem zero_st {st : Store} (rs : RepSt ⟨K, B⟩ H m st) : RepSt ⟨K, B ++ m⟩ H [] [] :=
  ⟨fun b hb => ⟨(List.mem_append.mp hb).elim (fun z => (rs.ban b z).1) fun z => rs.mem z, by simp⟩, rfl, .nil, fun l c q => by simp at q, fun p hp => (rs.tabs p hp).keepAll fun a o r _ => ⟨r, by simp⟩⟩
theorem zero_run {N : Nat} {body : Fs} {ds : List D} {st : Store} {Q : VK} {E : WH} {vs : List V} (rs : RepSt ⟨K, B⟩ H m st) (rl : RepL ⟨K, B⟩ H m ds vs) (h : GoodR (Rep ⟨K, B⟩) (runZ N body ds st) Q E ⟨K, B⟩ H m) :
    RepL ⟨K, B ++ m⟩ H [] ds vs ∧ GoodR (Rep ⟨K, B ++ m⟩) (runD N body ds []) Q E ⟨K, B ++ m⟩ H [] := by
  unfold runZ at h
  split at h
  · rename_i hu
    refine ⟨RepL.drop0 rl hu, pure_run (st := []) (zero_st rs) ?_⟩
    show GoodR _ (pureR 0 [] _) _ _ _ _ _
    rw [pureR_zero]
    cases er : pure0 (runD N body ds []) with
    | ok d s =>
      rw [er] at h
      obtain ⟨hd, rfl⟩ := pure0_ok er
      intro v H1 m1 e1 r1 rs1
      have hm : m1 = [] := List.eq_nil_of_length_eq_zero rs1.len
      subst hm
      obtain ⟨ev, rs2⟩ := evo_zero rs e1
      exact h v H1 m ev (r1.lift rs2 hd) rs2
    | exc c fs s =>
      rw [er] at h
      obtain ⟨hl, rfl⟩ := pure0_exc er
      intro dx H1 m1 e1 rx rs1
      have hm : m1 = [] := List.eq_nil_of_length_eq_zero rs1.len
      subst hm
      obtain ⟨ev, rs2⟩ := evo_zero rs e1
      refine h dx H1 m ev ?_ rs2
      cases fs with
      | none => exact rx
      | some l =>
        obtain ⟨a, vs, q1, q2, q3, q4⟩ := rx
        exact ⟨a, vs, q1, q2, ne_place rs2 q2 (fun _ z => nomatch z) (fun _ z => nomatch z) (fun _ _ _ _ z => by unfold SlX.SlO at z; cases z) (fun _ _ z => nomatch z), q4.lift rs2 (hl l rfl)⟩
    | fail => rw [er] at h; exact h.elim
  · exact h.elim
end
end DL
namespace DL
open PySem PySem.Spec PyProof.Rows L2
variable [TabsCtx]
/-- wishes told of marks, as wishes of classes -/
def untag (K : PySem.W.Frag) (W : WX) : WX := fun cls d σ H => ∃ c, trK K c = cls ∧ W c d σ H
theorem GoodR.imp {α β : Type} {R : Hp → List Addr → α → β → Prop} {r : Res α} {Q : β → Hp → Prop} {W W' : WH} {K : KB} {H : Hp} {m : List Addr} (h : GoodR R r Q W K H m) (i : ∀ c d H', W c d H' → W' c d H') : GoodR R r Q W' K H m := by
  cases r with
  | ok d st => exact h
  | exc c fs st => exact fun dx H1 m1 e rx rs => i _ _ _ (h dx H1 m1 e rx rs)
  | fail => exact h
theorem Takes.tag {X : Cx} {K : PySem.W.Frag} {E : XK} (t : Takes X (fun c d _ H' => E c d H')) : Takes X (untag K fun c d _ H' => E (trK K c) d H') := t.imp fun c d σ H ⟨c', e, q⟩ => by
  have q : E (trK K c') d H := q
  rw [e] at q
  exact q
theorem untag_of {K : PySem.W.Frag} {W : WX} {c : Value} {d : Option Addr} {σ : Sg} {H : Hp} (h : W c d σ H) : untag K W (trK K c) d σ H := ⟨c, rfl, h⟩
/-- what a body has at hand -/
structure XOk (X : Cx) (W : WX) : Prop where
  calm : X.calm = true
  nd : X.N.Nodup
  tk : Takes X (untag X.K W)
  gd : X.A.guards = some []
/-- a def's promise where no text is being made around it -/
structure FnG (P : Program) (w : World) (K : PySem.W.Frag) (mg : Str → Option Value) (base : Heap) (k : Nat) (f : Addr) (fd : FuncData) (ps : List Str) (sp : Sp) : Prop where
  len : ∀ vs H Q E, sp vs H Q E → vs.length = ps.length
  run : ∀ (A : Around) (ou : List Env) (s : Shared) (H : Hp) (ar : Args) (us : List Value) (vs : List V) (Q : VK) (E : XK), Room k A → A.guards = some [] → Env0 P w K mg base A ou s H → BindsTo s fd ar (ps.zip us) → Vals vs us → sp vs H Q E →
    codeAny (model P w) A (.call (.ref f) ar) (CR (L2.CX P w) ou P w H s Q E) s
theorem FnG.imp {P : Program} {w : World} {K : PySem.W.Frag} {mg : Str → Option Value} {base : Heap} {k : Nat} {f : Addr} {fd : FuncData} {ps : List Str} {sp sp' : Sp} (F : FnG P w K mg base k f fd ps sp)
    (h : ∀ vs H Q E, sp' vs H Q E → sp vs H Q E) : FnG P w K mg base k f fd ps sp' :=
  ⟨fun vs H Q E q => F.len vs H Q E (h vs H Q E q), fun A ou s H ar us vs Q E r g e b v q => F.run A ou s H ar us vs Q E r g e b v (h vs H Q E q)⟩
theorem codeA_eq {K : PySem.W.Frag} {f : Addr} {fd : FuncData} {oc : Value} {od : Option Addr} {osl : Array (Option Value)} {q : Str} (lk : K.lookup f = some ⟨oc, od, .func fd, osl⟩) (hc : PySem.W.codeIn K fd.code q = true) : fd.code = .ref (codeA K f) := by
  unfold codeA
  rw [lk]
  simp only
  cases h : fd.code with
  | ref c => rfl
  | _ => rw [h] at hc; cases hc
/-- a def's body, entered -/
theorem fnG_of {P : Program} {w : World} {K : PySem.W.Frag} {mg : Str → Option Value} {base : Heap} {x qual : Str} {st : Stmt} {f : Addr} {fd : FuncData} {N ps : List Str} {k : Nat} {sp : Sp} (F : FunD K x qual (defArgs st) (defBody st) (defScope st) [] [] f fd) (S : FnScope N ps (defScope st))
    (hlen : ∀ vs H Q E, sp vs H Q E → vs.length = ps.length)
    (hb : ∀ (cd : Value) (A : Around) (ou : List Env) (s : Shared) (H : Hp) (vs : List V) (Q : VK) (E : XK), cd = .ref (codeA K f) → Room k (A.deeper (envOfC qual (defScope st) s.heap.objs.size f cd)) → A.guards = some [] → sp vs H Q E →
      ∃ t, PSs (cxOf (L2.CX P w) P w K mg base N qual (defScope st) f cd A ou s H E) (defBody st) t ∧ t { nx := fun _ H' => Q .non H', rt := Q } (L2.start N vs) H) : FnG P w K mg base (k + 1) f fd ps sp := by
  obtain ⟨oc, od, dV, kV, doc, pm, an, cd, ct, osl, rfl, hk, hc, _, _⟩ := F.ex
  refine ⟨hlen, fun A ou s H ar us vs Q E room hg env b hv hsp => ?_⟩
  have inK : K.In s.heap := env.mod.kin.keeps fun c o q => (env.bs c o q).1
  have nolim : s.heap.NoLimit := env.mod.nolimit.keeps fun c o q => (env.bs c o q).1
  have names : ∀ y ∈ ps.zip us, (defScope st).names.lookup y.1 = some .local ∨ ((defScope st).names.lookup y.1 = some .cell ∧ ((cellsFrom (s.heap.objs.size + 1) (defScope st).names []).lookup y.1).isSome = true) := by
    rintro ⟨n, u⟩ hy
    exact (S.par n (List.of_mem_zip hy).1).imp id fun q => ⟨q, PySem.W.cellsFrom_some _ _ _ (.inl q)⟩
  refine codeAny_call_function room.depth (inK _ _ hk) rfl S.co S.gen rfl (PySem.W.codeRec_of inK hc) (b _ _ _ _ ?_)
  refine wpAny_newFunctionEnv_cells S.kind names fun en en_eq s' inn => ?_
  cases en_eq
  refine ⟨nolim.keeps inn.toInCall.keep, codeAny_func ?_⟩
  obtain ⟨t, pt, qt⟩ := hb cd A ou s H vs Q E (codeA_eq hk hc) (room.deeper _) hg hsp
  have inv : Inv (cxOf (L2.CX P w) P w K mg base N qual (defScope st) f cd A ou s H E) [] (L2.start N vs) H s' := inv_start S room.hd env (hlen vs H Q E hsp) hv inn
  have out : ∀ {τ : Sg} {H2 : Hp} {v : V} {u : Value} {s2 : Shared}, Inv (cxOf (L2.CX P w) P w K mg base N qual (defScope st) f cd A ou s H E) [] τ H2 s2 → RelV v u → Q v H2 → CE ou P w H s Q u s2 :=
    fun {τ H2 v u s2} J rel q => ⟨v, H2, J.os, J.bare, J.base, J.hok, rel, q⟩
  refine wpAny_mono (pt.run [] s' _ H _ inv qt) (fun fl s2 q => ?_) fun _ _ q => q
  match fl, q with
  | .next, ⟨τ, H2, J, q⟩ => exact out (v := .non) (u := .none) J rfl q
  | .ret u, ⟨v, τ, H2, J, rel, q⟩ => exact out J rel q
  | .brk, ⟨_, _, _, q⟩ => exact q.elim
  | .cont, ⟨_, _, _, q⟩ => exact q.elim
section
variable {X : Cx} {W : WX} {pos : Pos} {e : Expr} {f : Fe} {s : Stmt} {ss : List Stmt} {fs gs : Fs}
theorem RepE.set {K : KB} {H : Hp} {m : List Addr} {ρ : DEnv} {σ : Sg} {d : D} {v : V} (i : Nat) (h : RepE K H m ρ σ) (r : Rep K H m d v) : RepE K H m (ρ.set i (some d)) (σ.set i (some v)) where
  len := by simp [h.len]
  val := fun j d' q => by
    by_cases hj : i = j
    · subst hj
      have hl : i < ρ.length := by
        have := (List.getElem?_eq_some_iff.mp q).1
        simpa using this
      rw [List.getElem?_set_self hl] at q
      cases q
      exact ⟨v, by rw [List.getElem?_set_self (by rw [← h.len]; exact hl)], r⟩
    · rw [List.getElem?_set_ne hj] at q ⊢
      exact h.val j d' q
def sSet (i : Nat) (f : Fe) : Fs := fun ρ st => (f ρ st).thenS ρ fun d s1 => .nx (ρ.set i (some d)) s1
theorem ds_set {i : Nat} {x : Str} {pos' : Pos} (hx : XOk X W) (he : DE X W e f) (hi : X.N[i]? = some x := by rfl) (hl : Loc X.env.scope x := by first | exact Or.inl rfl | exact Or.inr rfl)
    (hs : swapsWith e (some (.Name x pos')) pos.line X.env = pure false := by rfl) (hf : X.fn x = true ∨ X.env.scope.names.lookup x = some .local := by first | exact .inl rfl | exact .inr rfl) : DS X W (.Assign [.Name x pos'] e pos) (sSet i f) := by
  obtain ⟨t, p, q⟩ := he
  refine ⟨_, ps_set hx.nd hi hl p hs hf, fun B σ H ρ st m En re rs h => ?_⟩
  refine q B σ H ρ st m _ re rs (good_thenS re h fun d s1 v H1 m1 e1 r1 rs1 h1 => ?_)
  exact h1 _ H1 m1 .refl ((re.evo e1).set i r1) rs1
def sDrop (f : Fe) : Fs := fun ρ st => (f ρ st).thenS ρ fun _ s1 => .nx ρ s1
theorem ds_expr (he : DE X W e f) (hs : swapsWith e none pos.line X.env = pure false := by rfl) : DS X W (.Expr e pos) (sDrop f) := by
  obtain ⟨t, p, q⟩ := he
  refine ⟨_, ps_expr p hs, fun B σ H ρ st m En re rs h => ?_⟩
  refine q B σ H ρ st m _ re rs (good_thenS re h fun d s1 v H1 m1 e1 r1 rs1 h1 => ?_)
  exact h1 σ H1 m1 .refl (re.evo e1) rs1
def sRet (f : Fe) : Fs := fun ρ st => (f ρ st).thenS ρ fun d s1 => .ret d s1
theorem ds_ret (he : DE X W e f) : DS X W (.Return (some e) pos) (sRet f) := by
  obtain ⟨t, p, q⟩ := he
  refine ⟨_, ps_ret p, fun B σ H ρ st m En re rs h => ?_⟩
  refine q B σ H ρ st m _ re rs (good_thenS re h fun d s1 v H1 m1 e1 r1 rs1 h1 => ?_)
  exact h1 v H1 m1 .refl r1 rs1
def sRetN : Fs := fun _ st => .ret .non st
theorem ds_retN : DS X W (.Return none pos) sRetN := ⟨_, ps_retN, fun B σ H ρ st m En re rs h => h .non H m .refl (Rep.non_iff.mpr rfl) rs⟩
def sPass : Fs := fun ρ st => .nx ρ st
theorem ds_pass : DS X W (.Pass pos) sPass := ⟨_, ps_pass, fun B σ H ρ st m En re rs h => h σ H m .refl re rs⟩
def sBrk : Fs := fun ρ st => .brk ρ st
theorem ds_brk : DS X W (.Break pos) sBrk := ⟨_, ps_break, fun B σ H ρ st m En re rs h => h σ H m .refl re rs⟩
def sCnt : Fs := fun ρ st => .cnt ρ st
theorem ds_cnt : DS X W (.Continue pos) sCnt := ⟨_, ps_continue, fun B σ H ρ st m En re rs h => h σ H m .refl re rs⟩
def sNever : Fs := fun _ _ => .fail
theorem ds_never : DS X W s sNever := ⟨_, ps_never, fun B σ H ρ st m En re rs h => h⟩
theorem db_nil : DB X W [] sPass := ⟨_, pss_nil, fun B σ H ρ st m En re rs h => h σ H m .refl re rs⟩
theorem db_one (h : DS X W s fs) : DB X W [s] fs := let ⟨⟨t, p, q⟩⟩ := h; ⟨t, pss_one p, q⟩
def sSeq (f g : Fs) : Fs := fun ρ st => (f ρ st).seq g
theorem db_cons (h1 : DS X W s fs) (h2 : DB X W ss gs) : DB X W (s :: ss) (sSeq fs gs) := by
  obtain ⟨t, p, q⟩ := h1
  obtain ⟨u, p', q'⟩ := h2
  refine ⟨_, pss_cons p p', fun B σ H ρ st m En re rs h => ?_⟩
  refine q B σ H ρ st m _ re rs ?_
  unfold sSeq at h
  cases er : fs ρ st with
  | nx ρ1 s1 =>
    rw [er] at h
    exact fun σ' H' m' e1 re1 rs1 => q' B σ' H' ρ1 s1 m' En re1 rs1 (GoodS.evo (r := gs ρ1 s1) h e1)
  | ret d s1 => rw [er] at h; exact h
  | brk ρ1 s1 => rw [er] at h; exact h
  | cnt ρ1 s1 => rw [er] at h; exact h
  | exc c fs ρ1 s1 => rw [er] at h; exact h
  | fail => rw [er] at h; exact h
def sIf (c : Ft) (f g : Fs) : Fs := fun ρ st => (c ρ st).thenS ρ fun b s1 => if b = true then f ρ s1 else g ρ s1
theorem ds_if {c : Expr} {ft : Ft} {a b : List Stmt} (hc : DT X W c ft) (ha : DB X W a fs) (hb : DB X W b gs) : DS X W (.If c a b pos) (sIf ft fs gs) := by
  obtain ⟨tc, pc, qc⟩ := hc
  obtain ⟨ta, pa, qa⟩ := ha
  obtain ⟨tb, pb, qb⟩ := hb
  refine ⟨_, ps_if pc pa pb, fun B σ H ρ st m En re rs h => ?_⟩
  refine qc B σ H ρ st m _ re rs (good_thenS re h fun d s1 x H1 m1 e1 r1 rs1 h1 => ?_)
  cases (show x = d from r1)
  cases d with
  | true => rw [if_pos rfl] at h1 ⊢; exact qa B σ H1 ρ s1 m1 En (re.evo e1) rs1 h1
  | false => rw [if_neg Bool.false_ne_true] at h1 ⊢; exact qb B σ H1 ρ s1 m1 En (re.evo e1) rs1 h1
abbrev Fg := D → DEnv → Option DEnv
abbrev Fgs := List D → DEnv → Option DEnv
theorem wipe_set {σ : Sg} {i : Nat} {x : Option V} : ∀ {vs : List Nat}, i ∈ vs → wipe (σ.set i x) vs = wipe σ vs
  | v :: vs, h => by
    unfold wipe
    by_cases hv : i ∈ vs
    · rw [wipe_set hv]
    · have e : i = v := by
        rcases List.mem_cons.mp h with h | h
        · exact h
        · exact absurd h hv
      subst e
      have key : ∀ (us : List Nat), i ∉ us → wipe (σ.set i x) us = (wipe σ us).set i x := by
        intro us
        induction us with
        | nil => intro _; rfl
        | cons u us ih =>
          intro hn
          simp only [List.mem_cons, not_or] at hn
          unfold wipe
          rw [ih hn.2, List.set_comm _ _ hn.1]
      rw [key vs hv, List.set_set]
structure DG (X : Cx) (tg : Expr) (is : List Nat) (g : Fg) : Prop where
  ex : ∃ t : TG, PG X tg t ∧ ∀ (B : List Addr) (v : V) (σ : Sg) (H : Hp) (ρ ρ' : DEnv) (m : List Addr) (d : D) (Q : Sg → Hp → Prop), RepE ⟨X.K, B⟩ H m ρ σ → Rep ⟨X.K, B⟩ H m d v → g d ρ = some ρ' →
    (∀ σ', RepE ⟨X.K, B⟩ H m ρ' σ' → (∀ vs, (∀ i ∈ is, i ∈ vs) → wipe σ' vs = wipe σ vs) → Q σ' H) → t v σ H Q
structure DGs (X : Cx) (tgs : List Expr) (is : List Nat) (g : Fgs) : Prop where
  ex : ∃ t : TGs, PGs X tgs t ∧ ∀ (B : List Addr) (vs : List V) (σ : Sg) (H : Hp) (ρ ρ' : DEnv) (m : List Addr) (ds : List D) (Q : Sg → Hp → Prop), RepE ⟨X.K, B⟩ H m ρ σ → RepL ⟨X.K, B⟩ H m ds vs → g ds ρ = some ρ' →
    (∀ σ', RepE ⟨X.K, B⟩ H m ρ' σ' → (∀ us, (∀ i ∈ is, i ∈ us) → wipe σ' us = wipe σ us) → Q σ' H) → t vs σ H Q
def gN (i : Nat) : Fg := fun d ρ => some (ρ.set i (some d))
theorem dg_name {i : Nat} {x : Str} (hN : X.N.Nodup) (hi : X.N[i]? = some x := by rfl) (hl : Loc X.env.scope x := by first | exact Or.inl rfl | exact Or.inr rfl)
    (hf : X.fn x = true ∨ X.env.scope.names.lookup x = some .local := by first | exact .inl rfl | exact .inr rfl) : DG X (.Name x pos) [i] (gN i) := by
  refine ⟨_, pg_name hN hi hl hf, fun B v σ H ρ ρ' m d Q re r h q => ?_⟩
  cases h
  exact q _ (re.set i r) fun vs hv => wipe_set (hv i (by simp))
def gsNil : Fgs := fun ds ρ => match ds with
  | [] => some ρ
  | _ => none
def gsCons (g : Fg) (gs : Fgs) : Fgs := fun ds ρ => match ds with
  | d :: r => (g d ρ).bind fun ρ1 => gs r ρ1
  | [] => none
theorem dgs_nil : DGs X [] [] gsNil := by
  refine ⟨_, pgs_nil, fun B vs σ H ρ ρ' m ds Q re r h q => ?_⟩
  cases ds with
  | nil =>
    cases h
    exact ⟨r.inv_nil, q σ re fun _ _ => rfl⟩
  | cons _ _ => cases h
theorem dgs_cons {tg : Expr} {tgs : List Expr} {is js : List Nat} {g : Fg} {gs : Fgs} (h1 : DG X tg is g) (h2 : DGs X tgs js gs)
    (hs : (assignEach (tg :: tgs) X.env).map (·.2) = assign tg X.env :: (assignEach tgs X.env).map (·.2) := by rfl) : DGs X (tg :: tgs) (is ++ js) (gsCons g gs) := by
  obtain ⟨t, p, q⟩ := h1
  obtain ⟨t', p', q'⟩ := h2
  refine ⟨_, pgs_cons p p' hs, fun B vs σ H ρ ρ' m ds Q re r h k => ?_⟩
  cases ds with
  | nil => cases h
  | cons d ds =>
    obtain ⟨v, vr, rfl, r1, r2⟩ := r.inv_cons
    obtain ⟨ρ1, e1, e2⟩ := Option.bind_eq_some_iff.mp h
    refine ⟨v, vr, rfl, q B v σ H ρ ρ1 m d _ re r1 e1 fun σ1 re1 w1 => ?_⟩
    refine q' B vr σ1 H ρ1 ρ' m ds _ re1 r2 e2 fun σ2 re2 w2 => k σ2 re2 fun us hu => ?_
    rw [w2 us fun i hi => hu i (List.mem_append_right _ hi), w1 us fun i hi => hu i (List.mem_append_left _ hi)]
def gT (n : Nat) (gs : Fgs) : Fg := fun d ρ => match d with
  | .tup ds => if ds.length = n then gs ds ρ else none
  | _ => none
theorem dg_tup {es : List Expr} {k n : Nat} {is : List Nat} {gs : Fgs} (hc : X.calm = true) (h : DGs X es is gs) (hn : (assignEach es X.env).length = n := by rfl) (hst : (assignEach es X.env).findIdx? (·.1) = none := by rfl) : DG X (.Tuple es k pos) is (gT n gs) := by
  obtain ⟨t, p, q⟩ := h
  refine ⟨_, pg_tup hc p hn hst, fun B v σ H ρ ρ' m d Q re r h k => ?_⟩
  cases d with
  | tup ds =>
    simp only [gT] at h
    split at h
    · rename_i hl
      obtain ⟨a, vs, rfl, hq, r2⟩ := r.tup_sq
      exact ⟨a, vs, rfl, hq, by rw [← r2.length]; exact hl, q B vs σ H ρ ρ' m ds _ re r2 h k⟩
    · cases h
  | _ => cases h
def sAsg (f : Fe) (g : Fg) : Fs := fun ρ st => (f ρ st).thenS ρ fun d s1 => match g d ρ with
  | some ρ' => .nx ρ' s1
  | none => .fail
theorem ds_asg {tg : Expr} {is : List Nat} {g : Fg} (he : DE X W e f) (hg : DG X tg is g) (hs : swapsWithSole [tg] e pos.line X.env = pure false := by rfl) (hw : swappedStores [tg] e X.env = pure none := by rfl)
    (h1 : (assignEach [tg] X.env).map (·.2) = [assign tg X.env] := by rfl) : DS X W (.Assign [tg] e pos) (sAsg f g) := by
  obtain ⟨t, p, q⟩ := he
  obtain ⟨t', p', q'⟩ := hg
  refine ⟨_, ps_asg p p' hs hw h1, fun B σ H ρ st m En re rs h => ?_⟩
  refine q B σ H ρ st m _ re rs (good_thenS re h fun d s1 v H1 m1 e1 r1 rs1 h1 => ?_)
  cases hd : g d ρ with
  | none => rw [hd] at h1; exact h1.elim
  | some ρ' =>
    rw [hd] at h1
    exact q' B v σ H1 ρ ρ' m1 d _ (re.evo e1) r1 hd fun σ' re' _ => h1 σ' H1 m1 .refl re' rs1
/-- a, b = x, y -/
def sPar (i j : Nat) (fa : Fa) : Fs := fun ρ st => (fa ρ st).thenS ρ fun ds s1 => match ds with
  | [a, b] => .nx ((ρ.set i (some a)).set j (some b)) s1
  | _ => .fail
theorem ds_par {i j : Nat} {x y : Str} {a b : Expr} {fa : Fa} {px py pt : Pos} {kt k2 pt2} (hx : XOk X W) (ha : DA X W [a, b] fa) (hi : X.N[i]? = some x := by rfl) (hj : X.N[j]? = some y := by rfl) (hij : i ≠ j := by decide)
    (h1 : X.env.scope.names.lookup x = some .local := by rfl) (h2 : X.env.scope.names.lookup y = some .local := by rfl)
    (hw : swappedStores [.Tuple [.Name x px, .Name y py] kt pt] (.Tuple [a, b] k2 pt2) X.env = pure (some [x, y]) := by rfl)
    (hs : swapsWithSole [.Tuple [.Name x px, .Name y py] kt pt] (.Tuple [a, b] k2 pt2) pos.line X.env = pure false := by rfl) : DS X W (.Assign [.Tuple [.Name x px, .Name y py] kt pt] (.Tuple [a, b] k2 pt2) pos) (sPar i j fa) := by
  obtain ⟨⟨t, p, q⟩, _⟩ := ha
  refine ⟨_, ps_par hx.calm hx.nd hi hj hij h1 h2 p hw hs, fun B σ H ρ st m En re rs h => ?_⟩
  refine q B σ H ρ st m _ re rs (good_thenS re h fun ds s1 vs H1 m1 e1 r1 rs1 h1 => ?_)
  match ds, h1, r1 with
  | [a, b], h1, r1 =>
    obtain ⟨v, r, rfl, ra, r1⟩ := r1.inv_cons
    obtain ⟨w, r, rfl, rb, r1⟩ := r1.inv_cons
    cases r1.inv_nil
    exact ⟨v, w, rfl, h1 _ H1 m1 .refl (((re.evo e1).set i ra).set j rb) rs1⟩
  | [], h1, _ => exact h1.elim
  | [_], h1, _ => exact h1.elim
  | _ :: _ :: _ :: _, h1, _ => exact h1.elim
/-- o[i] = e -/
def putL (st : Store) (o k d : D) : Option Store := match o, k with
  | .loc l, .int i => match st[l]? with
    | some (.lst ds) => (ixN ds.length i).map fun j => st.set l (.lst (ds.set j d))
    | _ => none
  | _, _ => none
def sPut (fo fi fe : Fe) : Fs := fun ρ st => (fe ρ st).thenS ρ fun d s1 => (fo ρ s1).thenS ρ fun o s2 => (fi ρ s2).thenS ρ fun k s3 => match putL s3 o k d with
  | some s4 => .nx ρ s4
  | none => .fail
theorem loc_lst {K : KB} {H : Hp} {m : List Addr} {st : Store} {l : Nat} {v : V} {ds : List D} (rs : RepSt K H m st) (r : Rep K H m (.loc l) v) (q : st[l]? = some (.lst ds)) : ∃ a vs, v = .ref a ∧ m[l]? = some a ∧ H a = some (.lst vs) ∧ RepL K H m ds vs := by
  obtain ⟨a, rfl, h1⟩ := Rep.loc_iff.mp r
  obtain ⟨b, h2, vs, h3, h4⟩ := rs.cell l _ q
  rw [h1] at h2; cases h2
  exact ⟨a, vs, rfl, h1, h3, h4⟩
theorem ds_put {o i : Expr} {fo fi : Fe} {tp : Pos} (ho : DE X W o fo) (hi : DE X W i fi) (he : DE X W e f)
    (hs : swapsWithSole [.Subscript o i tp] e pos.line X.env = pure false := by rfl) (hw : swappedStores [.Subscript o i tp] e X.env = pure none := by rfl)
    (h1 : (assignEach [.Subscript o i tp] X.env).map (·.2) = [assign (.Subscript o i tp) X.env] := by rfl)
    (ha : ∀ v, assign (.Subscript o i tp) X.env v = (do
      let ov ← holding [v] (eval o X.env)
      let iv ← holding [v, ov] (eval i X.env)
      standAt tp
      holding [v, ov, iv] (setItem ov iv v)
      release [v, ov, iv] []) := by intro _; rfl) : DS X W (.Assign [.Subscript o i tp] e pos) (sPut fo fi f) := by
  obtain ⟨to, po, qo⟩ := ho
  obtain ⟨ti, pi, qi⟩ := hi
  obtain ⟨t, p, q⟩ := he
  refine ⟨_, ps_asg p (pg_sub po pi set_list ha) hs hw h1, fun B σ H ρ st m En re rs h => ?_⟩
  refine q B σ H ρ st m _ re rs (good_thenS re h fun d s1 v H1 m1 e1 r1 rs1 h1 => ?_)
  refine qo B σ H1 ρ s1 m1 _ (re.evo e1) rs1 (good_thenS (re.evo e1) h1 fun od s2 ov H2 m2 e2 r2 rs2 h2 => ?_)
  refine qi B σ H2 ρ s2 m2 _ (re.evo (e1.trans e2)) rs2 (good_thenS (re.evo (e1.trans e2)) h2 fun kd s3 kv H3 m3 e3 r3 rs3 h3 => ?_)
  cases hp : putL s3 od kd d with
  | none => rw [hp] at h3; exact h3.elim
  | some s4 =>
    rw [hp] at h3
    cases od with
    | loc l =>
      cases kd with
      | int k =>
        cases Rep.int_iff.mp r3
        simp only [putL] at hp
        cases hq : s3[l]? with
        | none => rw [hq] at hp; cases hp
        | some c =>
          rw [hq] at hp
          cases c with
          | lst ds =>
            obtain ⟨j, hj, rfl⟩ := Option.map_eq_some_iff.mp hp
            obtain ⟨a, vs, rfl, hm, hH, rl⟩ := loc_lst rs3 (Rep.evo e3 _ _ r2) hq
            refine ⟨a, vs, k, j, rfl, rfl, hH, by rw [← rl.length]; exact hj, ?_⟩
            have e4 : Evo H3 m3 (upd H3 a (.lst (vs.set j v))) m3 := .write hm (fun _ _ z => by rw [hH] at z; cases z)
            refine h3 σ _ m3 e4 ((re.evo (e1.trans (e2.trans e3))).evo e4) (rs3.write hm (fun z => by rw [hH] at z; cases z) (fun _ _ z => by rw [hH] at z; cases z) ⟨_, upd_same, ?_⟩)
            exact RepL.evo e4 _ _ (rl.set j (Rep.evo (e2.trans e3) _ _ r1))
          | dic _ => cases hp
          | dik _ => cases hp
          | ins _ _ => cases hp
      | _ => simp [putL] at hp
    | _ => simp [putL] at hp
/-- x.append(e) -/
def xApp (fo fe : Fe) : Fe := fun ρ st => (fo ρ st).bind fun o s1 => match o with
  | .loc l => match s1[l]? with
    | some (.lst _) => (fe ρ s1).bind fun d s2 => match s2[l]? with
      | some (.lst ds) => if ds.length < sizeLine then .ok .non (s2.set l (.lst (ds ++ [d]))) else .fail
      | _ => .fail
    | _ => .fail
  | _ => .fail
theorem de_app {o : Expr} {fo : Fe} {apos cpos : Pos} (ho : DE X W o fo) (he : DE X W e f)
    (hbase : attributeBase o "append" X.env (eval o X.env) = eval o X.env := by rfl)
    (hfew : ((backTo cpos (starEach [e] X.env)).all (fun x => !x.1) && (backToKw cpos (keywordEach [] X.env)).all (fun x => x.1.isSome)
      && decide ([e].length + ([] : List Keyword).length + (if ([] : List Keyword).isEmpty then 0 else 1) < 30)) = true := by rfl)
    (hline : (apos.endLine == cpos.line) = true := by rfl) (hs : starEach [e] X.env = (false, eval e X.env) :: starEach [] X.env := by rfl) (hplain : (backTo cpos (starEach [] X.env)).any (·.1) = false := by rfl) :
    DE X W (.Call (.Attribute o "append" apos) [e] [] cpos) (xApp fo f) := by
  obtain ⟨to, po, qo⟩ := ho
  obtain ⟨t, p, q⟩ := he
  refine ⟨_, pe_bm PySem.F.plainAttrs_list PySem.F.slot_list_append PySem.F.type_list_append mt_append po (pa_cons p pa_nil hs) hbase hfew hline hs hplain, fun B σ H ρ st m Q re rs h => ?_⟩
  refine qo B σ H ρ st m _ re rs (good_bind h fun od s1 ov H1 m1 e1 r1 rs1 h1 => ?_)
  cases od with
  | loc l =>
    simp only at h1
    cases hq : s1[l]? with
    | none => rw [hq] at h1; exact h1.elim
    | some c =>
      rw [hq] at h1
      cases c with
      | lst ds =>
        simp only at h1
        obtain ⟨a, vs, rfl, hm, hH, rl⟩ := loc_lst rs1 r1 hq
        refine ⟨.inl ⟨rfl, vs, .of hH⟩, ?_⟩
        refine q B σ H1 ρ s1 m1 _ (re.evo e1) rs1 (good_bind h1 fun d s2 v H2 m2 e2 r2 rs2 h2 => ?_)
        cases hq2 : s2[l]? with
        | none => rw [hq2] at h2; exact h2.elim
        | some c2 =>
          rw [hq2] at h2
          cases c2 with
          | lst ds2 =>
            simp only at h2
            split at h2
            · rename_i hz
              obtain ⟨a', vs2, ea, hm2, hH2, rl2⟩ := loc_lst rs2 (Rep.evo e2 _ _ r1) hq2
              cases ea
              refine ⟨a, vs2, v, rfl, rfl, hH2, by rw [← rl2.length]; exact hz, ?_⟩
              have e4 : Evo H2 m2 (upd H2 a (.lst (vs2 ++ [v]))) m2 := .write hm2 (fun _ _ z => by rw [hH2] at z; cases z)
              exact h2 .non _ m2 e4 (Rep.non_iff.mpr rfl) (rs2.write hm2 (fun z => by rw [hH2] at z; cases z) (fun _ _ z => by rw [hH2] at z; cases z) ⟨_, upd_same, RepL.evo e4 _ _ (rl2.append (.cons r2 .nil))⟩)
            · exact h2.elim
          | dic _ => exact h2.elim
          | dik _ => exact h2.elim
          | ins _ _ => exact h2.elim
      | dic _ => exact h1.elim
      | dik _ => exact h1.elim
      | ins _ _ => exact h1.elim
  | _ => exact h1.elim
def xApply (F : Fd) (fa : Fa) : Fe := fun ρ st => (fa ρ st).bind fun ds s1 => F ds s1
/-- the def runs -/
theorem runG {k : Nat} {g : Addr} {fd : FuncData} {ps : List Str} {sp : Sp} {pins : List (Addr × Obj)} {σ : Sg} {H : Hp} {s : Shared} {Q : VK} {us : List Value} {vs : List V} (G : FnG X.prog X.w X.K X.mg X.base k g fd ps sp) (room : Room k X.A) (hx : XOk X W) (hb : Binds X.K fd ps [])
    (I : Inv X pins σ H s) (r : Vals vs us) (h : sp vs H Q fun c d H' => untag X.K W c d σ H') : wpAny (model X.prog X.w) X.A (call (.ref g) us) (EP X pins σ Q) X.xe s := by
  have hn : us.length = ps.length := by rw [← r.length]; exact G.len _ _ _ _ h
  have hb := hb s us I.kIn (by rw [List.append_nil]; exact hn)
  rw [List.append_nil] at hb
  refine wpAny_call (codeAny_mono (G.run X.A X.stack s H ⟨us, []⟩ us vs Q _ room hx.gd I.env0 hb r h) fun res s' q => ?_)
  match res, q with
  | .error e, q => exact passAt hx.tk σ pins H s e s' I q
  | .ok (.ret u), q => exact I.after q
  | .ok .next, q => exact q.elim
  | .ok .brk, q => exact q.elim
  | .ok .cont, q => exact q.elim
theorem de_call {k : Nat} {g : Addr} {fd : FuncData} {ps : List Str} {n : Nat} {F : Fd} {x : Str} {p : Pos} {es : List Expr} {fa : Fa} (G : FnG X.prog X.w X.K X.mg X.base k g fd ps (spD X.K n F)) (hr : Room k X.A) (hx : XOk X W) (hm : X.mg x = some (.ref g)) (hk : PySem.W.keepIn X.K (.ref g) = true)
    (hb : Binds X.K fd ps []) (ha : DA X W (e :: es) fa) (hg : Gl X x := by rfl) (hn : (e :: es).length = n := by rfl) (hdb : (x == ("__debug__" : Str)) = false := by decide)
    (he : starEach (e :: es) X.env = (false, eval e X.env) :: starEach es X.env := by rfl) (hpl : (backTo pos (starEach es X.env)).any (·.1) = false := by rfl) : DE X W (.Call (.Name x p) (e :: es) [] pos) (xApply F fa) := by
  obtain ⟨⟨t, pt, q⟩, hl⟩ := ha
  refine ⟨fun σ H Q => t σ H fun vs H1 => spD X.K n F vs H1 Q fun c d H' => untag X.K W c d σ H', ⟨fun pins s σ H Q I h => ?_⟩, fun B σ H ρ st m Q re rs h => ?_⟩
  · refine wpAny_Call_Name_kw (ld_glob I hg hm ?_ hdb)
    refine PySem.W.callWith_K (h₀ := X.base) I.ok.mod.kin hk (thn (pt.run pos pins s σ H _ I h) fun us s1 ⟨vs, H1, I1, r, q⟩ => ⟨I1.kIn, ?_⟩) he hpl
    exact runG G hr hx hb I1 r q
  · unfold xApply at h
    cases er : fa ρ st with
    | fail => rw [er] at h; exact h.elim
    | exc c f s => exact q B σ H ρ st m _ re rs (by rw [er] at h ⊢; exact h)
    | ok ds s1 =>
      refine q B σ H ρ st m _ re rs ?_
      rw [er] at h ⊢
      intro vs H1 m1 e1 r1 rs1
      exact ⟨B, ds, s1, m1, by rw [hl _ _ _ _ er]; exact hn, r1, rs1, GoodR.imp (r := F ds s1) (GoodR.evo (r := F ds s1) h e1) fun c d H' q => untag_of q⟩
end
/-- a def by its body -/
theorem fn_D {P : Program} {w : World} {K : PySem.W.Frag} {mg : Str → Option Value} {base : Heap} {x qual : Str} {st : Stmt} {f : Addr} {fd : FuncData} {N ps : List Str} {k : Nat} {body : Fs} (F : FunD K x qual (defArgs st) (defBody st) (defScope st) [] [] f fd) (S : FnScope N ps (defScope st))
    (hbody : ∀ (cdv : Value) (A : Around) (outer : List Env) (s : Shared) (H : Hp) (E : XK), cdv = .ref (codeA K f) → Room k (A.deeper (envOfC qual (defScope st) s.heap.objs.size f cdv)) →
      XOk (cxOf (L2.CX P w) P w K mg base N qual (defScope st) f cdv A outer s H E) (fun c d _ H' => E (trK K c) d H') →
      DB (cxOf (L2.CX P w) P w K mg base N qual (defScope st) f cdv A outer s H E) (fun c d _ H' => E (trK K c) d H') (defBody st) body) :
    FnG P w K mg base (k + 1) f fd ps (spD K ps.length (runD N.length body)) := by
  refine fnG_of F S (fun vs H Q E h => ?_) (fun cdv A outer s H vs Q E hcd hr hgd h => ?_)
  · obtain ⟨B, ds, st, m, h1, h2, _⟩ := h
    rw [← h2.length, h1]
  · obtain ⟨B, ds, s0, m, hl, rl, rs, h⟩ := h
    obtain ⟨t, p, q⟩ := hbody cdv A outer s H E hcd hr ⟨rfl, S.nd, Takes.tag (takes_of rfl rfl rfl rfl), hgd⟩
    refine ⟨t, p, ?_⟩
    have re : RepE ⟨K, B⟩ H m (start N.length ds) (L2.start N vs) := by
      refine ⟨by unfold start L2.start; simp [rl.length], fun i d hi => ?_⟩
      have hlt : i < ds.length := by
        unfold start at hi
        by_cases hlt : i < ds.length
        · exact hlt
        · rw [List.getElem?_append_right (by simpa using hlt), List.getElem?_replicate] at hi
          split at hi <;> cases hi
      unfold start at hi
      rw [List.getElem?_append_left (by simpa using hlt), List.getElem?_map] at hi
      have hi' : ds[i]? = some d := by
        cases e : ds[i]? with
        | none => rw [e] at hi; cases hi
        | some a => rw [e] at hi; cases hi; rfl
      obtain ⟨v, h1, h2⟩ := rl.get hi'
      refine ⟨v, ?_, h2⟩
      unfold L2.start
      rw [List.getElem?_append_left (by rw [List.length_map, ← rl.length]; exact hlt), List.getElem?_map, h1]
      rfl
    refine q B _ H (start N.length ds) s0 m _ re rs ?_
    have h : GoodR (Rep ⟨K, B⟩) (ofS (body (start N.length ds) s0)) Q (fun c d H' => E (trK K c) d H') ⟨K, B⟩ H m := h
    cases er : body (start N.length ds) s0 with
    | nx ρ s1 => rw [er] at h; exact fun σ' H' m' e1 re1 rs1 => h .non H' m' e1 (Rep.non_iff.mpr rfl) rs1
    | ret d s1 => rw [er] at h; exact h
    | brk ρ s1 => rw [er] at h; exact h.elim
    | cnt ρ s1 => rw [er] at h; exact h.elim
    | exc c fs ρ s1 => rw [er] at h; exact fun σ' dx H' m' e1 re1 rx rs1 => h dx H' m' e1 rx rs1
    | fail => rw [er] at h; exact h.elim
/-- .. that gets no places -/
theorem fn_Z {P : Program} {w : World} {K : PySem.W.Frag} {mg : Str → Option Value} {base : Heap} {k : Nat} {f : Addr} {fd : FuncData} {ps : List Str} {n N : Nat} {body : Fs} (F : FnG P w K mg base k f fd ps (spD K n (runD N body))) :
    FnG P w K mg base k f fd ps (spD K n (runZ N body)) := F.imp fun vs H Q E ⟨B, ds, st, m, h1, h2, h3, h4⟩ => let ⟨a, b⟩ := zero_run h3 h2 h4; ⟨B ++ m, ds, [], [], h1, a, zero_st h3, b⟩
/-- .. whose places are its own -/
theorem fn_P {P : Program} {w : World} {K : PySem.W.Frag} {mg : Str → Option Value} {base : Heap} {k : Nat} {f : Addr} {fd : FuncData} {ps : List Str} {n N : Nat} {body : Fs} (F : FnG P w K mg base k f fd ps (spD K n (runD N body))) :
    FnG P w K mg base k f fd ps (spD K n (runP N body)) := F.imp fun vs H Q E ⟨B, ds, st, m, h1, h2, h3, h4⟩ => ⟨B, ds, st, m, h1, h2, h3, pure_run h3 h4⟩
end DL
namespace DL
open PySem PySem.Spec PyProof.Rows L2
variable [TabsCtx]
def sameAt (ws : List Nat) (s t : Store) : Bool := ws.all fun l => match s[l]?, t[l]? with
  | some a, some b => Cell.beq a b
  | _, _ => false
@[simp] theorem sameAt_nil (s t : Store) : sameAt [] s t = true := rfl
theorem sameAt_get {ws : List Nat} {s t : Store} (h : sameAt ws s t = true) {l : Nat} (hl : l ∈ ws) : ∃ c, s[l]? = some c ∧ t[l]? = some c := by
  have := List.all_eq_true.mp h l hl
  cases e1 : s[l]? with
  | none => rw [e1] at this; simp at this
  | some a =>
    cases e2 : t[l]? with
    | none => rw [e1, e2] at this; simp at this
    | some b =>
      rw [e1, e2] at this
      exact ⟨a, rfl, by rw [Cell.beq_eq a b this]⟩
/-- what an iterator gives, whatever is done between, if the places watched stay -/
structure ItRep (K : PySem.W.Frag) (B : List Addr) (J : It) (items : List D) (ws : List Nat) (s1 : Store) (H1 : Hp) (m1 : List Addr) : Prop where
  goes : ∀ (B' : List Addr) (i : Nat) (H : Hp) (m : List Addr) (st : Store), (∀ b ∈ B', b ∈ B ∨ H1 b = none) → i < items.length → Evo H1 m1 H m → RepSt ⟨K, B'⟩ H m st → sameAt ws s1 st = true → J.go i H
  stops : ∀ (B' : List Addr) (H : Hp) (m : List Addr) (st : Store), (∀ b ∈ B', b ∈ B ∨ H1 b = none) → Evo H1 m1 H m → RepSt ⟨K, B'⟩ H m st → sameAt ws s1 st = true → J.stop items.length H
  yields : ∀ (B' : List Addr) (i : Nat) (d : D) (H : Hp) (m : List Addr) (st : Store) (x : V) (H' : Hp), (∀ b ∈ B', b ∈ B ∨ H1 b = none) → items[i]? = some d → Evo H1 m1 H m → RepSt ⟨K, B'⟩ H m st → sameAt ws s1 st = true → J.yld i H x H' →
    Grow H H' ∧ Rep ⟨K, B'⟩ H' m d x
section
variable {K : PySem.W.Frag} {B B' : List Addr} {H : Hp} {m : List Addr}
mutual
theorem Rep.ban (hb : ∀ b ∈ B', b ∈ B ∨ H b = none) : ∀ {d : D} {v : V}, Rep ⟨K, B⟩ H m d v → Rep ⟨K, B'⟩ H m d v
  | .tup ds, _, h => by
    obtain ⟨a, vs, rfl, h1, h2⟩ := Rep.tup_iff.mp h
    refine Rep.tup_iff.mpr ⟨a, vs, rfl, ?_, RepL.ban hb h2⟩
    rcases h1 with ⟨h1, n, nb⟩ | h1
    · refine .inl ⟨h1, n, fun z => ?_⟩
      rcases hb a z with q | q
      · exact nb q
      · rcases h1 with h1 | ⟨o, h1⟩
        · rw [q] at h1; cases h1
        · rw [q] at h1; cases h1
    · exact .inr h1
  | .lst ds, _, h => by
    obtain ⟨a, vs, rfl, ⟨h1, n, nb⟩, h2⟩ := Rep.lst_iff.mp h
    refine Rep.lst_iff.mpr ⟨a, vs, rfl, ⟨h1, n, fun z => ?_⟩, RepL.ban hb h2⟩
    rcases hb a z with q | q
    · exact nb q
    · rw [q] at h1; cases h1
  | .rol ds, _, h => by
    obtain ⟨a, vs, rfl, h1, h2⟩ := Rep.rol_iff.mp h
    refine Rep.rol_iff.mpr ⟨a, vs, rfl, ?_, RepL.ban hb h2⟩
    rcases h1 with ⟨⟨o, h1⟩, n, nb⟩ | h1
    · refine .inl ⟨⟨o, h1⟩, n, fun z => ?_⟩
      rcases hb a z with q | q
      · exact nb q
      · rw [q] at h1; cases h1
    · exact .inr h1
  | .loc l, _, h => by unfold Rep at h ⊢; exact h
  | .non, _, h => by unfold Rep at h ⊢; exact h
  | .bl _, _, h => by unfold Rep at h ⊢; exact h
  | .int _, _, h => by unfold Rep at h ⊢; exact h
  | .str _, _, h => by unfold Rep at h ⊢; exact h
  | .ty _, _, h => by unfold Rep at h ⊢; exact h
  | .ob _, _, h => by unfold Rep at h ⊢; exact h
  | .fn _, _, h => by unfold Rep at h ⊢; exact h
  | .dct ks ds, _, h => by
    obtain ⟨a, vs, rfl, h1, hl, h2⟩ := Rep.dct_iff.mp h
    exact Rep.dct_iff.mpr ⟨a, vs, rfl, h1, hl, RepL.ban hb h2⟩
  | .obj c ds, _, h => by
    obtain ⟨a, dx, vs, rfl, ⟨h1, h3, n, nb, nd, ndb⟩, h2⟩ := Rep.obj_iff.mp h
    refine Rep.obj_iff.mpr ⟨a, dx, vs, rfl, ⟨h1, h3, n, fun z => ?_, nd, fun z => ?_⟩, RepL.ban hb h2⟩
    · rcases hb a z with q | q
      · exact nb q
      · rw [q] at h1; cases h1
    · rcases hb dx z with q | q
      · exact ndb q
      · rw [q] at h3; cases h3
  | .exo c f ds, _, h => by
    obtain ⟨a, dx, vs, rfl, ⟨h1, n, nb, nd, ndb⟩, h2⟩ := Rep.exo_iff.mp h
    refine Rep.exo_iff.mpr ⟨a, dx, vs, rfl, ⟨h1, n, fun z => ?_, nd, fun z => ?_⟩, RepL.ban hb h2⟩
    · rcases hb a z with q | q
      · exact nb q
      · have h1 := h1.1; rw [q] at h1; cases h1
    · rcases hb dx z with q | q
      · exact ndb q
      · obtain ⟨o, h3, _⟩ := h1.dx; rw [q] at h3; cases h3
theorem RepL.ban (hb : ∀ b ∈ B', b ∈ B ∨ H b = none) : ∀ {ds : List D} {vs : List V}, RepL ⟨K, B⟩ H m ds vs → RepL ⟨K, B'⟩ H m ds vs
  | [], _, h => by unfold RepL at h ⊢; exact h
  | d :: ds, _, h => by
    obtain ⟨v, r, rfl, h1, h2⟩ := h.inv_cons
    exact .cons (Rep.ban hb h1) (RepL.ban hb h2)
end
theorem RepP.ban {κ : Type} (hb : ∀ b ∈ B', b ∈ B ∨ H b = none) : ∀ {ds : List (κ × D)} {vs : List (κ × V)}, RepP ⟨K, B⟩ H m ds vs → RepP ⟨K, B'⟩ H m ds vs
  | [], _, h => h
  | (k, d) :: ds, _, ⟨v, r, q, h1, h2⟩ => ⟨v, r, q, Rep.ban hb h1, RepP.ban hb h2⟩
theorem RepO.ban (hb : ∀ b ∈ B', b ∈ B ∨ H b = none) : ∀ {ds : List (Option D)} {vs : List (Option V)}, RepO ⟨K, B⟩ H m ds vs → RepO ⟨K, B'⟩ H m ds vs
  | [], _, h => h
  | none :: ds, _, ⟨r, q, h2⟩ => ⟨r, q, RepO.ban hb h2⟩
  | some d :: ds, _, ⟨v, r, q, h1, h2⟩ => ⟨v, r, q, Rep.ban hb h1, RepO.ban hb h2⟩
theorem RepC.ban {c : Cell} {a : Addr} (hb : ∀ b ∈ B', b ∈ B ∨ H b = none) (h : RepC ⟨K, B⟩ H m c a) : RepC ⟨K, B'⟩ H m c a := by
  cases c with
  | lst ds => obtain ⟨vs, x, y⟩ := h; exact ⟨vs, x, y.ban hb⟩
  | dic kvs => obtain ⟨vs, x, y⟩ := h; exact ⟨vs, x, y.ban hb⟩
  | dik kvs => obtain ⟨o2, vs, x, y⟩ := h; exact ⟨o2, vs, x, y.ban hb⟩
  | ins C fs =>
    obtain ⟨dx, vs, x, z, n, nb, y⟩ := h
    refine ⟨dx, vs, x, z, n, fun w => ?_, y.ban hb⟩
    rcases hb dx w with q | q
    · exact nb q
    · rw [q] at z; cases z
theorem RepE.ban {ρ : DEnv} {σ : Sg} (hb : ∀ b ∈ B', b ∈ B ∨ H b = none) (h : RepE ⟨K, B⟩ H m ρ σ) : RepE ⟨K, B'⟩ H m ρ σ := ⟨h.len, fun i d q => let ⟨v, h1, h2⟩ := h.val i d q; ⟨v, h1, h2.ban hb⟩⟩
end
abbrev Fi := DEnv → Store → Res (List D × List Nat)
def GoodI (r : Res (List D × List Nat)) (R : It → Hp → Prop) (W : WH) (K : PySem.W.Frag) (B : List Addr) (H : Hp) (m : List Addr) : Prop := match r with
  | .ok p s1 => ∀ J H1 m1, Evo H m H1 m1 → RepSt ⟨K, B⟩ H1 m1 s1 → ItRep K B J p.1 p.2 s1 H1 m1 → R J H1
  | .exc c fs st' => ∀ dx H' m', Evo H m H' m' → RepX ⟨K, B⟩ H' m' fs dx → RepSt ⟨K, B⟩ H' m' st' → W c dx H'
  | .fail => False
structure DI (X : Cx) (W : WX) (tg e : Expr) (f : Fi) : Prop where
  ex : ∃ t : TI, PI X tg e t ∧ ∀ (B : List Addr) (σ : Sg) (H : Hp) (ρ : DEnv) (st : Store) (m : List Addr) (R : It → Hp → Prop), RepE ⟨X.K, B⟩ H m ρ σ → RepSt ⟨X.K, B⟩ H m st → GoodI (f ρ st) R (fun c d H' => W c d σ H') X.K B H m → t σ H R
theorem good_bindI {α β : Type} {K : PySem.W.Frag} {B : List Addr} {H : Hp} {m : List Addr} {R : Hp → List Addr → α → β → Prop} {r : Res α} {k : α → Store → Res (List D × List Nat)} {R' : It → Hp → Prop} {Q1 : β → Hp → Prop} {W : WH} (h : GoodI (r.bind k) R' W K B H m)
    (hk : ∀ d st1 v H1 m1, Evo H m H1 m1 → R H1 m1 d v → RepSt ⟨K, B⟩ H1 m1 st1 → GoodI (k d st1) R' W K B H1 m1 → Q1 v H1) : GoodR R r Q1 W ⟨K, B⟩ H m := by
  cases r with
  | ok d st =>
    refine fun v H1 m1 e rv rs => hk d st v H1 m1 e rv rs ?_
    have h : GoodI (k d st) R' W K B H m := h
    cases q : k d st with
    | ok p s => rw [q] at h; exact fun J H2 m2 e2 => h J H2 m2 (e.trans e2)
    | exc c fs s => rw [q] at h; exact fun dx H2 m2 e2 => h dx H2 m2 (e.trans e2)
    | fail => rw [q] at h; exact h.elim
  | exc c fs st => exact h
  | fail => exact h.elim
section
variable {X : Cx} {W : WX} {pos : Pos} {e tg iter : Expr} {f : Fe} {fi : Fi}
theorem it_list {K : PySem.W.Frag} {B : List Addr} {H1 : Hp} {m1 : List Addr} {a : Addr} {vs : List V} {ds : List D} {s1 : Store} (hs : SqL K H1 a vs) (ha : a ∉ m1) (r : RepL ⟨K, B⟩ H1 m1 ds vs) : ItRep K B (Itl K a) ds [] s1 H1 m1 := by
  have sq : ∀ {H : Hp} {m : List Addr}, Evo H1 m1 H m → SqL K H a vs := fun {H m} e => by
    rcases hs with hs | hs
    · exact .inl (e.rd hs ha).1
    · exact .inr hs
  refine ⟨fun B' i H m st hb hi e rs _ => ?_, fun B' H m st hb e rs _ => ⟨vs, sq e, by rw [← r.length]; exact Nat.le_refl _⟩, fun B' i d H m st x H' hb hi e rs _ y => ?_⟩
  · have hv : i < vs.length := by rw [← r.length]; exact hi
    exact ⟨vs, vs[i], sq e, by simp [hv]⟩
  · obtain ⟨rfl, y⟩ := y
    have hx := y vs (sq e)
    obtain ⟨v, h1, h2⟩ := r.get hi
    rw [h1] at hx; cases hx
    exact ⟨Grow.refl, Rep.evo e _ _ (h2.ban hb)⟩
theorem it_tup {K : PySem.W.Frag} {B : List Addr} {H1 : Hp} {m1 : List Addr} {a : Addr} {vs : List V} {ds : List D} {s1 : Store} (hs : (Rd H1 a (.tup vs) ∧ a ∉ m1) ∨ TK K a vs) (r : RepL ⟨K, B⟩ H1 m1 ds vs) : ItRep K B (Itt K a) ds [] s1 H1 m1 := by
  have sq : ∀ {H : Hp} {m : List Addr}, Evo H1 m1 H m → SqT K H a vs := fun {H m} e => by
    rcases hs with ⟨hs, ha⟩ | hs
    · exact .inl (e.rd hs ha).1
    · exact .inr hs
  refine ⟨fun B' i H m st hb hi e rs _ => ?_, fun B' H m st hb e rs _ => ⟨vs, sq e, by rw [← r.length]; exact Nat.le_refl _⟩, fun B' i d H m st x H' hb hi e rs _ y => ?_⟩
  · have hv : i < vs.length := by rw [← r.length]; exact hi
    exact ⟨vs, vs[i], sq e, by simp [hv]⟩
  · obtain ⟨rfl, y⟩ := y
    have hx := y vs (sq e)
    obtain ⟨v, h1, h2⟩ := r.get hi
    rw [h1] at hx; cases hx
    exact ⟨Grow.refl, Rep.evo e _ _ (h2.ban hb)⟩
theorem it_loc {K : PySem.W.Frag} {B : List Addr} {H1 : Hp} {m1 : List Addr} {a : Addr} {l : Nat} {ds : List D} {s1 : Store} (hm : m1[l]? = some a) (hl : s1[l]? = some (.lst ds)) : ItRep K B (Itl K a) ds [l] s1 H1 m1 := by
  have key : ∀ {B' : List Addr} {H : Hp} {m : List Addr} {st : Store}, Evo H1 m1 H m → RepSt ⟨K, B'⟩ H m st → sameAt [l] s1 st = true → ∃ vs, H a = some (.lst vs) ∧ RepL ⟨K, B'⟩ H m ds vs := fun {B' H m st} e rs w => by
    obtain ⟨c, h1, h2⟩ := sameAt_get w (List.mem_singleton.mpr rfl)
    rw [hl] at h1; cases h1
    obtain ⟨b, h3, vs, h4, h5⟩ := rs.cell l _ h2
    rw [e.get hm] at h3; cases h3
    exact ⟨vs, h4, h5⟩
  refine ⟨fun B' i H m st hb hi e rs w => ?_, fun B' H m st hb e rs w => ?_, fun B' i d H m st x H' hb hi e rs w y => ?_⟩
  · obtain ⟨vs, h1, h2⟩ := key e rs w
    have hv : i < vs.length := by rw [← h2.length]; exact hi
    exact ⟨vs, vs[i], .of h1, by simp [hv]⟩
  · obtain ⟨vs, h1, h2⟩ := key e rs w
    exact ⟨vs, .of h1, by rw [← h2.length]; exact Nat.le_refl _⟩
  · obtain ⟨rfl, y⟩ := y
    obtain ⟨vs, h1, h2⟩ := key e rs w
    have hx := y vs (.of h1)
    obtain ⟨v, h3, h4⟩ := h2.get hi
    rw [h3] at hx; cases hx
    exact ⟨Grow.refl, h4⟩
/-- any list or tuple -/
def iSeq (K : PySem.W.Frag) (tl : TE) : TI := fun σ H R => tl σ H fun x H1 => ∃ a, x = .ref a ∧ (((∃ xs, SqL K H1 a xs) ∧ R (Itl K a) H1) ∨ ((∃ xs, SqT K H1 a xs) ∧ R (Itt K a) H1))
theorem pi_seq {l : Expr} {tl : TE} (hl : PE X l tl) : PI X tg l (iSeq X.K tl) := by
  refine ⟨fun pins s σ H R I h => ?_⟩
  refine thn (hl.run pins s σ H _ I h) fun v s1 ⟨x, H1, I1, r1, q1⟩ => ?_
  obtain ⟨a, e, q1⟩ := q1
  subst e
  cases r1
  rcases q1 with ⟨⟨xs, hq⟩, q⟩ | ⟨⟨xs, hq⟩, q⟩
  · obtain ⟨its, rv, p, hz⟩ := I1.list hq
    refine wpAny_pyIter_list p.isList ?_
    refine ⟨s1.heap.objs.size, [s1.heap.objs.size], _, _, H1, rfl, I1.kept (t' := s1.toks) fun b o e => Heap.get?_push_of_some _ e, turn_list a _, ⟨_, Heap.get?_push_size _ rfl, rfl, rfl⟩, fun b hb => ?_, q⟩
    have e : b = s1.heap.objs.size := by simpa using hb
    subst e
    exact I1.fpOk (Nat.le_refl _) (I1.hok.fresh (Nat.le_refl _))
  · obtain ⟨its, rv, p, hz⟩ := I1.tuple hq
    refine wpAny_pyIter_tuple (show s1.heap.IsTuple a its.toArray from p) ?_
    refine ⟨s1.heap.objs.size, [s1.heap.objs.size], _, _, H1, rfl, I1.kept (t' := s1.toks) fun b o e => Heap.get?_push_of_some _ e, turn_tuple a _, ⟨_, Heap.get?_push_size _ rfl, rfl, rfl⟩, fun b hb => ?_, q⟩
    have e : b = s1.heap.objs.size := by simpa using hb
    subst e
    exact I1.fpOk (Nat.le_refl _) (I1.hok.fresh (Nat.le_refl _))
def seqI (st : Store) : D → Option (List D × List Nat)
  | .tup ds => some (ds, [])
  | .lst ds => some (ds, [])
  | .rol ds => some (ds, [])
  | .loc l => match st[l]? with
    | some (.lst ds) => some (ds, [l])
    | _ => none
  | _ => none
def liftI (o : Option (List D × List Nat)) (st : Store) : Res (List D × List Nat) := match o with
  | some d => .ok d st
  | none => .fail
@[simp] theorem liftI_some (d) (st : Store) : liftI (some d) st = .ok d st := id rfl
@[simp] theorem liftI_none (st : Store) : liftI none st = .fail := id rfl
def iOf (f : Fe) : Fi := fun ρ st => (f ρ st).bind fun d s1 => liftI (seqI s1 d) s1
/-- a value walked: where it stands -/
theorem seqI_rep {K : PySem.W.Frag} {B : List Addr} {H1 : Hp} {m1 : List Addr} {s1 : Store} {d : D} {x : V} {p : List D × List Nat} (rs : RepSt ⟨K, B⟩ H1 m1 s1) (r : Rep ⟨K, B⟩ H1 m1 d x) (hp : seqI s1 d = some p) :
    ∃ a, x = .ref a ∧ (((∃ xs, SqL K H1 a xs) ∧ ItRep K B (Itl K a) p.1 p.2 s1 H1 m1) ∨ ((∃ xs, SqT K H1 a xs) ∧ ItRep K B (Itt K a) p.1 p.2 s1 H1 m1)) := by
  cases d with
  | tup ds =>
    cases hp
    obtain ⟨a, vs, rfl, h1, h2⟩ := Rep.tup_iff.mp r
    refine ⟨a, rfl, .inr ⟨⟨vs, ?_⟩, it_tup ?_ h2⟩⟩
    · rcases h1 with h1 | h1
      · exact .inl h1.1
      · exact .inr h1
    · rcases h1 with h1 | h1
      · exact .inl ⟨h1.1, h1.2.1⟩
      · exact .inr h1
  | lst ds =>
    cases hp
    obtain ⟨a, vs, rfl, h1, h2⟩ := Rep.lst_iff.mp r
    exact ⟨a, rfl, .inl ⟨⟨vs, .of h1.1⟩, it_list (.of h1.1) h1.2.1 h2⟩⟩
  | rol ds =>
    cases hp
    obtain ⟨a, vs, rfl, h1, h2⟩ := Rep.rol_iff.mp r
    rcases h1 with ⟨⟨o, h1⟩, n, _⟩ | h1
    · exact ⟨a, rfl, .inl ⟨⟨vs, .inl (.inr ⟨o, h1⟩)⟩, it_list (.inl (.inr ⟨o, h1⟩)) n h2⟩⟩
    · refine ⟨a, rfl, .inl ⟨⟨vs, .inr h1⟩, ?_⟩⟩
      have sq : ∀ {H : Hp}, SqL K H a vs := fun {H} => .inr h1
      refine ⟨fun B' i H m st hb hi e rs _ => ?_, fun B' H m st hb e rs _ => ⟨vs, sq, by rw [← h2.length]; exact Nat.le_refl _⟩, fun B' i d H m st x H' hb hi e rs _ y => ?_⟩
      · have hv : i < vs.length := by rw [← h2.length]; exact hi
        exact ⟨vs, vs[i], sq, by simp [hv]⟩
      · obtain ⟨rfl, y⟩ := y
        have hx := y vs sq
        obtain ⟨v, h3, h4⟩ := h2.get hi
        rw [h3] at hx; cases hx
        exact ⟨Grow.refl, Rep.evo e _ _ (h4.ban hb)⟩
  | loc l =>
    simp only [seqI] at hp
    cases hq : s1[l]? with
    | none => rw [hq] at hp; cases hp
    | some c =>
      rw [hq] at hp
      cases c with
      | lst ds =>
        cases hp
        obtain ⟨a, vs, rfl, hm, hH, rl⟩ := loc_lst rs r hq
        exact ⟨a, rfl, .inl ⟨⟨vs, .of hH⟩, it_loc hm hq⟩⟩
      | dic _ => cases hp
      | dik _ => cases hp
      | ins _ _ => cases hp
  | _ => cases hp
theorem di_seq (h : DE X W e f) : DI X W tg e (iOf f) := by
  obtain ⟨t, p, q⟩ := h
  refine ⟨_, pi_seq p, fun B σ H ρ st m R re rs h => ?_⟩
  refine q B σ H ρ st m _ re rs (good_bindI h fun d s1 x H1 m1 e1 r1 rs1 h1 => ?_)
  cases hp : seqI s1 d with
  | none => rw [hp] at h1; exact h1.elim
  | some p =>
    rw [hp] at h1
    obtain ⟨a, rfl, hh⟩ := seqI_rep rs1 r1 hp
    refine ⟨a, rfl, ?_⟩
    rcases hh with ⟨h2, h3⟩ | ⟨h2, h3⟩
    · exact .inl ⟨h2, h1 _ H1 m1 .refl rs1 h3⟩
    · exact .inr ⟨h2, h1 _ H1 m1 .refl rs1 h3⟩
/-- range -/
def rngI (lo : Int) (n : Nat) : List D := (List.range n).map fun i => D.int (lo + (i : Nat))
theorem it_rng {K : PySem.W.Frag} {B : List Addr} {H1 : Hp} {m1 : List Addr} {lo : Int} {n : Nat} {s1 : Store} : ItRep K B (Itr lo n) (rngI lo n) [] s1 H1 m1 := by
  have hl : (rngI lo n).length = n := by simp [rngI]
  refine ⟨fun B' i H m st hb hi e rs _ => by rw [hl] at hi; exact hi, fun B' H m st hb e rs _ => by rw [hl]; exact Nat.le_refl _, fun B' i d H m st x H' hb hi e rs _ y => ?_⟩
  obtain ⟨rfl, rfl⟩ := y
  have hi' : i < n := by
    have := (List.getElem?_eq_some_iff.mp hi).1
    rwa [hl] at this
  unfold rngI at hi
  rw [List.getElem?_map, List.getElem?_range hi'] at hi
  cases hi
  exact ⟨Grow.refl, Rep.int_iff.mpr rfl⟩
def rng1 : List D → Option (List D × List Nat)
  | [.int j] => if -(2 ^ 62) ≤ j ∧ j < 2 ^ 62 then some (rngI 0 j.toNat, []) else none
  | _ => none
def rng2 : List D → Option (List D × List Nat)
  | [.int i, .int j] => if -(2 ^ 62) ≤ i ∧ i < 2 ^ 62 ∧ -(2 ^ 62) ≤ j ∧ j < 2 ^ 62 then some (rngI i (j - i).toNat, []) else none
  | _ => none
def iRng (g : List D → Option (List D × List Nat)) (fa : Fa) : Fi := fun ρ st => (fa ρ st).bind fun ds s1 => liftI (g ds) s1
theorem di_rng1 {a : Expr} {fa : Fa} {p : Pos} (hm : X.mg "range" = none) (ha : DA X W [a] fa) (hg : Gl X "range" := by rfl) (hs : starEach [a] X.env = [(false, eval a X.env)] := by rfl) : DI X W tg (.Call (.Name "range" p) [a] [] pos) (iRng rng1 fa) := by
  obtain ⟨⟨t, p, q⟩, _⟩ := ha
  refine ⟨_, pi_range1 hg hm p hs, fun B σ H ρ st m R re rs h => ?_⟩
  refine q B σ H ρ st m _ re rs (good_bindI h fun ds s1 vs H1 m1 e1 r1 rs1 h1 => ?_)
  match ds, h1, r1 with
  | [.int j], h1, r1 =>
    obtain ⟨v, r, rfl, ra, r1⟩ := r1.inv_cons
    cases r1.inv_nil
    cases Rep.int_iff.mp ra
    simp only [rng1] at h1
    split at h1
    · rename_i hc
      exact ⟨j, rfl, hc.1, hc.2, h1 _ H1 m1 .refl rs1 it_rng⟩
    · exact h1.elim
  | [], h1, _ => exact h1.elim
  | [.non], h1, _ => exact h1.elim
  | [.bl _], h1, _ => exact h1.elim
  | [.str _], h1, _ => exact h1.elim
  | [.ty _], h1, _ => exact h1.elim
  | [.ob _], h1, _ => exact h1.elim
  | [.tup _], h1, _ => exact h1.elim
  | [.lst _], h1, _ => exact h1.elim
  | [.rol _], h1, _ => exact h1.elim
  | [.loc _], h1, _ => exact h1.elim
  | [.fn _], h1, _ => exact h1.elim
  | [.dct _ _], h1, _ => exact h1.elim
  | [.obj _ _], h1, _ => exact h1.elim
  | [.exo _ _ _], h1, _ => exact h1.elim
  | _ :: _ :: _, h1, _ => simp [rng1, liftI] at h1; exact h1.elim
theorem rng2_inv {ds : List D} {p : List D × List Nat} (h : rng2 ds = some p) : ∃ i j : Int, ds = [.int i, .int j] ∧ (-(2 ^ 62) ≤ i ∧ i < 2 ^ 62 ∧ -(2 ^ 62) ≤ j ∧ j < 2 ^ 62) ∧ p = (rngI i (j - i).toNat, []) := by
  unfold rng2 at h
  split at h
  · split at h
    · rename_i hc; cases h; exact ⟨_, _, rfl, hc, rfl⟩
    · cases h
  · cases h
theorem di_rng2 {a b : Expr} {fa : Fa} {p : Pos} (hm : X.mg "range" = none) (ha : DA X W [a, b] fa) (hg : Gl X "range" := by rfl) (hs : starEach [a, b] X.env = [(false, eval a X.env), (false, eval b X.env)] := by rfl) (hs2 : starEach [b] X.env = [(false, eval b X.env)] := by rfl) : DI X W tg (.Call (.Name "range" p) [a, b] [] pos) (iRng rng2 fa) := by
  obtain ⟨⟨t, p, q⟩, _⟩ := ha
  refine ⟨_, pi_range2 hg hm p hs hs2, fun B σ H ρ st m R re rs h => ?_⟩
  refine q B σ H ρ st m _ re rs (good_bindI h fun ds s1 vs H1 m1 e1 r1 rs1 h1 => ?_)
  cases hd : rng2 ds with
  | none => rw [hd] at h1; exact h1.elim
  | some p =>
    rw [hd] at h1
    obtain ⟨i, j, rfl, hc, rfl⟩ := rng2_inv hd
    obtain ⟨v, r, rfl, ra, r1⟩ := r1.inv_cons
    obtain ⟨w, r, rfl, rb, r1⟩ := r1.inv_cons
    cases r1.inv_nil
    cases Rep.int_iff.mp ra
    cases Rep.int_iff.mp rb
    exact ⟨i, j, rfl, hc, h1 _ H1 m1 .refl rs1 it_rng⟩
def forD (g : Fg) (body : Fs) (ws : List Nat) (s1 : Store) : List D → DEnv → Store → SRes
  | [], ρ, st => .nx ρ st
  | d :: ds, ρ, st => match g d ρ with
    | none => .fail
    | some ρ1 => match body ρ1 st with
      | .nx ρ2 s2 => if sameAt ws s1 s2 = true then forD g body ws s1 ds ρ2 s2 else .fail
      | .cnt ρ2 s2 => if sameAt ws s1 s2 = true then forD g body ws s1 ds ρ2 s2 else .fail
      | .brk ρ2 s2 => .nx ρ2 s2
      | r => r
def sFor (fi : Fi) (g : Fg) (body : Fs) : Fs := fun ρ st => (fi ρ st).thenS ρ fun p s1 => if sameAt p.2 s1 s1 = true then forD g body p.2 s1 p.1 ρ s1 else .fail
theorem ds_for {is : List Nat} {g : Fg} {body : List Stmt} {fb : Fs} (hx : XOk X W) (hp : PassesOwn (model X.prog X.w) X.A X.env X.xe) (hi : DI X W tg iter fi) (hg : DG X tg is g) (hb : DB X W body fb)
    (hs : ∀ x, foldedSetIterable iter X.env x = pure x := by intro _; rfl) : DS X W (.For tg iter body [] pos) (sFor fi g fb) := by
  obtain ⟨ti, pi, qi⟩ := hi
  obtain ⟨tg', pg, qg⟩ := hg
  obtain ⟨tb, pb, qb⟩ := hb
  refine ⟨_, ps_for hp hx.calm pi pg pb hs, fun B σ H ρ st m En re rs h => ?_⟩
  refine qi B σ H ρ st m _ re rs ?_
  unfold sFor at h
  cases er : fi ρ st with
  | fail => rw [er] at h; exact h.elim
  | exc c fs s => rw [er] at h; exact fun dx H1 m1 e rx rs => h σ dx H1 m1 e (re.evo e) rx rs
  | ok p s1 =>
    rw [er] at h
    intro J H1 m1 e1 rs1 hit
    simp only [Res.thenS_ok] at h
    split at h
    · rename_i hw
      have h := GoodS.evo h e1
      have re1 := re.evo e1
      refine ⟨fun i k σ' H' => k = p.1.length - i ∧ i ≤ p.1.length ∧ ∃ ρ' st' m', Evo H1 m1 H' m' ∧ RepE ⟨X.K, B⟩ H' m' ρ' σ' ∧ RepSt ⟨X.K, B⟩ H' m' st' ∧ sameAt p.2 s1 st' = true ∧ GoodS (forD g fb p.2 s1 (p.1.drop i) ρ' st') En W ⟨X.K, B⟩ H' m',
        ⟨p.1.length, by simp, Nat.zero_le _, ρ, s1, m1, .refl, re1, rs1, hw, h⟩, ?_⟩
      rintro i k σ' H' ⟨rfl, hi, ρ', st', m', ev, re', rs', hw', hh⟩
      by_cases hlt : i < p.1.length
      · refine .inr ⟨hit.goes B i H' m' st' (fun b hb => .inl hb) hlt ev rs' hw', fun σ2 H2 => i + 1 ≤ p.1.length ∧ ∃ ρ2 st2 m2, Evo H1 m1 H2 m2 ∧ RepE ⟨X.K, B⟩ H2 m2 ρ2 σ2 ∧ RepSt ⟨X.K, B⟩ H2 m2 st2 ∧ sameAt p.2 s1 st2 = true ∧ GoodS (forD g fb p.2 s1 (p.1.drop (i + 1)) ρ2 st2) En W ⟨X.K, B⟩ H2 m2,
          fun σ2 H2 hN => ⟨p.1.length - (i + 1), by omega, rfl, hN⟩, fun x H2 y => ?_⟩
        have hd : p.1[i]? = some p.1[i] := by simp [hlt]
        obtain ⟨gr, rx⟩ := hit.yields B i _ H' m' st' x H2 (fun b hb => .inl hb) hd ev rs' hw' y
        have ec : p.1.drop i = p.1[i] :: p.1.drop (i + 1) := List.drop_eq_getElem_cons hlt
        rw [ec] at hh
        unfold forD at hh
        cases hg : g p.1[i] ρ' with
        | none => rw [hg] at hh; exact hh.elim
        | some ρ1 =>
          rw [hg] at hh
          refine qg B x σ' H2 ρ' ρ1 m' _ _ (re'.evo gr.evo) rx hg fun σ3 re3 _ => ?_
          refine qb B σ3 H2 ρ1 st' m' _ re3 (rs'.grow gr) ?_
          simp only at hh
          have cont : ∀ {ρ2 : DEnv} {s2 : Store}, GoodS (if sameAt p.2 s1 s2 = true then forD g fb p.2 s1 (p.1.drop (i + 1)) ρ2 s2 else .fail) En W ⟨X.K, B⟩ H' m' → ∀ σ4 H4 m4, Evo H2 m' H4 m4 → RepE ⟨X.K, B⟩ H4 m4 ρ2 σ4 → RepSt ⟨X.K, B⟩ H4 m4 s2 →
              i + 1 ≤ p.1.length ∧ ∃ ρ2 st2 m2, Evo H1 m1 H4 m2 ∧ RepE ⟨X.K, B⟩ H4 m2 ρ2 σ4 ∧ RepSt ⟨X.K, B⟩ H4 m2 st2 ∧ sameAt p.2 s1 st2 = true ∧ GoodS (forD g fb p.2 s1 (p.1.drop (i + 1)) ρ2 st2) En W ⟨X.K, B⟩ H4 m2 := fun {ρ2 s2} hh σ4 H4 m4 e4 re4 rs4 => by
            split at hh
            · rename_i hw4
              exact ⟨hlt, ρ2, s2, m4, ev.trans (gr.evo.trans e4), re4, rs4, hw4, GoodS.evo hh (gr.evo.trans e4)⟩
            · exact hh.elim
          cases er : fb ρ1 st' with
          | nx ρ2 s2 => rw [er] at hh; exact cont hh
          | cnt ρ2 s2 => rw [er] at hh; exact cont hh
          | brk ρ2 s2 => rw [er] at hh; exact fun σ4 H4 m4 e4 re4 rs4 => hh σ4 H4 m4 (gr.evo.trans e4) re4 rs4
          | ret d s2 => rw [er] at hh; exact fun v H4 m4 e4 => hh v H4 m4 (gr.evo.trans e4)
          | exc c fs ρ2 s2 => rw [er] at hh; exact fun σ4 dx H4 m4 e4 => hh σ4 dx H4 m4 (gr.evo.trans e4)
          | fail => rw [er] at hh; exact hh.elim
      · have e : i = p.1.length := by omega
        subst e
        refine .inl ⟨hit.stops B H' m' st' (fun b hb => .inl hb) ev rs' hw', ?_⟩
        rw [List.drop_length] at hh
        exact hh σ' H' m' .refl re' rs'
    · exact h.elim
def whileD (t : Ft) (body : Fs) : Nat → DEnv → Store → SRes
  | 0, _, _ => .fail
  | n + 1, ρ, st => (t ρ st).thenS ρ fun b s1 => if b = true then match body ρ s1 with
      | .nx ρ2 s2 => whileD t body n ρ2 s2
      | .cnt ρ2 s2 => whileD t body n ρ2 s2
      | .brk ρ2 s2 => .nx ρ2 s2
      | r => r
    else .nx ρ s1
def sWhile (fuel : DEnv → Store → Nat) (t : Ft) (body : Fs) : Fs := fun ρ st => whileD t body (fuel ρ st) ρ st
theorem ds_while {c : Expr} {ft : Ft} {body : List Stmt} {fb : Fs} (fuel : DEnv → Store → Nat) (hp : PassesOwn (model X.prog X.w) X.A X.env X.xe) (hc : DT X W c ft) (hb : DB X W body fb) : DS X W (.While c body [] pos) (sWhile fuel ft fb) := by
  obtain ⟨tc, pc, qc⟩ := hc
  obtain ⟨tb, pb, qb⟩ := hb
  refine ⟨_, ps_while hp pc pb, fun B σ H ρ st m En re rs h => ?_⟩
  refine ⟨fun k σ' H' => ∃ ρ' st' m', RepE ⟨X.K, B⟩ H' m' ρ' σ' ∧ RepSt ⟨X.K, B⟩ H' m' st' ∧ GoodS (whileD ft fb k ρ' st') En W ⟨X.K, B⟩ H' m', ⟨fuel ρ st, ρ, st, m, re, rs, h⟩, ?_⟩
  rintro k σ' H' ⟨ρ', st', m', re', rs', hh⟩
  cases k with
  | zero => exact hh.elim
  | succ k =>
    unfold whileD at hh
    refine qc B σ' H' ρ' st' m' _ re' rs' (good_thenS re' hh fun b s1 x H1 m1 e1 r1 rs1 h1 => ?_)
    cases (show x = b from r1)
    cases b with
    | false => rw [if_neg Bool.false_ne_true] at h1 ⊢; exact h1 σ' H1 m1 .refl (re'.evo e1) rs1
    | true =>
      rw [if_pos rfl] at h1 ⊢
      refine ⟨fun σ2 H2 => ∃ ρ' st' m', RepE ⟨X.K, B⟩ H2 m' ρ' σ2 ∧ RepSt ⟨X.K, B⟩ H2 m' st' ∧ GoodS (whileD ft fb k ρ' st') En W ⟨X.K, B⟩ H2 m', fun σ2 H2 hN => ⟨k, Nat.lt_succ_self _, hN⟩, ?_⟩
      refine qb B σ' H1 ρ' s1 m1 _ (re'.evo e1) rs1 ?_
      cases er : fb ρ' s1 with
      | nx ρ2 s2 => rw [er] at h1; exact fun σ4 H4 m4 e4 re4 rs4 => ⟨ρ2, s2, m4, re4, rs4, GoodS.evo (r := whileD ft fb k ρ2 s2) h1 e4⟩
      | cnt ρ2 s2 => rw [er] at h1; exact fun σ4 H4 m4 e4 re4 rs4 => ⟨ρ2, s2, m4, re4, rs4, GoodS.evo (r := whileD ft fb k ρ2 s2) h1 e4⟩
      | brk ρ2 s2 => rw [er] at h1; exact h1
      | ret d s2 => rw [er] at h1; exact h1
      | exc c fs ρ2 s2 => rw [er] at h1; exact h1
      | fail => rw [er] at h1; exact h1.elim
end
end DL
namespace DL
open PySem PySem.Spec PyProof.Rows L2
variable [TabsCtx]
def wipeD (ρ : DEnv) : List Nat → DEnv
  | [] => ρ
  | v :: vs => (wipeD ρ vs).set v none
theorem RepE.wipe {K : KB} {H : Hp} {m : List Addr} {ρ : DEnv} {σ : Sg} (h : RepE K H m ρ σ) : ∀ vs : List Nat, RepE K H m (wipeD ρ vs) (L2.wipe σ vs)
  | [] => h
  | v :: vs => by
    have ih := RepE.wipe h vs
    unfold wipeD L2.wipe
    refine ⟨by simp [ih.len], fun i d q => ?_⟩
    by_cases hj : v = i
    · subst hj
      by_cases hl : v < (wipeD ρ vs).length
      · rw [List.getElem?_set_self hl] at q; cases q
      · rw [List.getElem?_eq_none (by simpa using hl)] at q; cases q
    · rw [List.getElem?_set_ne hj] at q ⊢
      exact ih.val i d q
/-- an environment's names are as those of σ where its own are wiped -/
def lcD (g : Fg) (t : Ft) (f : Fe) (ws : List Nat) (s1 : Store) (ρ : DEnv) : List D → Store → Res (List D)
  | [], st => .ok [] st
  | d :: ds, st => match g d ρ with
    | none => .fail
    | some ρ1 => match t ρ1 st with
      | .ok true s2 => match f ρ1 s2 with
        | .ok x s3 => if sameAt ws s1 s3 = true then (lcD g t f ws s1 ρ ds s3).bind fun r s4 => .ok (x :: r) s4 else .fail
        | _ => .fail
      | .ok false s2 => if sameAt ws s1 s2 = true then lcD g t f ws s1 ρ ds s2 else .fail
      | _ => .fail
def xLcF (fi : Fi) (g : Fg) (t : Ft) (f : Fe) (vs : List Nat) : DEnv → Store → Res (List D) := fun ρ st => (fi ρ st).bind fun p s1 => if sameAt p.2 s1 s1 = true ∧ p.1.length ≤ sizeLine then lcD g t f p.2 s1 (wipeD ρ vs) p.1 s1 else .fail
def xLc (fi : Fi) (g : Fg) (t : Ft) (f : Fe) (vs : List Nat) : Fe := fun ρ st => (xLcF fi g t f vs ρ st).bind fun ds s1 => .ok (.lst ds) s1
def xLcN (fi : Fi) (g : Fg) (t : Ft) (f : Fe) (vs : List Nat) : Fe := fun ρ st => (xLcF fi g t f vs ρ st).bind fun ds s1 => .ok (.loc s1.length) (s1 ++ [.lst ds])
/-- a clause's tests -/
structure DTs (X : Cx) (W : WX) (es : List Expr) (f : Ft) : Prop where
  ex : ∃ t : TT, PTs X es t ∧ ∀ (B : List Addr) (σ : Sg) (H : Hp) (ρ : DEnv) (st : Store) (m : List Addr) (Q : Bool → Hp → Prop), RepE ⟨X.K, B⟩ H m ρ σ → RepSt ⟨X.K, B⟩ H m st → GoodR RB (f ρ st) Q (fun c d H' => W c d σ H') ⟨X.K, B⟩ H m → t σ H Q
def tAll : Ft := fun _ st => .ok true st
theorem dts_nil {X : Cx} {W : WX} : DTs X W [] tAll := ⟨_, pts_nil, fun B σ H ρ st m Q re rs h => good_ok h rfl rs⟩
theorem dts_one {X : Cx} {W : WX} {c : Expr} {f : Ft} (h : DT X W c f) : DTs X W [c] f := let ⟨⟨t, p, q⟩⟩ := h; ⟨t, pts_one p, q⟩
abbrev WF : WX := fun _ _ _ _ => False
section
variable {K : PySem.W.Frag} {B : List Addr} {H : Hp} {m : List Addr} {p : Addr} {o : HO}
mutual
theorem Rep.updB (hp : p ∈ B) (hn : ∀ o u, H p ≠ some (.frz o u)) : ∀ {d : D} {v : V}, Rep ⟨K, B⟩ H m d v → Rep ⟨K, B⟩ (upd H p o) m d v
  | .tup ds, _, h => by
    obtain ⟨a, vs, rfl, h1, h2⟩ := Rep.tup_iff.mp h
    refine Rep.tup_iff.mpr ⟨a, vs, rfl, ?_, RepL.updB hp hn h2⟩
    rcases h1 with ⟨h1, n, nb⟩ | h1
    · have ne : a ≠ p := fun z => nb (by rw [z]; exact hp)
      refine .inl ⟨?_, n, nb⟩
      rcases h1 with h1 | ⟨u, h1⟩
      · exact .inl (by rw [upd_ne ne]; exact h1)
      · exact .inr ⟨u, by rw [upd_ne ne]; exact h1⟩
    · exact .inr h1
  | .lst ds, _, h => by
    obtain ⟨a, vs, rfl, ⟨h1, n, nb⟩, h2⟩ := Rep.lst_iff.mp h
    have ne : a ≠ p := fun z => nb (by rw [z]; exact hp)
    exact Rep.lst_iff.mpr ⟨a, vs, rfl, ⟨by rw [upd_ne ne]; exact h1, n, nb⟩, RepL.updB hp hn h2⟩
  | .rol ds, _, h => by
    obtain ⟨a, vs, rfl, h1, h2⟩ := Rep.rol_iff.mp h
    refine Rep.rol_iff.mpr ⟨a, vs, rfl, ?_, RepL.updB hp hn h2⟩
    rcases h1 with ⟨⟨u, h1⟩, n, nb⟩ | h1
    · have ne : a ≠ p := fun z => nb (by rw [z]; exact hp)
      exact .inl ⟨⟨u, by rw [upd_ne ne]; exact h1⟩, n, nb⟩
    · exact .inr h1
  | .loc l, _, h => by unfold Rep at h ⊢; exact h
  | .non, _, h => by unfold Rep at h ⊢; exact h
  | .bl _, _, h => by unfold Rep at h ⊢; exact h
  | .int _, _, h => by unfold Rep at h ⊢; exact h
  | .str _, _, h => by unfold Rep at h ⊢; exact h
  | .ty _, _, h => by unfold Rep at h ⊢; exact h
  | .ob _, _, h => by unfold Rep at h ⊢; exact h
  | .fn _, _, h => by unfold Rep at h ⊢; exact h
  | .dct ks ds, _, h => by
    obtain ⟨a, vs, rfl, ⟨o1, h1⟩, hl, h2⟩ := Rep.dct_iff.mp h
    have ne : a ≠ p := fun z => hn _ _ (by rw [← z]; exact h1)
    exact Rep.dct_iff.mpr ⟨a, vs, rfl, ⟨o1, by rw [upd_ne ne]; exact h1⟩, hl, RepL.updB hp hn h2⟩
  | .obj c ds, _, h => by
    obtain ⟨a, dx, vs, rfl, ⟨h1, h3, n, nb, nd, ndb⟩, h2⟩ := Rep.obj_iff.mp h
    have ne : a ≠ p := fun z => nb (by rw [z]; exact hp)
    have ne2 : dx ≠ p := fun z => ndb (by rw [z]; exact hp)
    exact Rep.obj_iff.mpr ⟨a, dx, vs, rfl, ⟨by rw [upd_ne ne]; exact h1, by rw [upd_ne ne2]; exact h3, n, nb, nd, ndb⟩, RepL.updB hp hn h2⟩
  | .exo c f ds, _, h => by
    obtain ⟨a, dx, vs, rfl, ⟨h1, n, nb, nd, ndb⟩, h2⟩ := Rep.exo_iff.mp h
    have ne : a ≠ p := fun z => nb (by rw [z]; exact hp)
    have ne2 : dx ≠ p := fun z => ndb (by rw [z]; exact hp)
    exact Rep.exo_iff.mpr ⟨a, dx, vs, rfl, ⟨h1.imp (fun o q _ => by rw [upd_ne ne]; exact q) fun o q _ => by rw [upd_ne ne2]; exact q, n, nb, nd, ndb⟩, RepL.updB hp hn h2⟩
theorem RepL.updB (hp : p ∈ B) (hn : ∀ o u, H p ≠ some (.frz o u)) : ∀ {ds : List D} {vs : List V}, RepL ⟨K, B⟩ H m ds vs → RepL ⟨K, B⟩ (upd H p o) m ds vs
  | [], _, h => by unfold RepL at h ⊢; exact h
  | d :: ds, _, h => by
    obtain ⟨v, r, rfl, h1, h2⟩ := h.inv_cons
    exact .cons (Rep.updB hp hn h1) (RepL.updB hp hn h2)
end
theorem RepP.updB {κ : Type} (hp : p ∈ B) (hn : ∀ o u, H p ≠ some (.frz o u)) : ∀ {ds : List (κ × D)} {vs : List (κ × V)}, RepP ⟨K, B⟩ H m ds vs → RepP ⟨K, B⟩ (upd H p o) m ds vs
  | [], _, h => h
  | (k, d) :: ds, _, ⟨v, r, q, h1, h2⟩ => ⟨v, r, q, Rep.updB hp hn h1, RepP.updB hp hn h2⟩
theorem RepO.updB (hp : p ∈ B) (hn : ∀ o u, H p ≠ some (.frz o u)) : ∀ {ds : List (Option D)} {vs : List (Option V)}, RepO ⟨K, B⟩ H m ds vs → RepO ⟨K, B⟩ (upd H p o) m ds vs
  | [], _, h => h
  | none :: ds, _, ⟨r, q, h2⟩ => ⟨r, q, RepO.updB hp hn h2⟩
  | some d :: ds, _, ⟨v, r, q, h1, h2⟩ => ⟨v, r, q, Rep.updB hp hn h1, RepO.updB hp hn h2⟩
theorem TabM.updL {xs : List V} {P : Addr} {q : Str} (t : TabM H m P q) (hl : H p = some (.lst xs)) : TabM (upd H p o) m P q := by
  obtain ⟨ps, h1, n1, h2, h3⟩ := t
  refine ⟨ps, by rw [upd_ne (fun z => by rw [z, hl] at h1; cases h1)]; exact h1, n1, h2, fun pos cv hc => ?_⟩
  obtain ⟨c, e1, e2, n2⟩ := h3 pos cv hc
  exact ⟨c, e1, by rw [upd_ne (fun z => by rw [z, hl] at e2; exact codeO_lst _ (Option.some.inj e2).symm)]; exact e2, n2⟩
theorem Evo.updL {H4 : Hp} {m4 : List Addr} {xs : List V} (e : Evo H m H4 m4) (hD : H p = none) (hl : H4 p = some (.lst xs)) : Evo H m (upd H4 p o) m4 :=
  ⟨e.ext, fun a u q n z => ⟨by rw [upd_ne (fun z => by rw [z, hD] at q; cases q)]; exact (e.keep a u q n z).1, (e.keep a u q n z).2⟩, fun p hp t => (e.tabs p hp t).updL hl, fun a o' u q => by rw [upd_ne (fun z => by rw [z, hD] at q; cases q)]; exact e.frz a o' u q⟩
/-- a list under way is written -/
theorem RepSt.updB {st : Store} {xs ys : List V} (rs : RepSt ⟨K, B⟩ H m st) (hp : p ∈ B) (hl : H p = some (.lst xs)) : RepSt ⟨K, B⟩ (upd H p (.lst ys)) m st := by
  obtain ⟨_, hn⟩ := rs.ban p hp
  refine ⟨fun b hb => ?_, rs.len, rs.nd, fun l c q => ?_, fun p' hp' => (rs.tabs p' hp').updL hl⟩
  · obtain ⟨⟨u, e, z0⟩, n⟩ := rs.ban b hb
    refine ⟨?_, n⟩
    by_cases z : b = p
    · rw [z]; exact ⟨_, upd_same, fun _ z => nomatch z⟩
    · exact ⟨u, by rw [upd_ne z]; exact e, z0⟩
  · obtain ⟨a, h1, h2⟩ := rs.cell l c q
    have ha : a ≠ p := fun z => hn (by rw [← z]; exact List.mem_of_getElem? h1)
    refine ⟨a, h1, ?_⟩
    cases c with
    | lst ds => obtain ⟨vs, x, y⟩ := h2; exact ⟨vs, by rw [upd_ne ha]; exact x, y.updB hp (fun _ _ z => by rw [hl] at z; cases z)⟩
    | dic kvs => obtain ⟨vs, x, y⟩ := h2; exact ⟨vs, by rw [upd_ne ha]; exact x, y.updB hp (fun _ _ z => by rw [hl] at z; cases z)⟩
    | dik kvs => obtain ⟨o2, vs, x, y⟩ := h2; exact ⟨o2, vs, by rw [upd_ne ha]; exact x, y.updB hp (fun _ _ z => by rw [hl] at z; cases z)⟩
    | ins C fs =>
      obtain ⟨dx, vs, x, z, n, nb, y⟩ := h2
      exact ⟨dx, vs, by rw [upd_ne ha]; exact x, by rw [upd_ne (fun w => by rw [w, hl] at z; cases z)]; exact z, n, nb, y.updB hp (fun _ _ z => by rw [hl] at z; cases z)⟩
theorem RepSt.weakB {st : Store} (rs : RepSt ⟨K, p :: B⟩ H m st) : RepSt ⟨K, B⟩ H m st :=
  ⟨fun b hb => rs.ban b (List.mem_cons_of_mem _ hb), rs.len, rs.nd, fun l c q => let ⟨a, h1, h2⟩ := rs.cell l c q; ⟨a, h1, h2.ban fun b hb => .inl (List.mem_cons_of_mem _ hb)⟩, rs.tabs⟩
theorem RepSt.banB {st : Store} (rs : RepSt ⟨K, B⟩ H m st) (hp : H p = none) (ho : ∀ ps, o ≠ .tbl ps := by intro _ z; cases z) : RepSt ⟨K, p :: B⟩ (upd H p o) m st := by
  have r2 := rs.grow (Grow.upd (o := o) hp)
  refine ⟨fun b hb => ?_, r2.len, r2.nd, fun l c q => ?_, r2.tabs⟩
  · rcases List.mem_cons.mp hb with z | z
    · rw [z]; exact ⟨⟨_, upd_same, ho⟩, rs.fresh hp⟩
    · exact r2.ban b z
  · obtain ⟨a, h1, h2⟩ := rs.cell l c q
    have h3 : RepC ⟨K, p :: B⟩ H m c a := h2.ban fun b hb => by
      rcases List.mem_cons.mp hb with z | z
      · rw [z]; exact .inr hp
      · exact .inl z
    refine ⟨a, h1, ?_⟩
    have g : Grow H (upd H p o) := Grow.upd hp
    cases c with
    | lst ds => obtain ⟨vs, x, y⟩ := h3; exact ⟨vs, g _ _ x, RepL.evo g.evo _ _ y⟩
    | dic kvs => obtain ⟨vs, x, y⟩ := h3; exact ⟨vs, g _ _ x, RepP.evo g.evo _ _ y⟩
    | dik kvs => obtain ⟨o2, vs, x, y⟩ := h3; exact ⟨o2, vs, g _ _ x, RepP.evo g.evo _ _ y⟩
    | ins C fs => obtain ⟨dx, vs, x, z, n, nb, y⟩ := h3; exact ⟨dx, vs, g _ _ x, g _ _ z, n, nb, RepO.evo g.evo _ _ y⟩
mutual
theorem Rep.addm : ∀ {d : D} {v : V}, Rep ⟨K, p :: B⟩ H m d v → Rep ⟨K, B⟩ H (m ++ [p]) d v
  | .tup ds, _, h => by
    obtain ⟨a, vs, rfl, h1, h2⟩ := Rep.tup_iff.mp h
    refine Rep.tup_iff.mpr ⟨a, vs, rfl, ?_, RepL.addm h2⟩
    rcases h1 with ⟨h1, n, nb⟩ | h1
    · simp only [List.mem_cons, not_or] at nb
      exact .inl ⟨h1, by simp only [List.mem_append, List.mem_singleton, not_or]; exact ⟨n, nb.1⟩, nb.2⟩
    · exact .inr h1
  | .lst ds, _, h => by
    obtain ⟨a, vs, rfl, ⟨h1, n, nb⟩, h2⟩ := Rep.lst_iff.mp h
    simp only [List.mem_cons, not_or] at nb
    exact Rep.lst_iff.mpr ⟨a, vs, rfl, ⟨h1, by simp only [List.mem_append, List.mem_singleton, not_or]; exact ⟨n, nb.1⟩, nb.2⟩, RepL.addm h2⟩
  | .rol ds, _, h => by
    obtain ⟨a, vs, rfl, h1, h2⟩ := Rep.rol_iff.mp h
    refine Rep.rol_iff.mpr ⟨a, vs, rfl, ?_, RepL.addm h2⟩
    rcases h1 with ⟨⟨u, h1⟩, n, nb⟩ | h1
    · simp only [List.mem_cons, not_or] at nb
      exact .inl ⟨⟨u, h1⟩, by simp only [List.mem_append, List.mem_singleton, not_or]; exact ⟨n, nb.1⟩, nb.2⟩
    · exact .inr h1
  | .loc l, _, h => by
    obtain ⟨a, rfl, h1⟩ := Rep.loc_iff.mp h
    have hl : l < m.length := (List.getElem?_eq_some_iff.mp h1).1
    exact Rep.loc_iff.mpr ⟨a, rfl, by rw [List.getElem?_append_left hl]; exact h1⟩
  | .non, _, h => by unfold Rep at h ⊢; exact h
  | .bl _, _, h => by unfold Rep at h ⊢; exact h
  | .int _, _, h => by unfold Rep at h ⊢; exact h
  | .str _, _, h => by unfold Rep at h ⊢; exact h
  | .ty _, _, h => by unfold Rep at h ⊢; exact h
  | .ob _, _, h => by unfold Rep at h ⊢; exact h
  | .fn _, _, h => by unfold Rep at h ⊢; exact h
  | .dct ks ds, _, h => by
    obtain ⟨a, vs, rfl, h1, hl, h2⟩ := Rep.dct_iff.mp h
    exact Rep.dct_iff.mpr ⟨a, vs, rfl, h1, hl, RepL.addm h2⟩
  | .obj c ds, _, h => by
    obtain ⟨a, dx, vs, rfl, ⟨h1, h3, n, nb, nd, ndb⟩, h2⟩ := Rep.obj_iff.mp h
    simp only [List.mem_cons, not_or] at nb ndb
    exact Rep.obj_iff.mpr ⟨a, dx, vs, rfl, ⟨h1, h3, by simp only [List.mem_append, List.mem_singleton, not_or]; exact ⟨n, nb.1⟩, nb.2, by simp only [List.mem_append, List.mem_singleton, not_or]; exact ⟨nd, ndb.1⟩, ndb.2⟩, RepL.addm h2⟩
  | .exo c f ds, _, h => by
    obtain ⟨a, dx, vs, rfl, ⟨h1, n, nb, nd, ndb⟩, h2⟩ := Rep.exo_iff.mp h
    simp only [List.mem_cons, not_or] at nb ndb
    exact Rep.exo_iff.mpr ⟨a, dx, vs, rfl, ⟨h1, by simp only [List.mem_append, List.mem_singleton, not_or]; exact ⟨n, nb.1⟩, nb.2, by simp only [List.mem_append, List.mem_singleton, not_or]; exact ⟨nd, ndb.1⟩, ndb.2⟩, RepL.addm h2⟩
theorem RepL.addm : ∀ {ds : List D} {vs : List V}, RepL ⟨K, p :: B⟩ H m ds vs → RepL ⟨K, B⟩ H (m ++ [p]) ds vs
  | [], _, h => by unfold RepL at h ⊢; exact h
  | d :: ds, _, h => by
    obtain ⟨v, r, rfl, h1, h2⟩ := h.inv_cons
    exact .cons (Rep.addm h1) (RepL.addm h2)
end
theorem RepP.addm {κ : Type} : ∀ {ds : List (κ × D)} {vs : List (κ × V)}, RepP ⟨K, p :: B⟩ H m ds vs → RepP ⟨K, B⟩ H (m ++ [p]) ds vs
  | [], _, h => h
  | (k, d) :: ds, _, ⟨v, r, q, h1, h2⟩ => ⟨v, r, q, Rep.addm h1, RepP.addm h2⟩
theorem RepO.addm : ∀ {ds : List (Option D)} {vs : List (Option V)}, RepO ⟨K, p :: B⟩ H m ds vs → RepO ⟨K, B⟩ H (m ++ [p]) ds vs
  | [], _, h => h
  | none :: ds, _, ⟨r, q, h2⟩ => ⟨r, q, RepO.addm h2⟩
  | some d :: ds, _, ⟨v, r, q, h1, h2⟩ => ⟨v, r, q, Rep.addm h1, RepO.addm h2⟩
theorem TabM.keepTo {xs : List V} {P : Addr} {q : Str} (t : TabM H m P q) (hl : H p = some (.lst xs)) : TabM H (m ++ [p]) P q := by
  obtain ⟨ps, h1, n1, h2, h3⟩ := t
  refine ⟨ps, h1, by
    simp only [List.mem_append, List.mem_singleton, not_or]
    exact ⟨n1, fun z => by rw [z, hl] at h1; cases h1⟩, h2, fun pos cv hc => ?_⟩
  obtain ⟨c, e1, e2, n2⟩ := h3 pos cv hc
  refine ⟨c, e1, e2, ?_⟩
  simp only [List.mem_append, List.mem_singleton, not_or]
  exact ⟨n2, fun z => by rw [z, hl] at e2; exact codeO_lst _ (Option.some.inj e2).symm⟩
theorem RepSt.addm {st : Store} {ds : List D} {vs : List V} (rs : RepSt ⟨K, p :: B⟩ H m st) (hl : H p = some (.lst vs)) (hB : p ∉ B) (r : RepL ⟨K, p :: B⟩ H m ds vs) : RepSt ⟨K, B⟩ H (m ++ [p]) (st ++ [.lst ds]) := by
  obtain ⟨_, hn⟩ := rs.ban p (by simp)
  refine ⟨fun b hb => ?_, by simp [rs.len], List.nodup_append.mpr ⟨rs.nd, by simp, fun a ha b hb e => ?_⟩, fun l c q => ?_, fun p' hp' => (rs.tabs p' hp').keepTo hl⟩
  · obtain ⟨x, n⟩ := rs.ban b (List.mem_cons_of_mem _ hb)
    refine ⟨x, ?_⟩
    simp only [List.mem_append, List.mem_singleton, not_or]
    exact ⟨n, fun z => hB (by rw [← z]; exact hb)⟩
  · simp at hb; subst hb; subst e; exact hn ha
  · by_cases hlt : l < st.length
    · rw [List.getElem?_append_left hlt] at q
      obtain ⟨a, h1, h2⟩ := rs.cell l c q
      refine ⟨a, by rw [List.getElem?_append_left (by rw [rs.len]; exact hlt)]; exact h1, ?_⟩
      cases c with
      | lst ds => obtain ⟨vs, x, y⟩ := h2; exact ⟨vs, x, y.addm⟩
      | dic kvs => obtain ⟨vs, x, y⟩ := h2; exact ⟨vs, x, y.addm⟩
      | dik kvs => obtain ⟨o2, vs, x, y⟩ := h2; exact ⟨o2, vs, x, y.addm⟩
      | ins C fs =>
        obtain ⟨dx, vs, x, z, n, nb, y⟩ := h2
        refine ⟨dx, vs, x, z, ?_, fun w => nb (List.mem_cons_of_mem _ w), y.addm⟩
        simp only [List.mem_append, List.mem_singleton, not_or]
        exact ⟨n, fun w => by rw [w, hl] at z; cases z⟩
    · have hl' : l = st.length := by
        have := (List.getElem?_eq_some_iff.mp q).1
        simp at this; omega
      subst hl'
      simp at q
      subst q
      exact ⟨p, by rw [← rs.len]; simp, vs, hl, r.addm⟩
end
theorem wipe_wipe (σ : Sg) : ∀ vs : List Nat, L2.wipe (L2.wipe σ vs) vs = L2.wipe σ vs
  | [] => rfl
  | v :: vs => by
    have ih := wipe_wipe σ vs
    have key : ∀ (τ : Sg) (us : List Nat), v ∉ us → L2.wipe (τ.set v none) us = (L2.wipe τ us).set v none := by
      intro τ us
      induction us with
      | nil => intro _; rfl
      | cons u us ih =>
        intro hn
        simp only [List.mem_cons, not_or] at hn
        unfold L2.wipe
        rw [ih hn.2, List.set_comm _ _ hn.1]
    show (L2.wipe ((L2.wipe σ vs).set v none) vs).set v none = (L2.wipe σ vs).set v none
    by_cases hv : v ∈ vs
    · rw [wipe_set hv, ih]
    · rw [key _ vs hv, ih, List.set_set]
section
variable {X : Cx} {W : WX} {pos : Pos} {elt tg iter : Expr} {ifs : List Expr} {scope : Scope} {own : List (Str × Nat)} {fi : Fi} {g : Fg} {is : List Nat} {ft : Ft} {fe : Fe}
/-- the reading of a comprehension, from its parts -/
theorem lc_run {wi : TI} {tgr : TG} {tt : TT} {te : TE} {vs : List Nat} (his : ∀ i ∈ is, i ∈ vs)
    (qi : ∀ (B : List Addr) (σ : Sg) (H : Hp) (ρ : DEnv) (st : Store) (m : List Addr) (R : It → Hp → Prop), RepE ⟨X.K, B⟩ H m ρ σ → RepSt ⟨X.K, B⟩ H m st → GoodI (fi ρ st) R (fun c d H' => W c d σ H') X.K B H m → wi σ H R)
    (qg : ∀ (B : List Addr) (v : V) (σ : Sg) (H : Hp) (ρ ρ' : DEnv) (m : List Addr) (d : D) (Q : Sg → Hp → Prop), RepE ⟨X.K, B⟩ H m ρ σ → Rep ⟨X.K, B⟩ H m d v → g d ρ = some ρ' →
      (∀ σ', RepE ⟨X.K, B⟩ H m ρ' σ' → (∀ vs, (∀ i ∈ is, i ∈ vs) → L2.wipe σ' vs = L2.wipe σ vs) → Q σ' H) → tgr v σ H Q)
    (qt : ∀ (B : List Addr) (σ : Sg) (H : Hp) (ρ : DEnv) (st : Store) (m : List Addr) (Q : Bool → Hp → Prop), RepE ⟨X.K, B⟩ H m ρ σ → RepSt ⟨X.K, B⟩ H m st → GoodR RB (ft ρ st) Q (fun c d H' => False) ⟨X.K, B⟩ H m → tt σ H Q)
    (qe : ∀ (B : List Addr) (σ : Sg) (H : Hp) (ρ : DEnv) (st : Store) (m : List Addr) (Q : VK), RepE ⟨X.K, B⟩ H m ρ σ → RepSt ⟨X.K, B⟩ H m st → GoodR (Rep ⟨X.K, B⟩) (fe ρ st) Q (fun c d H' => False) ⟨X.K, B⟩ H m → te σ H Q)
    (B : List Addr) (σ : Sg) (H : Hp) (ρ : DEnv) (st : Store) (m : List Addr) (Q : VK) (re : RepE ⟨X.K, B⟩ H m ρ σ) (rs : RepSt ⟨X.K, B⟩ H m st)
    (hexc : ∀ c fs s, xLcF fi g ft fe vs ρ st = .exc c fs s → ∀ dx H' m', Evo H m H' m' → RepX ⟨X.K, B⟩ H' m' fs dx → RepSt ⟨X.K, B⟩ H' m' s → W c dx σ H')
    (hok : ∃ ds s, xLcF fi g ft fe vs ρ st = .ok ds s ∨ ∃ c fs, xLcF fi g ft fe vs ρ st = .exc c fs s)
    (fin : ∀ ds s, xLcF fi g ft fe vs ρ st = .ok ds s → ∀ D H1 m1 H' m' ws, Evo H m H1 m1 → H1 D = none → D ∉ B → Evo H1 m1 H' m' → RepSt ⟨X.K, D :: B⟩ H' m' s → H' D = some (.lst ws) → RepL ⟨X.K, D :: B⟩ H' m' ds ws → Q (.ref D) H') :
    tLc wi tgr tt te vs σ H Q := by
  refine qi B σ H ρ st m _ re rs ?_
  unfold xLcF at hexc hok fin
  cases er : fi ρ st with
  | fail => rw [er] at hok; obtain ⟨ds, s, h | ⟨c, fs, h⟩⟩ := hok <;> cases h
  | exc c fs s => exact hexc c fs s (by rw [er]; rfl)
  | ok p s1 =>
    rw [er] at hok fin
    simp only [Res.bind_ok] at hok fin
    intro J H1 m1 e1 rs1 hit D hD
    by_cases hc : sameAt p.2 s1 s1 = true ∧ p.1.length ≤ sizeLine
    · rw [if_pos hc] at hok fin
      have hBn : ∀ b ∈ D :: B, b ∈ B ∨ H1 b = none := fun b hb => by
        rcases List.mem_cons.mp hb with z | z
        · rw [z]; exact .inr hD
        · exact .inl z
      have hDB : D ∉ B := rs1.freshB hD
      have re1 : RepE ⟨X.K, D :: B⟩ H1 m1 (wipeD ρ vs) (L2.wipe σ vs) := ((re.evo e1).ban hBn).wipe vs
      obtain ⟨ds0, s0, eq0⟩ : ∃ ds s, lcD g ft fe p.2 s1 (wipeD ρ vs) p.1 s1 = .ok ds s := by
        have key : ∀ (l : List DL.D) (s : Store) c fs t, lcD g ft fe p.2 s1 (wipeD ρ vs) l s ≠ .exc c fs t := by
          intro l
          induction l with
          | nil => intro s c fs t h; cases h
          | cons d l ih =>
            intro s c fs t h
            unfold lcD at h
            split at h
            · cases h
            · split at h
              · split at h
                · split at h
                  · rename_i x s3 _ _
                    cases q : lcD g ft fe p.2 s1 (wipeD ρ vs) l s3 with
                    | ok a b => rw [q] at h; cases h
                    | exc c' f' t' => exact ih _ _ _ _ q
                    | fail => rw [q] at h; cases h
                  · cases h
                · cases h
              · split at h
                · exact ih _ _ _ _ h
                · cases h
              · cases h
        obtain ⟨ds, s, h | ⟨c, fs, h⟩⟩ := hok
        · exact ⟨ds, s, h⟩
        · exact absurd h (key _ _ _ _ _)
      have fin := fin ds0 s0 eq0 D H1 m1
      refine ⟨fun i k H' => k = p.1.length - i ∧ i ≤ p.1.length ∧ ∃ st' m' acc vacc, Evo H1 m1 H' m' ∧ RepSt ⟨X.K, D :: B⟩ H' m' st' ∧ sameAt p.2 s1 st' = true ∧ H' D = some (.lst vacc) ∧ RepL ⟨X.K, D :: B⟩ H' m' acc vacc ∧ acc.length ≤ i ∧
        ∃ r, lcD g ft fe p.2 s1 (wipeD ρ vs) (p.1.drop i) st' = .ok r s0 ∧ acc ++ r = ds0,
        ⟨p.1.length, by simp, Nat.zero_le _, s1, m1, [], [], (Grow.upd hD).evo, rs1.banB hD, hc.1, upd_same, .nil, Nat.le_refl _, ds0, eq0, rfl⟩, ?_⟩
      rintro i k H' ⟨rfl, hi, st', m', acc, vacc, ev, rs', hw', hDl, ra, hal, r, hr, hds⟩
      by_cases hlt : i < p.1.length
      · refine .inr ⟨hit.goes (D :: B) i H' m' st' hBn hlt ev rs' hw', fun H2 => i + 1 ≤ p.1.length ∧ ∃ st' m' acc vacc, Evo H1 m1 H2 m' ∧ RepSt ⟨X.K, D :: B⟩ H2 m' st' ∧ sameAt p.2 s1 st' = true ∧ H2 D = some (.lst vacc) ∧ RepL ⟨X.K, D :: B⟩ H2 m' acc vacc ∧ acc.length ≤ i + 1 ∧
          ∃ r, lcD g ft fe p.2 s1 (wipeD ρ vs) (p.1.drop (i + 1)) st' = .ok r s0 ∧ acc ++ r = ds0,
          fun H2 hN => ⟨p.1.length - (i + 1), by omega, rfl, hN⟩, fun x H2 y => ?_⟩
        have hd : p.1[i]? = some p.1[i] := by simp [hlt]
        obtain ⟨gr, rx⟩ := hit.yields (D :: B) i _ H' m' st' x H2 hBn hd ev rs' hw' y
        have ec : p.1.drop i = p.1[i] :: p.1.drop (i + 1) := List.drop_eq_getElem_cons hlt
        rw [ec] at hr
        unfold lcD at hr
        cases hg : g p.1[i] (wipeD ρ vs) with
        | none => rw [hg] at hr; cases hr
        | some ρ1 =>
          rw [hg] at hr
          simp only at hr
          refine qg (D :: B) x _ H2 _ ρ1 m' _ _ (re1.evo (ev.trans gr.evo)) rx hg fun σ3 re3 hw3 => ⟨by rw [hw3 vs his, wipe_wipe], ?_⟩
          have nD : D ∉ m' := (rs'.ban D (by simp)).2
          refine qt (D :: B) σ3 H2 ρ1 st' m' _ re3 (rs'.grow gr) ?_
          cases et : ft ρ1 st' with
          | fail => rw [et] at hr; cases hr
          | exc c fs t => rw [et] at hr; cases hr
          | ok b s2 =>
            rw [et] at hr
            intro b' H3 m3 e3 eb rs3
            cases (show b' = b from eb)
            have keepD : ∀ {H4 : Hp} {m4 : List Addr}, Evo H2 m' H4 m4 → H4 D = some (.lst vacc) ∧ D ∉ m4 := fun {H4 m4} e => e.keep D _ (gr _ _ hDl) nD (fun _ z => nomatch z)
            have evo2 : Evo H1 m1 H2 m' := ev.trans gr.evo
            cases b with
            | false =>
              rw [if_neg Bool.false_ne_true]
              simp only at hr
              split at hr
              · rename_i hw4
                exact ⟨hlt, s2, m3, acc, vacc, evo2.trans e3, rs3, hw4, (keepD e3).1, RepL.evo (gr.evo.trans e3) _ _ ra, Nat.le_succ_of_le hal, r, hr, hds⟩
              · cases hr
            | true =>
              rw [if_pos rfl]
              simp only at hr
              refine qe (D :: B) σ3 H3 ρ1 s2 m3 _ (re3.evo e3) rs3 ?_
              cases ee : fe ρ1 s2 with
              | fail => rw [ee] at hr; cases hr
              | exc c fs t => rw [ee] at hr; cases hr
              | ok xd s3 =>
                rw [ee] at hr
                simp only at hr
                intro yv H4 m4 e4 ry rs4
                obtain ⟨h4D, n4⟩ := keepD (e3.trans e4)
                refine ⟨vacc, h4D, ?_, ?_⟩
                · have := ra.length
                  have := hc.2
                  omega
                · split at hr
                  · rename_i hw4
                    obtain ⟨r', s4, hr', e5⟩ := Res.bind_eq_ok hr
                    injection e5 with e5 e6
                    subst e5 e6
                    have ev4 : Evo H1 m1 H4 m4 := evo2.trans (e3.trans e4)
                    refine ⟨hlt, s3, m4, acc ++ [xd], vacc ++ [yv], ev4.updL hD h4D, rs4.updB (by simp) h4D, hw4, upd_same, ?_, ?_, r', hr', by rw [List.append_assoc]; exact hds⟩
                    · exact (RepL.append (RepL.evo (gr.evo.trans (e3.trans e4)) _ _ ra) (.cons ry .nil)).updB (by simp) (fun _ _ z => by rw [h4D] at z; cases z)
                    · rw [List.length_append, List.length_singleton]; omega
                  · cases hr
      · have e : i = p.1.length := by omega
        subst e
        refine .inl ⟨hit.stops (D :: B) H' m' st' hBn ev rs' hw', ?_⟩
        rw [List.drop_length] at hr
        have hr : Res.ok [] st' = Res.ok r s0 := hr
        injection hr with q1 q2
        subst q1 q2
        rw [List.append_nil] at hds
        subst hds
        exact fin H' m' vacc e1 hD hDB ev rs' hDl ra
    · rw [if_neg hc] at hok
      obtain ⟨ds, s, h | ⟨c, fs, h⟩⟩ := hok <;> cases h
end
end DL
namespace DL
open PySem PySem.Spec PyProof.Rows L2
variable [TabsCtx]
def tOf (K : PySem.W.Frag) (W : WX) (f : Fe) : TE := fun σ H Q => ∃ (B : List Addr) (ρ : DEnv) (st : Store) (m : List Addr), RepE ⟨K, B⟩ H m ρ σ ∧ RepSt ⟨K, B⟩ H m st ∧ GoodR (Rep ⟨K, B⟩) (f ρ st) Q (fun c d H' => W c d σ H') ⟨K, B⟩ H m
def ttOf (K : PySem.W.Frag) (W : WX) (f : Ft) : TT := fun σ H Q => ∃ (B : List Addr) (ρ : DEnv) (st : Store) (m : List Addr), RepE ⟨K, B⟩ H m ρ σ ∧ RepSt ⟨K, B⟩ H m st ∧ GoodR RB (f ρ st) Q (fun c d H' => W c d σ H') ⟨K, B⟩ H m
def tgOf (K : PySem.W.Frag) (is : List Nat) (g : Fg) : TG := fun v σ H Q => ∃ (B : List Addr) (ρ ρ' : DEnv) (m : List Addr) (d : D), RepE ⟨K, B⟩ H m ρ σ ∧ Rep ⟨K, B⟩ H m d v ∧ g d ρ = some ρ' ∧
  ∀ σ', RepE ⟨K, B⟩ H m ρ' σ' → (∀ vs, (∀ i ∈ is, i ∈ vs) → L2.wipe σ' vs = L2.wipe σ vs) → Q σ' H
theorem DE.pe {X : Cx} {W : WX} {e : Expr} {f : Fe} (h : DE X W e f) : PE X e (tOf X.K W f) := by
  obtain ⟨t, p, q⟩ := h
  exact ⟨fun pins s σ H Q I ⟨B, ρ, st, m, re, rs, g⟩ => p.run pins s σ H Q I (q B σ H ρ st m Q re rs g)⟩
theorem DTs.pts {X : Cx} {W : WX} {e : List Expr} {f : Ft} (h : DTs X W e f) : PTs X e (ttOf X.K W f) := by
  obtain ⟨t, p, q⟩ := h
  exact ⟨fun pins s σ H Q I ⟨B, ρ, st, m, re, rs, g⟩ => p.run pins s σ H Q I (q B σ H ρ st m Q re rs g)⟩
theorem DG.pg {X : Cx} {tg : Expr} {is : List Nat} {g : Fg} (h : DG X tg is g) : PG X tg (tgOf X.K is g) := by
  obtain ⟨t, p, q⟩ := h
  exact ⟨fun pins s σ H v u Q I r ⟨B, ρ, ρ', m, d, re, rd, hg, hq⟩ => p.run pins s σ H v u Q I r (q B v σ H ρ ρ' m d Q re rd hg hq)⟩
section
variable {X : Cx} {W : WX} {pos : Pos} {elt tg iter : Expr} {ifs : List Expr} {scope : Scope} {own : List (Str × Nat)} {fi : Fi} {g : Fg} {is : List Nat} {ft : Ft} {fe : Fe}
theorem own_mem {is : List Nat} {vs : List Nat} (h : (is.all fun i => vs.contains i) = true) : ∀ i ∈ is, i ∈ vs := fun i hi => by
  have := List.all_eq_true.mp h i hi
  simpa using this
/-- the block's context -/
abbrev Blk (X : Cx) (scope : Scope) (P : Cx → Prop) : Prop := ∀ (s : Shared) (H : Hp) (C : Addr) (cl : List (Str × Addr)) (fp : List Addr), XOk (X.blk s H scope (compEnvC scope cl C X.env) fp) WF → P (X.blk s H scope (compEnvC scope cl C X.env) fp)
theorem xblk (hx : XOk X W) (s : Shared) (H : Hp) (C : Addr) (cl : List (Str × Addr)) (fp : List Addr) : XOk (X.blk s H scope (compEnvC scope cl C X.env) fp) WF := ⟨hx.calm, hx.nd, L2.takes0.imp fun _ _ _ _ ⟨_, _, z⟩ => z, hx.gd⟩
theorem evo_fin {K : PySem.W.Frag} {B : List Addr} {H H1 H' : Hp} {m m1 m' : List Addr} {D' : Addr} {ws : List V} {ds : List D} {s : Store} (e1 : Evo H m H1 m1) (hD : H1 D' = none) (hB : D' ∉ B) (e2 : Evo H1 m1 H' m') (rs : RepSt ⟨K, D' :: B⟩ H' m' s) (hl : H' D' = some (.lst ws)) (r : RepL ⟨K, D' :: B⟩ H' m' ds ws) :
    Evo H m H' m' ∧ Rep ⟨K, B⟩ H' m' (.lst ds) (.ref D') ∧ RepSt ⟨K, B⟩ H' m' s :=
  ⟨e1.trans e2, Rep.lst_iff.mpr ⟨D', ws, rfl, ⟨hl, (rs.ban D' (by simp)).2, hB⟩, r.ban fun b hb => .inl (List.mem_cons_of_mem _ hb)⟩, rs.weakB⟩
theorem evo_finN {K : PySem.W.Frag} {B : List Addr} {H H1 H' : Hp} {m m1 m' : List Addr} {D' : Addr} {ws : List V} {ds : List D} {s : Store} (e1 : Evo H m H1 m1) (hD : H1 D' = none) (hB : D' ∉ B) (e2 : Evo H1 m1 H' m') (rs : RepSt ⟨K, D' :: B⟩ H' m' s) (hl : H' D' = some (.lst ws)) (r : RepL ⟨K, D' :: B⟩ H' m' ds ws) :
    Evo H m H' (m' ++ [D']) ∧ Rep ⟨K, B⟩ H' (m' ++ [D']) (.loc s.length) (.ref D') ∧ RepSt ⟨K, B⟩ H' (m' ++ [D']) (s ++ [.lst ds]) := by
  have ne : ∀ a o, H a = some o → a ∉ m → (∀ ps, o ≠ .tbl ps) → a ∉ m' ++ [D'] := fun a o q n z => by
    obtain ⟨q1, n1⟩ := e1.keep a o q n z
    obtain ⟨_, n2⟩ := e2.keep a o q1 n1 z
    simp only [List.mem_append, List.mem_singleton, not_or]
    exact ⟨n2, fun z => by rw [z, hD] at q1; cases q1⟩
  have e := e1.trans e2
  refine ⟨⟨?_, fun a o q n z => ⟨(e.keep a o q n z).1, ne a o q n z⟩, fun p hp t => (e.tabs p hp t).keepTo hl, e.frz⟩, Rep.loc_iff.mpr ⟨D', rfl, by rw [← rs.len]; simp⟩, rs.addm hl hB r⟩
  obtain ⟨x, hx⟩ := e.ext
  exact ⟨x ++ [D'], by rw [hx, List.append_assoc]⟩
theorem lc_all (hx : XOk X W) (hi : DI X W tg iter fi) 
    (hg : Blk X scope fun Y => DG Y tg is g) (ht : Blk X scope fun Y => DTs Y WF ifs ft) (he : Blk X scope fun Y => DE Y WF elt fe) (his : (is.all fun i => (own.map (·.2)).contains i) = true) :
    ∃ wi, PI X tg iter wi ∧ (∀ (s : Shared) (H : Hp) (C : Addr) (cl : List (Str × Addr)) (fp : List Addr), PG (X.blk s H scope (compEnvC scope cl C X.env) fp) tg (tgOf X.K is g)) ∧
      (∀ (s : Shared) (H : Hp) (C : Addr) (cl : List (Str × Addr)) (fp : List Addr), PTs (X.blk s H scope (compEnvC scope cl C X.env) fp) ifs (ttOf X.K WF ft)) ∧
      (∀ (s : Shared) (H : Hp) (C : Addr) (cl : List (Str × Addr)) (fp : List Addr), PE (X.blk s H scope (compEnvC scope cl C X.env) fp) elt (tOf X.K WF fe)) ∧
      ∀ (B : List Addr) (σ : Sg) (H : Hp) (ρ : DEnv) (st : Store) (m : List Addr) (Q : VK), RepE ⟨X.K, B⟩ H m ρ σ → RepSt ⟨X.K, B⟩ H m st →
        (∀ c fs s, xLcF fi g ft fe (own.map (·.2)) ρ st = .exc c fs s → ∀ dx H' m', Evo H m H' m' → RepX ⟨X.K, B⟩ H' m' fs dx → RepSt ⟨X.K, B⟩ H' m' s → W c dx σ H') →
        (∃ ds s, xLcF fi g ft fe (own.map (·.2)) ρ st = .ok ds s ∨ ∃ c fs, xLcF fi g ft fe (own.map (·.2)) ρ st = .exc c fs s) →
        (∀ ds s, xLcF fi g ft fe (own.map (·.2)) ρ st = .ok ds s → ∀ D H1 m1 H' m' ws, Evo H m H1 m1 → H1 D = none → D ∉ B → Evo H1 m1 H' m' → RepSt ⟨X.K, D :: B⟩ H' m' s → H' D = some (.lst ws) → RepL ⟨X.K, D :: B⟩ H' m' ds ws → Q (.ref D) H') →
        tLc wi (tgOf X.K is g) (ttOf X.K WF ft) (tOf X.K WF fe) (own.map (·.2)) σ H Q := by
  obtain ⟨wi, pi, qi⟩ := hi
  refine ⟨wi, pi, fun s H C cl fp => (hg s H C cl fp (xblk hx s H C cl fp)).pg, fun s H C cl fp => (ht s H C cl fp (xblk hx s H C cl fp)).pts, fun s H C cl fp => (he s H C cl fp (xblk hx s H C cl fp)).pe, fun B σ H ρ st m Q re rs h1 h2 h3 => ?_⟩
  exact lc_run (own_mem his) qi (fun B v σ H ρ ρ' m d Q re r hg hq => ⟨B, ρ, ρ', m, d, re, r, hg, hq⟩) (fun B σ H ρ st m Q re rs g => ⟨B, ρ, st, m, re, rs, g⟩) (fun B σ H ρ st m Q re rs g => ⟨B, ρ, st, m, re, rs, g⟩) B σ H ρ st m Q re rs h1 h2 h3
theorem de_lc (hx : XOk X W) (hi : DI X W tg iter fi) (ok : BlkOk X.N X.env.scope scope own)
    (hg : Blk X scope fun Y => DG Y tg is g) (ht : Blk X scope fun Y => DTs Y WF ifs ft) (he : Blk X scope fun Y => DE Y WF elt fe) (his : (is.all fun i => (own.map (·.2)).contains i) = true := by rfl) (hs : ∀ x, foldedSetIterable iter X.env x = pure x := by intro _; rfl) :
    DE X W (.ListComp elt [⟨tg, iter, ifs, 0⟩] scope pos) (xLc fi g ft fe (own.map (·.2))) := by
  obtain ⟨wi, pi, pg, pt, pe, q⟩ := lc_all hx hi hg ht he his
  refine ⟨_, pe_lc hx.calm hx.nd pi ok pg pt pe hs, fun B σ H ρ st m Q re rs h => ?_⟩
  unfold xLc at h
  cases er : xLcF fi g ft fe (own.map (·.2)) ρ st with
  | fail => rw [er] at h; exact h.elim
  | exc c fs s => rw [er] at h; exact q B σ H ρ st m Q re rs (fun c' fs' s' e => by rw [er] at e; cases e; exact h) ⟨[], s, .inr ⟨c, fs, er⟩⟩ (fun ds s e => by rw [er] at e; cases e)
  | ok ds s =>
    rw [er] at h
    refine q B σ H ρ st m Q re rs (fun c' fs' s' e => by rw [er] at e; cases e) ⟨ds, s, .inl er⟩ fun ds' s' e D' H1 m1 H' m' ws e1 hD hB e2 rs' hl r => ?_
    rw [er] at e
    injection e with e3 e4
    subst e3 e4
    obtain ⟨a1, a2, a3⟩ := evo_fin e1 hD hB e2 rs' hl r
    exact h _ H' m' a1 a2 a3
theorem de_lcN (hx : XOk X W) (hi : DI X W tg iter fi) (ok : BlkOk X.N X.env.scope scope own)
    (hg : Blk X scope fun Y => DG Y tg is g) (ht : Blk X scope fun Y => DTs Y WF ifs ft) (he : Blk X scope fun Y => DE Y WF elt fe) (his : (is.all fun i => (own.map (·.2)).contains i) = true := by rfl) (hs : ∀ x, foldedSetIterable iter X.env x = pure x := by intro _; rfl) :
    DE X W (.ListComp elt [⟨tg, iter, ifs, 0⟩] scope pos) (xLcN fi g ft fe (own.map (·.2))) := by
  obtain ⟨wi, pi, pg, pt, pe, q⟩ := lc_all hx hi hg ht he his
  refine ⟨_, pe_lc hx.calm hx.nd pi ok pg pt pe hs, fun B σ H ρ st m Q re rs h => ?_⟩
  unfold xLcN at h
  cases er : xLcF fi g ft fe (own.map (·.2)) ρ st with
  | fail => rw [er] at h; exact h.elim
  | exc c fs s => rw [er] at h; exact q B σ H ρ st m Q re rs (fun c' fs' s' e => by rw [er] at e; cases e; exact h) ⟨[], s, .inr ⟨c, fs, er⟩⟩ (fun ds s e => by rw [er] at e; cases e)
  | ok ds s =>
    rw [er] at h
    refine q B σ H ρ st m Q re rs (fun c' fs' s' e => by rw [er] at e; cases e) ⟨ds, s, .inl er⟩ fun ds' s' e D' H1 m1 H' m' ws e1 hD hB e2 rs' hl r => ?_
    rw [er] at e
    injection e with e3 e4
    subst e3 e4
    obtain ⟨a1, a2, a3⟩ := evo_finN e1 hD hB e2 rs' hl r
    exact h _ H' _ a1 a2 a3
/-- name = [..] on one line -/
theorem ds_setLc {i : Nat} {y : Str} {py spos : Pos} (hx : XOk X W) (hi : DI X W tg iter fi) (ok : BlkOk X.N X.env.scope scope own)
    (hg : Blk X scope fun Y => DG Y tg is g) (ht : Blk X scope fun Y => DTs Y WF ifs ft) (he : Blk X scope fun Y => DE Y WF elt fe) (hy : X.N[i]? = some y := by rfl) (hyl : X.env.scope.names.lookup y = some .local := by rfl)
    (hsw : swapsWith (.ListComp elt [⟨tg, iter, ifs, 0⟩] scope pos) (some (.Name y py)) spos.line X.env = pure true := by exact sw_true rfl rfl rfl (by decide +kernel))
    (his : (is.all fun i => (own.map (·.2)).contains i) = true := by rfl) (hs : ∀ x, foldedSetIterable iter X.env x = pure x := by intro _; rfl) :
    DS X W (.Assign [.Name y py] (.ListComp elt [⟨tg, iter, ifs, 0⟩] scope pos) spos) (sSet i (xLc fi g ft fe (own.map (·.2)))) := by
  obtain ⟨wi, pi, pg, pt, pe, q⟩ := lc_all hx hi hg ht he his
  refine ⟨_, ps_setLc hx.calm hx.nd hy hyl hsw pi ok pg pt pe hs, fun B σ H ρ st m En re rs h => ?_⟩
  show tLc wi _ _ _ _ σ H fun x H1 => gName i x σ H1 En.nx
  unfold sSet xLc at h
  cases er : xLcF fi g ft fe (own.map (·.2)) ρ st with
  | fail => rw [er] at h; exact h.elim
  | exc c fs s => rw [er] at h; exact q B σ H ρ st m _ re rs (fun c' fs' s' e => by rw [er] at e; cases e; exact fun dx H' m' e1 rx rs' => h σ dx H' m' e1 (re.evo e1) rx rs') ⟨[], s, .inr ⟨c, fs, er⟩⟩ (fun ds s e => by rw [er] at e; cases e)
  | ok ds s =>
    rw [er] at h
    refine q B σ H ρ st m _ re rs (fun c' fs' s' e => by rw [er] at e; cases e) ⟨ds, s, .inl er⟩ fun ds' s' e D' H1 m1 H' m' ws e1 hD hB e2 rs' hl r => ?_
    rw [er] at e
    injection e with e3 e4
    subst e3 e4
    obtain ⟨a1, a2, a3⟩ := evo_fin e1 hD hB e2 rs' hl r
    exact h _ H' m' a1 ((re.evo a1).set i a2) a3
theorem ds_setLcN {i : Nat} {y : Str} {py spos : Pos} (hx : XOk X W) (hi : DI X W tg iter fi) (ok : BlkOk X.N X.env.scope scope own)
    (hg : Blk X scope fun Y => DG Y tg is g) (ht : Blk X scope fun Y => DTs Y WF ifs ft) (he : Blk X scope fun Y => DE Y WF elt fe) (hy : X.N[i]? = some y := by rfl) (hyl : X.env.scope.names.lookup y = some .local := by rfl)
    (hsw : swapsWith (.ListComp elt [⟨tg, iter, ifs, 0⟩] scope pos) (some (.Name y py)) spos.line X.env = pure true := by exact sw_true rfl rfl rfl (by decide +kernel))
    (his : (is.all fun i => (own.map (·.2)).contains i) = true := by rfl) (hs : ∀ x, foldedSetIterable iter X.env x = pure x := by intro _; rfl) :
    DS X W (.Assign [.Name y py] (.ListComp elt [⟨tg, iter, ifs, 0⟩] scope pos) spos) (sSet i (xLcN fi g ft fe (own.map (·.2)))) := by
  obtain ⟨wi, pi, pg, pt, pe, q⟩ := lc_all hx hi hg ht he his
  refine ⟨_, ps_setLc hx.calm hx.nd hy hyl hsw pi ok pg pt pe hs, fun B σ H ρ st m En re rs h => ?_⟩
  show tLc wi _ _ _ _ σ H fun x H1 => gName i x σ H1 En.nx
  unfold sSet xLcN at h
  cases er : xLcF fi g ft fe (own.map (·.2)) ρ st with
  | fail => rw [er] at h; exact h.elim
  | exc c fs s => rw [er] at h; exact q B σ H ρ st m _ re rs (fun c' fs' s' e => by rw [er] at e; cases e; exact fun dx H' m' e1 rx rs' => h σ dx H' m' e1 (re.evo e1) rx rs') ⟨[], s, .inr ⟨c, fs, er⟩⟩ (fun ds s e => by rw [er] at e; cases e)
  | ok ds s =>
    rw [er] at h
    refine q B σ H ρ st m _ re rs (fun c' fs' s' e => by rw [er] at e; cases e) ⟨ds, s, .inl er⟩ fun ds' s' e D' H1 m1 H' m' ws e1 hD hB e2 rs' hl r => ?_
    rw [er] at e
    injection e with e3 e4
    subst e3 e4
    obtain ⟨a1, a2, a3⟩ := evo_finN e1 hD hB e2 rs' hl r
    exact h _ H' _ a1 ((re.evo a1).set i a2) a3
end
end DL
namespace DL
open PySem PySem.Spec PyProof.Rows L2
variable [TabsCtx]
mutual
def toPy : D → Option PyData
  | .non => some .none
  | .bl b => some (.bool b)
  | .int i => some (.int i)
  | .str x => some (.str x)
  | .tup ds => (toPyL ds).map .tuple
  | .lst ds => (toPyL ds).map .list
  | .rol ds => (toPyL ds).map .list
  | _ => none
def toPyL : List D → Option (List PyData)
  | [] => some []
  | d :: ds => (toPy d).bind fun p => (toPyL ds).map fun ps => p :: ps
end
def toPyT (st : Store) (d : D) : Option PyData := match d with
  | .loc l => match st[l]? with
    | some (.lst ds) => (toPyL ds).map .list
    | _ => none
  | d => toPy d
section
variable {K : PySem.W.Frag} {B : List Addr} {H : Hp} {m : List Addr}
mutual
theorem toPy_dp : ∀ {d : D} {v : V} {p : PyData}, Rep ⟨K, B⟩ H m d v → toPy d = some p → Dp K H v p
  | .non, _, _, r, h => by cases Rep.non_iff.mp r; cases h; exact .non
  | .bl b, _, _, r, h => by cases Rep.bl_iff.mp r; cases h; exact .bl b
  | .int i, _, _, r, h => by cases Rep.int_iff.mp r; cases h; exact .int i
  | .str x, _, _, r, h => by cases Rep.str_iff.mp r; cases h; exact .str x
  | .tup ds, _, _, r, h => by
    obtain ⟨a, vs, rfl, h1, h2⟩ := r.tup_sq
    simp only [toPy] at h
    obtain ⟨ps, q, rfl⟩ := Option.map_eq_some_iff.mp h
    exact .tup h1 (toPyL_dp h2 q)
  | .lst ds, _, _, r, h => by
    obtain ⟨a, vs, rfl, h1, h2⟩ := r.lst_sq
    simp only [toPy] at h
    obtain ⟨ps, q, rfl⟩ := Option.map_eq_some_iff.mp h
    exact .lst h1 (toPyL_dp h2 q)
  | .rol ds, _, _, r, h => by
    obtain ⟨a, vs, rfl, h1, h2⟩ := r.rol_sq
    simp only [toPy] at h
    obtain ⟨ps, q, rfl⟩ := Option.map_eq_some_iff.mp h
    exact .lst h1 (toPyL_dp h2 q)
  | .loc _, _, _, _, h => by simp [toPy] at h
  | .ty _, _, _, _, h => by simp [toPy] at h
  | .ob _, _, _, _, h => by simp [toPy] at h
  | .fn _, _, _, _, h => by simp [toPy] at h
  | .dct _ _, _, _, _, h => by simp [toPy] at h
  | .obj _ _, _, _, _, h => by simp [toPy] at h
  | .exo _ _ _, _, _, _, h => by simp [toPy] at h
theorem toPyL_dp : ∀ {ds : List D} {vs : List V} {ps : List PyData}, RepL ⟨K, B⟩ H m ds vs → toPyL ds = some ps → DpAll K H vs ps
  | [], _, _, r, h => by
    rw [r.inv_nil]
    simp only [toPyL] at h
    cases h; exact .nil
  | d :: ds, _, _, r, h => by
    obtain ⟨v, vr, rfl, r1, r2⟩ := r.inv_cons
    simp only [toPyL] at h
    obtain ⟨p, h1, h⟩ := Option.bind_eq_some_iff.mp h
    obtain ⟨ps, h2, rfl⟩ := Option.map_eq_some_iff.mp h
    exact .cons (toPy_dp r1 h1) (toPyL_dp r2 h2)
end
theorem toPyT_dp {st : Store} {d : D} {v : V} {p : PyData} (rs : RepSt ⟨K, B⟩ H m st) (r : Rep ⟨K, B⟩ H m d v) (h : toPyT st d = some p) : Dp K H v p := by
  cases d with
  | loc l =>
    simp only [toPyT] at h
    cases q : st[l]? with
    | none => rw [q] at h; cases h
    | some c =>
      rw [q] at h
      cases c with
      | lst ds =>
        obtain ⟨ps, q2, rfl⟩ := Option.map_eq_some_iff.mp h
        obtain ⟨a, vs, rfl, hm, hH, rl⟩ := loc_lst rs r q
        exact .lst (.of hH) (toPyL_dp rl q2)
      | dic _ => cases h
      | dik _ => cases h
      | ins _ _ => cases h
  | _ => exact toPy_dp r h
end
/-- what may be looked at as data of moderate form -/
def pyOf (st : Store) (d : D) : Option PyData := (toPyT st d).bind fun p => if SeqAt.shaped p = true then some p else none
def gEq : G2 := fun st a b => match a, b with
  | .str x, .str y => some (.bl (decide (x = y)))
  | a, b => (pyOf st a).bind fun p => (pyOf st b).map fun q => .bl (PyData.eqv p q)
def gNe : G2 := fun st a b => match a, b with
  | .str x, .str y => some (.bl (!decide (x = y)))
  | a, b => (pyOf st a).bind fun p => (pyOf st b).map fun q => .bl (!PyData.eqv p q)
theorem pyOf_dp {K : PySem.W.Frag} {B : List Addr} {H : Hp} {m : List Addr} {st : Store} {d : D} {v : V} {p : PyData} (rs : RepSt ⟨K, B⟩ H m st) (r : Rep ⟨K, B⟩ H m d v) (h : pyOf st d = some p) : Dp K H v p ∧ SeqAt.shaped p = true := by
  obtain ⟨q, h1, h2⟩ := Option.bind_eq_some_iff.mp h
  split at h2
  · rename_i hs; cases h2; exact ⟨toPyT_dp rs r h1, hs⟩
  · cases h2
section
variable {X : Cx}
theorem dec_strV (x y : Str) : decide (V.str x = V.str y) = decide (x = y) := by
  by_cases h : x = y
  · subst h; simp
  · rw [decide_eq_false h, decide_eq_false fun e => h (by injection e)]
theorem dop_eq (hu : X.A.units + 64 < cLine) : DOp X (compareOp .Eq) gEq :=
  ⟨_, op_eq.or (op_eqD hu), fun B x y H m st da db d Q rs ra rb h q => by
    unfold gEq at h
    split at h
    · cases h
      cases Rep.str_iff.mp ra
      cases Rep.str_iff.mp rb
      exact .inl ⟨rfl, q _ H Grow.refl (Rep.bl_iff.mpr (by rw [dec_strV]))⟩
    · obtain ⟨p1, h1, h⟩ := Option.bind_eq_some_iff.mp h
      obtain ⟨p2, h2, rfl⟩ := Option.map_eq_some_iff.mp h
      obtain ⟨a1, a2⟩ := pyOf_dp rs ra h1
      obtain ⟨b1, b2⟩ := pyOf_dp rs rb h2
      exact .inr ⟨p1, p2, a1, b1, a2, b2, q _ H Grow.refl (Rep.bl_iff.mpr rfl)⟩⟩
theorem dop_ne (hu : X.A.units + 64 < cLine) : DOp X (compareOp .NotEq) gNe :=
  ⟨_, op_ne.or (op_neD hu), fun B x y H m st da db d Q rs ra rb h q => by
    unfold gNe at h
    split at h
    · cases h
      cases Rep.str_iff.mp ra
      cases Rep.str_iff.mp rb
      exact .inl ⟨rfl, q _ H Grow.refl (Rep.bl_iff.mpr (by rw [dec_strV]))⟩
    · obtain ⟨p1, h1, h⟩ := Option.bind_eq_some_iff.mp h
      obtain ⟨p2, h2, rfl⟩ := Option.map_eq_some_iff.mp h
      obtain ⟨a1, a2⟩ := pyOf_dp rs ra h1
      obtain ⟨b1, b2⟩ := pyOf_dp rs rb h2
      exact .inr ⟨p1, p2, a1, b1, a2, b2, q _ H Grow.refl (Rep.bl_iff.mpr rfl)⟩⟩
def gII (c : Int → Int → Bool) (f : Int → Int → D) : G2 := fun _ a b => match a, b with
  | .int i, .int j => if c i j = true then some (f i j) else none
  | _, _ => none
theorem gII_inv {c : Int → Int → Bool} {f : Int → Int → D} {st : Store} {a b d : D} (h : gII c f st a b = some d) : ∃ i j, a = .int i ∧ b = .int j ∧ c i j = true ∧ d = f i j := by
  cases a with
  | int i =>
    cases b with
    | int j =>
      simp only [gII] at h
      split at h
      · rename_i hc; cases h; exact ⟨i, j, rfl, rfl, hc, rfl⟩
      · cases h
    | _ => simp [gII] at h
  | _ => simp [gII] at h
theorem dop_rI {F : Value → Value → Sem Value} {C : Int → Int → Prop} {g : Int → Int → V} {c : Int → Int → Bool} {f : Int → Int → D} (ho : OpR X F (rI C g)) (hc : ∀ i j, c i j = true → C i j) (hf : ∀ K H m i j, Rep K H m (f i j) (g i j)) : DOp X F (gII c f) :=
  ⟨_, ho, fun B x y H m st da db d Q rs ra rb h q => by
    obtain ⟨i, j, rfl, rfl, h1, rfl⟩ := gII_inv h
    exact ⟨i, j, Rep.int_iff.mp ra, Rep.int_iff.mp rb, hc i j h1, q _ H Grow.refl (hf _ H m i j)⟩⟩
theorem dop_rI0 {F : Value → Value → Sem Value} {g : Int → Int → V} {f : Int → Int → D} (ho : OpR X F (rI0 g)) (hf : ∀ K H m i j, Rep K H m (f i j) (g i j)) : DOp X F (gII (fun _ _ => true) f) :=
  ⟨_, ho, fun B x y H m st da db d Q rs ra rb h q => by
    obtain ⟨i, j, rfl, rfl, h1, rfl⟩ := gII_inv h
    exact ⟨i, j, Rep.int_iff.mp ra, Rep.int_iff.mp rb, q _ H Grow.refl (hf _ H m i j)⟩⟩
abbrev gSub : G2 := gII (fun _ _ => true) fun i j => .int (i - j)
theorem dop_sub : DOp X (binaryOp .Sub) gSub := dop_rI0 op_sub fun _ _ _ _ _ => Rep.int_iff.mpr rfl
abbrev gLt : G2 := gII (fun _ _ => true) fun i j => .bl (decide (i < j))
theorem dop_lt : DOp X (compareOp .Lt) gLt := dop_rI0 op_lt fun _ _ _ _ _ => Rep.bl_iff.mpr rfl
abbrev gLe : G2 := gII (fun _ _ => true) fun i j => .bl (decide (i ≤ j))
theorem dop_le : DOp X (compareOp .LtE) gLe := dop_rI0 op_le fun _ _ _ _ _ => Rep.bl_iff.mpr rfl
abbrev gGt : G2 := gII (fun _ _ => true) fun i j => .bl (decide (j < i))
theorem dop_gt : DOp X (compareOp .Gt) gGt := dop_rI0 op_gt fun _ _ _ _ _ => Rep.bl_iff.mpr rfl
abbrev gGe : G2 := gII (fun _ _ => true) fun i j => .bl (decide (j ≤ i))
theorem dop_ge : DOp X (compareOp .GtE) gGe := dop_rI0 op_ge fun _ _ _ _ _ => Rep.bl_iff.mpr rfl
/-- any divisor but nought -/
abbrev gMod : G2 := gII (fun _ j => decide (j ≠ 0)) fun i j => .int (i.fmod j)
theorem dop_mod : DOp X (binaryOp .Mod) gMod := dop_rI op_modN (fun _ _ h => of_decide_eq_true h) fun _ _ _ _ _ => Rep.int_iff.mpr rfl
def CDivG (_ j : Int) : Prop := j ≠ 0 ∧ j.natAbs.log2 < 9000
theorem op_fdivG : OpR X (binaryOp .FloorDiv) (rI CDivG fun i j => .int (i.fdiv j)) := opI fun _ _ _ _ _ _ _ hc q => floordiv_int hc.1 q (.inl (PyProof.noPylong_of_log2 hc.2))
abbrev gFdiv : G2 := gII (fun _ j => decide (j ≠ 0) && decide (j.natAbs.log2 < 9000)) fun i j => .int (i.fdiv j)
theorem dop_fdiv : DOp X (binaryOp .FloorDiv) gFdiv := dop_rI op_fdivG (fun _ _ h => by
  rw [Bool.and_eq_true] at h
  exact ⟨of_decide_eq_true h.1, of_decide_eq_true h.2⟩) fun _ _ _ _ _ => Rep.int_iff.mpr rfl
def CPowG (i j : Int) : Prop := 0 ≤ j ∧ (Builtin.Int.intBits i : Int) * j ≤ 2 ^ 27
theorem op_powG : OpR X (binaryOp .Pow) (rI CPowG fun i j => .int (i ^ j.toNat)) := opI fun _ _ _ _ _ _ _ hc q => pow_int hc.1 hc.2 q
abbrev gPow : G2 := gII (fun i j => decide (0 ≤ j) && decide ((Builtin.Int.intBits i : Int) * j ≤ 2 ^ 27)) fun i j => .int (i ^ j.toNat)
theorem dop_pow : DOp X (binaryOp .Pow) gPow := dop_rI op_powG (fun _ _ h => by
  rw [Bool.and_eq_true] at h
  exact ⟨of_decide_eq_true h.1, of_decide_eq_true h.2⟩) fun _ _ _ _ _ => Rep.int_iff.mpr rfl
def gNeg : G1 := fun _ a => match a with
  | .int i => some (.int (-i))
  | _ => none
theorem dun_neg : DUn X (unaryOp .USub) gNeg := ⟨_, un_neg, fun B x H m st da d Q rs ra h q => by
  cases da with
  | int i => cases h; exact ⟨i, Rep.int_iff.mp ra, q _ H Grow.refl (Rep.int_iff.mpr rfl)⟩
  | _ => simp [gNeg] at h⟩
/-- is None, is not None -/
def nonD : D → Bool
  | .non => true
  | _ => false
def gIsN : G2 := fun _ a b => match b with
  | .non => some (.bl (nonD a))
  | _ => none
def gNotN : G2 := fun _ a b => match b with
  | .non => some (.bl (!nonD a))
  | _ => none
theorem non_dec {K : KB} {H : Hp} {m : List Addr} {d : D} {v : V} (r : Rep K H m d v) : decide (v = V.non) = nonD d := by
  cases d with
  | non => cases Rep.non_iff.mp r; rfl
  | bl b => cases Rep.bl_iff.mp r; rfl
  | int b => cases Rep.int_iff.mp r; rfl
  | str b => cases Rep.str_iff.mp r; rfl
  | ty b => cases Rep.ty_iff.mp r; rfl
  | ob b => cases Rep.ob_iff.mp r; rfl
  | fn b => cases Rep.fn_iff.mp r; rfl
  | dct ks ds => obtain ⟨a, vs, rfl, _⟩ := Rep.dct_iff.mp r; rfl
  | obj c ds => obtain ⟨a, dx, vs, rfl, _⟩ := Rep.obj_iff.mp r; rfl
  | exo c f ds => obtain ⟨a, dx, vs, rfl, _⟩ := Rep.exo_iff.mp r; rfl
  | tup b => obtain ⟨a, vs, rfl, _⟩ := Rep.tup_iff.mp r; rfl
  | lst b => obtain ⟨a, vs, rfl, _⟩ := Rep.lst_iff.mp r; rfl
  | rol b => obtain ⟨a, vs, rfl, _⟩ := Rep.rol_iff.mp r; rfl
  | loc b => obtain ⟨a, rfl, _⟩ := Rep.loc_iff.mp r; rfl
theorem dop_isN : DOp X (compareOp .Is) gIsN := ⟨_, op_isN, fun B x y H m st da db d Q rs ra rb h q => by
  cases db with
  | non =>
    cases h
    exact ⟨Rep.non_iff.mp rb, q _ H Grow.refl (Rep.bl_iff.mpr (by rw [non_dec ra]))⟩
  | _ => simp [gIsN] at h⟩
theorem dop_notN : DOp X (compareOp .IsNot) gNotN := ⟨_, op_notN, fun B x y H m st da db d Q rs ra rb h q => by
  cases db with
  | non =>
    cases h
    exact ⟨Rep.non_iff.mp rb, q _ H Grow.refl (Rep.bl_iff.mpr (by rw [non_dec ra]))⟩
  | _ => simp [gNotN] at h⟩
def gAdd : G2 := fun st a b => match a, b with
  | .int i, .int j => some (.int (i + j))
  | .str x, .str y => if x.length + y.length ≤ sizeLine then some (.str (x ++ y)) else none
  | .tup x, .tup y => if x.length + y.length ≤ sizeLine then some (.tup (x ++ y)) else none
  | a, b => (lstM st a).bind fun x => (lstM st b).bind fun y => if x.length + y.length ≤ sizeLine then some (.lst (x ++ y)) else none
theorem tup_self {K : KB} {H : Hp} {m : List Addr} {a : Addr} {vs : List V} {ds es : List D} (h1 : (Rd H a (.tup vs) ∧ a ∉ m ∧ a ∉ K.B) ∨ TK K.K a vs) (h2 : RepL K H m ds vs) (e : es = ds) : Rep K H m (.tup es) (.ref a) := by
  subst e; exact Rep.tup_iff.mpr ⟨a, vs, rfl, h1, h2⟩
theorem sqt_of {K : KB} {H : Hp} {m : List Addr} {a : Addr} {vs : List V} (h : (Rd H a (.tup vs) ∧ a ∉ m ∧ a ∉ K.B) ∨ TK K.K a vs) : SqT K.K H a vs := by
  rcases h with h | h
  · exact .inl h.1
  · exact .inr h
theorem dop_add : DOp X (binaryOp .Add) gAdd := by
  refine ⟨_, (op_add.or op_add_str).or ((op_catA (X := X)).or op_cat), fun B x y H m st da db d Q rs ra rb h q => ?_⟩
  have lists : ∀ {da db : D}, Rep ⟨X.K, B⟩ H m da x → Rep ⟨X.K, B⟩ H m db y → ((lstM st da).bind fun x => (lstM st db).bind fun y => if x.length + y.length ≤ sizeLine then some (D.lst (x ++ y)) else none) = some d → rCat x y H Q := fun {da db} ra rb h => by
    obtain ⟨xs, h1, h⟩ := Option.bind_eq_some_iff.mp h
    obtain ⟨ys, h2, h⟩ := Option.bind_eq_some_iff.mp h
    split at h
    · rename_i hz
      cases h
      obtain ⟨a, vs, rfl, ha, la⟩ := lstM_rep rs ra h1
      obtain ⟨b, ws, rfl, hb, lb⟩ := lstM_rep rs rb h2
      exact ⟨a, b, vs, ws, rfl, rfl, ha, hb, by rw [← la.length, ← lb.length]; exact hz, fun p hp => q _ _ (Grow.upd hp) (Rep.newL rs hp (la.append lb))⟩
    · cases h
  unfold gAdd at h
  split at h
  · cases h
    exact .inl (.inl ⟨_, _, Rep.int_iff.mp ra, Rep.int_iff.mp rb, q _ H Grow.refl (Rep.int_iff.mpr rfl)⟩)
  · split at h
    · rename_i hz
      cases h
      exact .inl (.inr ⟨_, _, Rep.str_iff.mp ra, Rep.str_iff.mp rb, hz, q _ H Grow.refl (Rep.str_iff.mpr rfl)⟩)
    · cases h
  · split at h
    · rename_i hz
      cases h
      obtain ⟨a, vs, rfl, ha, la⟩ := Rep.tup_iff.mp ra
      obtain ⟨b, ws, rfl, hb, lb⟩ := Rep.tup_iff.mp rb
      refine .inr (.inl ⟨a, b, vs, ws, rfl, rfl, sqt_of ha, sqt_of hb, by rw [← la.length, ← lb.length]; exact hz, fun e => ?_, fun _ e => ?_, fun _ _ p hp => q _ _ (Grow.upd hp) (Rep.newT rs hp (la.append lb))⟩)
      · subst e
        have e2 := List.eq_nil_of_length_eq_zero la.length
        exact q _ H Grow.refl (tup_self hb lb (by rw [e2]; rfl))
      · subst e
        have e2 := List.eq_nil_of_length_eq_zero lb.length
        exact q _ H Grow.refl (tup_self ha la (by rw [e2, List.append_nil]))
    · cases h
  · exact .inr (.inr (lists ra rb h))
/-- a product; a tuple or a list many times (the tuple from twice to a thousand times) -/
def gMul : G2 := fun st a b => match a, b with
  | .int i, .int j => if i.natAbs.log2 + j.natAbs.log2 < 1000000 then some (.int (i * j)) else none
  | .tup x, .int k => if 2 ≤ k ∧ k ≤ 1000 ∧ x ≠ [] ∧ x.length ≤ 1000 then some (.tup (List.replicate k.toNat x).flatten) else none
  | a, .int k => (lstM st a).bind fun x => if -(2 ^ 63) ≤ k ∧ k < 2 ^ 63 ∧ x.length * k.toNat ≤ sizeLine then some (.lst (List.replicate k.toNat x).flatten) else none
  | _, _ => none
theorem dop_mul : DOp X (binaryOp .Mult) gMul := by
  refine ⟨_, (op_mulW (X := X)).or ((op_repT (X := X)).or op_rep), fun B x y H m st da db d Q rs ra rb h q => ?_⟩
  unfold gMul at h
  split at h
  · split at h
    · rename_i hz
      cases h
      exact .inl ⟨_, _, Rep.int_iff.mp ra, Rep.int_iff.mp rb, hz, q _ H Grow.refl (Rep.int_iff.mpr rfl)⟩
    · cases h
  · split at h
    · rename_i hz
      cases h
      obtain ⟨a, vs, rfl, ha, la⟩ := ra.tup_sq
      refine .inr (.inl ⟨a, _, vs, rfl, Rep.int_iff.mp rb, ha, fun e => ?_, hz.1, hz.2.1, by rw [← la.length]; exact hz.2.2.2, fun p hp => q _ _ (Grow.upd hp) (Rep.newT rs hp (la.replicate _))⟩)
      subst e
      exact hz.2.2.1 (List.eq_nil_of_length_eq_zero la.length)
    · cases h
  · obtain ⟨xs, h1, h⟩ := Option.bind_eq_some_iff.mp h
    split at h
    · rename_i hz
      cases h
      obtain ⟨a, vs, rfl, ha, la⟩ := lstM_rep rs ra h1
      exact .inr (.inr ⟨a, _, vs, rfl, Rep.int_iff.mp rb, ha, hz.1, hz.2.1, by rw [← la.length]; exact hz.2.2, fun p hp => q _ _ (Grow.upd hp) (Rep.newL rs hp (la.replicate _))⟩)
    · cases h
  · cases h
def dV : D → Option V
  | .non => some .non
  | .bl b => some (.bl b)
  | .int i => some (.int i)
  | .str x => some (.str x)
  | _ => none
theorem dV_rep {K : KB} {H : Hp} {m : List Addr} {d : D} {v w : V} (r : Rep K H m d v) (h : dV d = some w) : v = w ∧ flatV w = true := by
  cases d with
  | non => cases h; exact ⟨Rep.non_iff.mp r, rfl⟩
  | bl b => cases h; exact ⟨Rep.bl_iff.mp r, rfl⟩
  | int b => cases h; exact ⟨Rep.int_iff.mp r, rfl⟩
  | str b => cases h; exact ⟨Rep.str_iff.mp r, rfl⟩
  | _ => cases h
def dVs : List D → Option (List V)
  | [] => some []
  | d :: ds => (dV d).bind fun v => (dVs ds).map fun vs => v :: vs
theorem dVs_rep {K : KB} {H : Hp} {m : List Addr} : ∀ {ds : List D} {vs ws : List V}, RepL K H m ds vs → dVs ds = some ws → vs = ws ∧ ws.all flatV = true
  | [], _, _, r, h => by cases h; exact ⟨r.inv_nil, rfl⟩
  | d :: ds, _, _, r, h => by
    obtain ⟨v, vr, rfl, r1, r2⟩ := r.inv_cons
    obtain ⟨w, h1, h⟩ := Option.bind_eq_some_iff.mp h
    obtain ⟨ws, h2, rfl⟩ := Option.map_eq_some_iff.mp h
    obtain ⟨a1, a2⟩ := dV_rep r1 h1
    obtain ⟨b1, b2⟩ := dVs_rep r2 h2
    exact ⟨by rw [a1, b1], by simp [a2]; simpa using b2⟩
def seqV (st : Store) : D → Option (List D)
  | .tup ds => some ds
  | d => lstV st d
theorem seqV_rep {K : KB} {H : Hp} {m : List Addr} {st : Store} (rs : RepSt K H m st) {d : D} {v : V} {ds : List D} (r : Rep K H m d v) (h : seqV st d = some ds) : ∃ a vs, v = .ref a ∧ (SqL K.K H a vs ∨ SqT K.K H a vs) ∧ RepL K H m ds vs := by
  have ls : ∀ {d : D}, Rep K H m d v → lstV st d = some ds → ∃ a vs, v = .ref a ∧ (SqL K.K H a vs ∨ SqT K.K H a vs) ∧ RepL K H m ds vs := fun {d} r h => let ⟨a, vs, h1, h2, h3⟩ := lstV_rep rs r h; ⟨a, vs, h1, .inl h2, h3⟩
  cases d with
  | tup xs => cases h; exact let ⟨a, vs, h1, h2, h3⟩ := r.tup_sq; ⟨a, vs, h1, .inr h2, h3⟩
  | lst xs => exact ls r h
  | rol xs => exact ls r h
  | loc xs => exact ls r h
  | _ => cases h
def gInB (neg : Bool) : G2 := fun st a b => (dV a).bind fun x => (seqV st b).bind fun ds => (dVs ds).map fun xs => .bl (if neg then !inV x xs else inV x xs)
abbrev gIn : G2 := gInB false
abbrev gNotIn : G2 := gInB true
theorem in_aux {neg : Bool} {F : Value → Value → Sem Value} (ho : OpR X F (rIn X.K neg)) : DOp X F (gInB neg) := ⟨_, ho, fun B x y H m st da db d Q rs ra rb h q => by
  obtain ⟨v, h1, h⟩ := Option.bind_eq_some_iff.mp h
  obtain ⟨ds, h2, h⟩ := Option.bind_eq_some_iff.mp h
  obtain ⟨xs, h3, rfl⟩ := Option.map_eq_some_iff.mp h
  obtain ⟨rfl, f1⟩ := dV_rep ra h1
  obtain ⟨a, vs, rfl, hs, rl⟩ := seqV_rep rs rb h2
  obtain ⟨rfl, f2⟩ := dVs_rep rl h3
  exact ⟨a, vs, rfl, hs, f1, f2, q _ H Grow.refl (Rep.bl_iff.mpr rfl)⟩⟩
theorem dop_in : DOp X (compareOp .In) gIn := in_aux op_in_seq
theorem dop_notIn : DOp X (compareOp .NotIn) gNotIn := in_aux op_notIn_seq
theorem atI_rep {K : KB} {H : Hp} {m : List Addr} {ds : List D} {vs : List V} {i : Int} {d : D} (r : RepL K H m ds vs) (h : atI ds i = some d) : ∃ v, atI vs i = some v ∧ Rep K H m d v := by
  unfold atI at h ⊢
  rw [← r.length]
  obtain ⟨j, h1, h2⟩ := Option.bind_eq_some_iff.mp h
  obtain ⟨v, h3, h4⟩ := r.get h2
  exact ⟨v, by rw [h1]; exact h3, h4⟩
def gIx : G2 := fun st a b => match b with
  | .int i => match a with
    | .str z => if z.length ≤ sizeLine then (atI z.cps.toList i).map fun c => .str ⟨#[c]⟩ else none
    | a => (seqV st a).bind fun ds => atI ds i
  | _ => none
theorem dix : DIx X gIx := ⟨_, ix_seq, fun B x y H m st da db d Q rs ra rb h q => by
  cases db with
  | int i =>
    cases Rep.int_iff.mp rb
    have sq : ∀ {da : D}, Rep ⟨X.K, B⟩ H m da x → ((seqV st da).bind fun ds => atI ds i) = some d → rIx X.K x (.int i) H Q := fun {da} ra h => by
      obtain ⟨ds, h1, h2⟩ := Option.bind_eq_some_iff.mp h
      obtain ⟨a, vs, rfl, hs, rl⟩ := seqV_rep rs ra h1
      obtain ⟨v, h3, h4⟩ := atI_rep rl h2
      rcases hs with hs | hs
      · exact .inl ⟨a, vs, i, v, rfl, rfl, hs, h3, q _ H Grow.refl h4⟩
      · exact .inr (.inl ⟨a, vs, i, v, rfl, rfl, hs, h3, q _ H Grow.refl h4⟩)
    cases da with
    | str z =>
      simp only [gIx] at h
      split at h
      · rename_i hz
        obtain ⟨c, h1, rfl⟩ := Option.map_eq_some_iff.mp h
        exact .inr (.inr ⟨z, i, c, Rep.str_iff.mp ra, rfl, hz, h1, q _ H Grow.refl (Rep.str_iff.mpr rfl)⟩)
      · cases h
    | _ => exact sq ra h
  | _ => simp [gIx] at h⟩
def cutD {α : Type} (xs : List α) (lo hi : Option Int) : List α := (xs.drop (HT.sIx xs.length 0 lo)).take (HT.sIx xs.length xs.length hi - HT.sIx xs.length 0 lo)
theorem RepL.cutD {K : KB} {H : Hp} {m : List Addr} {ds : List D} {vs : List V} (r : RepL K H m ds vs) (lo hi : Option Int) : RepL K H m (DL.cutD ds lo hi) (cutV vs lo hi) := by
  unfold DL.cutD cutV
  rw [r.length]
  exact (r.drop _).take _
def gSl : GS := fun st a lo hi => match a with
  | .tup ds => some (.tup (cutD ds lo hi))
  | a => (lstV st a).map fun ds => .lst (cutD ds lo hi)
theorem dsl : DSl X gSl := ⟨_, (sl_tupA (X := X)).or sl_list, fun B x lo hi H m st da d Q rs ra h q => by
  have ls : ∀ {da : D}, Rep ⟨X.K, B⟩ H m da x → ((lstV st da).map fun ds => D.lst (cutD ds lo hi)) = some d → rSlL X.K x lo hi H Q := fun {da} ra h => by
    obtain ⟨ds, h1, rfl⟩ := Option.map_eq_some_iff.mp h
    obtain ⟨a, vs, rfl, hs, rl⟩ := lstV_rep rs ra h1
    exact ⟨a, vs, rfl, hs, fun p hp => q _ _ (Grow.upd hp) (Rep.newL rs hp (rl.cutD lo hi))⟩
  cases da with
  | tup ds =>
    cases h
    obtain ⟨a, vs, rfl, ha, la⟩ := Rep.tup_iff.mp ra
    refine .inl ⟨a, vs, rfl, sqt_of ha, fun hw => ?_, fun _ p hp => q _ _ (Grow.upd hp) (Rep.newT rs hp (la.cutD lo hi))⟩
    refine q _ H Grow.refl (tup_self ha la ?_)
    unfold cutD
    rw [la.length, hw.1, hw.2, Nat.sub_zero, List.drop_zero, ← la.length, List.take_length]
  | lst ds => exact .inr (ls ra h)
  | rol ds => exact .inr (ls ra h)
  | loc l => exact .inr (ls ra h)
  | _ => simp [gSl, lstV] at h⟩
theorem one_inv {K : KB} {H : Hp} {m : List Addr} {d : D} {vs : List V} (r : RepL K H m [d] vs) : ∃ v, vs = [v] ∧ Rep K H m d v := by
  obtain ⟨v, t, rfl, r1, r2⟩ := r.inv_cons
  rw [r2.inv_nil]
  exact ⟨v, rfl, r1⟩
theorem two_inv {K : KB} {H : Hp} {m : List Addr} {d e : D} {vs : List V} (r : RepL K H m [d, e] vs) : ∃ v w, vs = [v, w] ∧ Rep K H m d v ∧ Rep K H m e w := by
  obtain ⟨v, t, rfl, r1, r2⟩ := r.inv_cons
  obtain ⟨w, rfl, r3⟩ := one_inv r2
  exact ⟨v, w, rfl, r1, r3⟩
def gLen : GL := fun st ds => match ds with
  | [.str z] => if z.length ≤ sizeLine then some (.int z.length) else none
  | [d] => (seqV st d).map fun xs => .int xs.length
  | _ => none
theorem dc_len : DCall X (.builtin "len") gLen := ⟨_, (call_len_seq (X := X)).or call_len_str, fun B xs H m st ds d Q rs r h q => by
  unfold gLen at h
  split at h
  · split at h
    · rename_i hz
      cases h
      obtain ⟨v, rfl, r1⟩ := one_inv r
      cases Rep.str_iff.mp r1
      exact .inr ⟨_, rfl, hz, q _ H Grow.refl (Rep.int_iff.mpr rfl)⟩
    · cases h
  · obtain ⟨v, rfl, r1⟩ := one_inv r
    obtain ⟨ys, h1, rfl⟩ := Option.map_eq_some_iff.mp h
    obtain ⟨a, vs, rfl, hs, rl⟩ := seqV_rep rs r1 h1
    exact .inl ⟨a, vs, rfl, hs, q _ H Grow.refl (Rep.int_iff.mpr (by rw [rl.length]))⟩
  · cases h⟩
def gAbs : GL := fun _ ds => match ds with
  | [.int i] => some (.int (if i < 0 then -i else i))
  | _ => none
theorem dc_abs : DCall X (.builtin "abs") gAbs := ⟨_, call_abs, fun B xs H m st ds d Q rs r h q => by
  unfold gAbs at h
  split at h
  · cases h
    obtain ⟨v, rfl, r1⟩ := one_inv r
    cases Rep.int_iff.mp r1
    exact ⟨_, rfl, q _ H Grow.refl (Rep.int_iff.mpr rfl)⟩
  · cases h⟩
def gInt : GL := fun _ ds => match ds with
  | [.int i] => some (.int i)
  | [.bl k] => some (.int (if k then 1 else 0))
  | _ => none
theorem dc_int : DCall X (.type "int") gInt := ⟨_, call_int1, fun B xs H m st ds d Q rs r h q => by
  unfold gInt at h
  split at h
  · cases h
    obtain ⟨v, rfl, r1⟩ := one_inv r
    cases Rep.int_iff.mp r1
    exact .inl ⟨_, rfl, q _ H Grow.refl (Rep.int_iff.mpr rfl)⟩
  · cases h
    obtain ⟨v, rfl, r1⟩ := one_inv r
    cases Rep.bl_iff.mp r1
    exact .inr ⟨_, rfl, q _ H Grow.refl (Rep.int_iff.mpr rfl)⟩
  · cases h⟩
def dInts : List D → Option (List Int)
  | [] => some []
  | .int i :: ds => (dInts ds).map (i :: ·)
  | _ => none
theorem dInts_map : ∀ ns : List Int, dInts (ns.map D.int) = some ns
  | [] => rfl
  | n :: ns => by simp [dInts, dInts_map ns]
theorem dInts_rep {K : KB} {H : Hp} {m : List Addr} : ∀ {ds : List D} {vs : List V} {ns : List Int}, RepL K H m ds vs → dInts ds = some ns → vs = ns.map V.int ∧ ds = ns.map D.int
  | [], _, _, r, h => by cases h; exact ⟨r.inv_nil, rfl⟩
  | .int i :: ds, _, _, r, h => by
    obtain ⟨v, vr, rfl, r1, r2⟩ := r.inv_cons
    cases Rep.int_iff.mp r1
    obtain ⟨ms, h2, rfl⟩ := Option.map_eq_some_iff.mp h
    obtain ⟨e1, e2⟩ := dInts_rep r2 h2
    exact ⟨by rw [e1]; rfl, by rw [e2]; rfl⟩
  | .non :: _, _, _, _, h => by cases h
  | .bl _ :: _, _, _, _, h => by cases h
  | .str _ :: _, _, _, _, h => by cases h
  | .ty _ :: _, _, _, _, h => by cases h
  | .ob _ :: _, _, _, _, h => by cases h
  | .tup _ :: _, _, _, _, h => by cases h
  | .lst _ :: _, _, _, _, h => by cases h
  | .rol _ :: _, _, _, _, h => by cases h
  | .loc _ :: _, _, _, _, h => by cases h
  | .fn _ :: _, _, _, _, h => by cases h
  | .dct _ _ :: _, _, _, _, h => by cases h
  | .obj _ _ :: _, _, _, _, h => by cases h
  | .exo _ _ _ :: _, _, _, _, h => by cases h
def bools : List D → Option (List Bool)
  | [] => some []
  | .bl i :: ds => (bools ds).map (i :: ·)
  | _ => none
theorem bools_map : ∀ ns : List Bool, bools (ns.map D.bl) = some ns
  | [] => rfl
  | n :: ns => by simp [bools, bools_map ns]
theorem bools_rep {K : KB} {H : Hp} {m : List Addr} : ∀ {ds : List D} {vs : List V} {ns : List Bool}, RepL K H m ds vs → bools ds = some ns → vs = ns.map V.bl
  | [], _, _, r, h => by cases h; exact r.inv_nil
  | .bl i :: ds, _, _, r, h => by
    obtain ⟨v, vr, rfl, r1, r2⟩ := r.inv_cons
    cases Rep.bl_iff.mp r1
    obtain ⟨ms, h2, rfl⟩ := Option.map_eq_some_iff.mp h
    rw [bools_rep r2 h2]; rfl
  | .non :: _, _, _, _, h => by cases h
  | .int _ :: _, _, _, _, h => by cases h
  | .str _ :: _, _, _, _, h => by cases h
  | .ty _ :: _, _, _, _, h => by cases h
  | .ob _ :: _, _, _, _, h => by cases h
  | .tup _ :: _, _, _, _, h => by cases h
  | .lst _ :: _, _, _, _, h => by cases h
  | .rol _ :: _, _, _, _, h => by cases h
  | .loc _ :: _, _, _, _, h => by cases h
  | .fn _ :: _, _, _, _, h => by cases h
  | .dct _ _ :: _, _, _, _, h => by cases h
  | .obj _ _ :: _, _, _, _, h => by cases h
  | .exo _ _ _ :: _, _, _, _, h => by cases h
def maxI : List Int → Int
  | [] => 0
  | n :: ns => ns.foldl max n
def minI : List Int → Int
  | [] => 0
  | n :: ns => ns.foldl min n
theorem foldl_max_spec : ∀ (ns : List Int) (n : Int), n ≤ ns.foldl max n ∧ (∀ y ∈ ns, y ≤ ns.foldl max n) ∧ (ns.foldl max n = n ∨ ns.foldl max n ∈ ns)
  | [], n => by simp
  | a :: ns, n => by
    obtain ⟨h1, h2, h3⟩ := foldl_max_spec ns (max n a)
    refine ⟨by simp only [List.foldl]; omega, fun y hy => ?_, ?_⟩
    · simp only [List.foldl]
      rcases List.mem_cons.mp hy with e | hy
      · subst e; omega
      · exact h2 y hy
    · simp only [List.foldl]
      rcases h3 with h3 | h3
      · rw [h3]
        rcases Int.le_total n a with q | q
        · rw [Int.max_eq_right q]; exact .inr (by simp)
        · rw [Int.max_eq_left q]; exact .inl rfl
      · exact .inr (List.mem_cons_of_mem _ h3)
theorem foldl_min_spec : ∀ (ns : List Int) (n : Int), ns.foldl min n ≤ n ∧ (∀ y ∈ ns, ns.foldl min n ≤ y) ∧ (ns.foldl min n = n ∨ ns.foldl min n ∈ ns)
  | [], n => by simp
  | a :: ns, n => by
    obtain ⟨h1, h2, h3⟩ := foldl_min_spec ns (min n a)
    refine ⟨by simp only [List.foldl]; omega, fun y hy => ?_, ?_⟩
    · simp only [List.foldl]
      rcases List.mem_cons.mp hy with e | hy
      · subst e; omega
      · exact h2 y hy
    · simp only [List.foldl]
      rcases h3 with h3 | h3
      · rw [h3]
        rcases Int.le_total n a with q | q
        · rw [Int.min_eq_left q]; exact .inl rfl
        · rw [Int.min_eq_right q]; exact .inr (by simp)
      · exact .inr (List.mem_cons_of_mem _ h3)
def gMax : GL := fun st ds => match ds with
  | [.int i, .int j] => some (.int (if j > i then j else i))
  | [d] => (lstV st d).bind fun xs => (dInts xs).bind fun ns => if 0 < ns.length then some (.int (maxI ns)) else none
  | _ => none
def gMin : GL := fun st ds => match ds with
  | [.int i, .int j] => some (.int (if j < i then j else i))
  | [d] => (lstV st d).bind fun xs => (dInts xs).bind fun ns => if 0 < ns.length then some (.int (minI ns)) else none
  | _ => none
theorem dc_max (hc : X.calm = true) : DCall X (.builtin "max") gMax := ⟨_, (call_max2 hc).or (cr_max hc), fun B xs H m st ds d Q rs r h q => by
  unfold gMax at h
  split at h
  · cases h
    obtain ⟨v, w, rfl, r1, r2⟩ := two_inv r
    cases Rep.int_iff.mp r1
    cases Rep.int_iff.mp r2
    exact .inl ⟨_, _, rfl, q _ H Grow.refl (Rep.int_iff.mpr rfl)⟩
  · obtain ⟨v, rfl, r1⟩ := one_inv r
    obtain ⟨ys, h1, h⟩ := Option.bind_eq_some_iff.mp h
    obtain ⟨ns, h2, h⟩ := Option.bind_eq_some_iff.mp h
    split at h
    · rename_i hp
      cases h
      obtain ⟨a, vs, rfl, hs, rl⟩ := lstV_rep rs r1 h1
      obtain ⟨rfl, _⟩ := dInts_rep rl h2
      refine .inr ⟨a, ns, rfl, hs, hp, fun z hz hle => ?_⟩
      cases ns with
      | nil => cases hz
      | cons n ns =>
        obtain ⟨k1, k2, k3⟩ := foldl_max_spec ns n
        have e : z = maxI (n :: ns) := by
          refine Int.le_antisymm ?_ (hle _ ?_)
          · rcases List.mem_cons.mp hz with e | hz
            · subst e; exact k1
            · exact k2 z hz
          · rcases k3 with k3 | k3
            · show ns.foldl max n ∈ _; rw [k3]; simp
            · exact List.mem_cons_of_mem _ k3
        rw [e]
        exact q _ H Grow.refl (Rep.int_iff.mpr rfl)
    · cases h
  · cases h⟩
theorem dc_min (hc : X.calm = true) : DCall X (.builtin "min") gMin := ⟨_, (call_min2 hc).or (cr_min hc), fun B xs H m st ds d Q rs r h q => by
  unfold gMin at h
  split at h
  · cases h
    obtain ⟨v, w, rfl, r1, r2⟩ := two_inv r
    cases Rep.int_iff.mp r1
    cases Rep.int_iff.mp r2
    exact .inl ⟨_, _, rfl, q _ H Grow.refl (Rep.int_iff.mpr rfl)⟩
  · obtain ⟨v, rfl, r1⟩ := one_inv r
    obtain ⟨ys, h1, h⟩ := Option.bind_eq_some_iff.mp h
    obtain ⟨ns, h2, h⟩ := Option.bind_eq_some_iff.mp h
    split at h
    · rename_i hp
      cases h
      obtain ⟨a, vs, rfl, hs, rl⟩ := lstV_rep rs r1 h1
      obtain ⟨rfl, _⟩ := dInts_rep rl h2
      refine .inr ⟨a, ns, rfl, hs, hp, fun z hz hle => ?_⟩
      cases ns with
      | nil => cases hz
      | cons n ns =>
        obtain ⟨k1, k2, k3⟩ := foldl_min_spec ns n
        have e : z = minI (n :: ns) := by
          refine Int.le_antisymm (hle _ ?_) ?_
          · rcases k3 with k3 | k3
            · show ns.foldl min n ∈ _; rw [k3]; simp
            · exact List.mem_cons_of_mem _ k3
          · rcases List.mem_cons.mp hz with e | hz
            · subst e; exact k1
            · exact k2 z hz
        rw [e]
        exact q _ H Grow.refl (Rep.int_iff.mpr rfl)
    · cases h
  · cases h⟩
def gSum : GL := fun st ds => match ds with
  | [d] => (lstV st d).bind fun xs => (dInts xs).map fun ns => .int ns.sum
  | _ => none
theorem dc_sum (hc : X.calm = true) : DCall X (.builtin "sum") gSum := ⟨_, cr_sum hc, fun B xs H m st ds d Q rs r h q => by
  unfold gSum at h
  split at h
  · obtain ⟨v, rfl, r1⟩ := one_inv r
    obtain ⟨ys, h1, h⟩ := Option.bind_eq_some_iff.mp h
    obtain ⟨ns, h2, rfl⟩ := Option.map_eq_some_iff.mp h
    obtain ⟨a, vs, rfl, hs, rl⟩ := lstV_rep rs r1 h1
    obtain ⟨rfl, _⟩ := dInts_rep rl h2
    exact ⟨a, ns, rfl, hs, q _ H Grow.refl (Rep.int_iff.mpr rfl)⟩
  · cases h⟩
def gAny : GL := fun st ds => match ds with
  | [d] => (lstV st d).bind fun xs => (bools xs).map fun ns => .bl (ns.any id)
  | _ => none
def gAll : GL := fun st ds => match ds with
  | [d] => (lstV st d).bind fun xs => (bools xs).map fun ns => .bl (ns.all id)
  | _ => none
theorem dc_any (hc : X.calm = true) : DCall X (.builtin "any") gAny := ⟨_, cr_any hc, fun B xs H m st ds d Q rs r h q => by
  unfold gAny at h
  split at h
  · obtain ⟨v, rfl, r1⟩ := one_inv r
    obtain ⟨ys, h1, h⟩ := Option.bind_eq_some_iff.mp h
    obtain ⟨ns, h2, rfl⟩ := Option.map_eq_some_iff.mp h
    obtain ⟨a, vs, rfl, hs, rl⟩ := lstV_rep rs r1 h1
    rw [bools_rep rl h2] at hs
    exact ⟨a, ns, rfl, hs, q _ H Grow.refl (Rep.bl_iff.mpr rfl)⟩
  · cases h⟩
theorem dc_all (hc : X.calm = true) : DCall X (.builtin "all") gAll := ⟨_, cr_all hc, fun B xs H m st ds d Q rs r h q => by
  unfold gAll at h
  split at h
  · obtain ⟨v, rfl, r1⟩ := one_inv r
    obtain ⟨ys, h1, h⟩ := Option.bind_eq_some_iff.mp h
    obtain ⟨ns, h2, rfl⟩ := Option.map_eq_some_iff.mp h
    obtain ⟨a, vs, rfl, hs, rl⟩ := lstV_rep rs r1 h1
    rw [bools_rep rl h2] at hs
    exact ⟨a, ns, rfl, hs, q _ H Grow.refl (Rep.bl_iff.mpr rfl)⟩
  · cases h⟩
def gTupleOf : GL := fun st ds => match ds with
  | [d] => (seqV st d).map .tup
  | _ => none
theorem dc_tuple : DCall X (.type "tuple") gTupleOf := ⟨_, call_tuple_of, fun B xs H m st ds d Q rs r h q => by
  unfold gTupleOf at h
  split at h
  · rename_i d0
    obtain ⟨v, rfl, r1⟩ := one_inv r
    obtain ⟨ys, h1, rfl⟩ := Option.map_eq_some_iff.mp h
    have ls : ∀ {d : D}, Rep ⟨X.K, B⟩ H m d v → lstV st d = some ys → ∃ p zs, [v] = [V.ref p] ∧ ((SqL X.K H p zs ∧ ∀ l, H l = none → Q (.ref l) (upd H l (.tup zs))) ∨ (SqT X.K H p zs ∧ Q (.ref p) H)) := fun {d} r h => by
      obtain ⟨a, vs, rfl, hs, rl⟩ := lstV_rep rs r h
      exact ⟨a, vs, rfl, .inl ⟨hs, fun l hl => q _ _ (Grow.upd hl) (Rep.newT rs hl rl)⟩⟩
    cases d0 with
    | tup zs =>
      cases h1
      obtain ⟨a, vs, rfl, ha, la⟩ := Rep.tup_iff.mp r1
      exact ⟨a, vs, rfl, .inr ⟨sqt_of ha, q _ H Grow.refl r1⟩⟩
    | lst zs => exact ls r1 h1
    | rol zs => exact ls r1 h1
    | loc zs => exact ls r1 h1
    | _ => cases h1
  · cases h⟩
def gListOf : GL := fun st ds => match ds with
  | [d] => (seqV st d).map .lst
  | _ => none
theorem dc_list : DCall X (.type "list") gListOf := ⟨_, call_list_of, fun B xs H m st ds d Q rs r h q => by
  unfold gListOf at h
  split at h
  · obtain ⟨v, rfl, r1⟩ := one_inv r
    obtain ⟨ys, h1, rfl⟩ := Option.map_eq_some_iff.mp h
    obtain ⟨a, vs, rfl, hs, rl⟩ := seqV_rep rs r1 h1
    exact ⟨a, vs, rfl, hs, fun l hl => q _ _ (Grow.upd hl) (Rep.newL rs hl rl)⟩
  · cases h⟩
/-- isinstance of one built-in class -/
def tyN (st : Store) : D → Option String
  | .non => some "NoneType"
  | .bl _ => some "bool"
  | .int _ => some "int"
  | .str _ => some "str"
  | .tup _ => some "tuple"
  | .lst _ => some "list"
  | .rol _ => some "list"
  | .dct _ _ => some "dict"
  | .loc l => match st[l]? with
    | some (.lst _) => some "list"
    | some (.dic _) => some "dict"
    | some (.dik _) => some "dict"
    | _ => none
  | _ => none
def isT (a b : String) : Option Bool :=
  if ["NoneType", "bool", "int", "str", "tuple", "list", "dict"].contains a && ["bool", "int", "str", "tuple", "list", "dict"].contains b then some (a == b || (a == "bool" && b == "int")) else none
theorem isT_kit {a b : String} {r : Bool} (h : isT a b = some r) : kitB a b = some r := by
  unfold isT at h
  split at h
  · rename_i hc
    simp only [List.contains_cons, List.contains_nil, Bool.or_false, Bool.and_eq_true, Bool.or_eq_true, beq_iff_eq] at hc
    obtain ⟨ha, hb⟩ := hc
    cases h
    rcases ha with rfl | rfl | rfl | rfl | rfl | rfl | rfl <;> rcases hb with rfl | rfl | rfl | rfl | rfl | rfl <;> decide +kernel
  · cases h
def gIsi : GL := fun st ds => match ds with
  | [d, .ty n] => (tyN st d).bind fun t => (isT t n).map .bl
  | _ => none
theorem tyN_rep {K : PySem.W.Frag} {B : List Addr} {H : Hp} {m : List Addr} {st : Store} {d : D} {v : V} {t : String} (rs : RepSt ⟨K, B⟩ H m st) (r : Rep ⟨K, B⟩ H m d v) (h : tyN st d = some t) : TyX K H v (.type t) := by
  cases d with
  | non => cases h; cases Rep.non_iff.mp r; exact .base .non
  | bl b => cases h; cases Rep.bl_iff.mp r; exact .base (.bl b)
  | int b => cases h; cases Rep.int_iff.mp r; exact .base (.int b)
  | str b => cases h; cases Rep.str_iff.mp r; exact .base (.str b)
  | tup ds =>
    cases h
    obtain ⟨a, vs, rfl, ha, la⟩ := Rep.tup_iff.mp r
    rcases ha with ⟨ha | ⟨o, ha⟩, _⟩ | ⟨o, its, n, e, c, _⟩
    · exact .base (.tup ha)
    · exact .fTuple ha
    · exact .kTuple e c
  | lst ds =>
    cases h
    obtain ⟨a, vs, rfl, ha, la⟩ := Rep.lst_iff.mp r
    exact .base (.lst ha.1)
  | rol ds =>
    cases h
    obtain ⟨a, vs, rfl, ha, la⟩ := Rep.rol_iff.mp r
    rcases ha with ⟨⟨o, ha⟩, _⟩ | ⟨o, its, n, e, c, _⟩
    · exact .base (.frz ha)
    · exact .kList e c
  | loc l =>
    simp only [tyN] at h
    obtain ⟨a, rfl, h1⟩ := Rep.loc_iff.mp r
    cases q : st[l]? with
    | none => rw [q] at h; cases h
    | some c =>
      rw [q] at h
      obtain ⟨b, h2, h3⟩ := rs.cell l _ q
      rw [h1] at h2; cases h2
      cases c with
      | lst ds => cases h; obtain ⟨vs, e, _⟩ := h3; exact .base (.lst e)
      | dic ds => cases h; obtain ⟨vs, e, _⟩ := h3; exact .base (.dK e)
      | dik ds => cases h; obtain ⟨o2, vs, e, _⟩ := h3; exact .fDict e
      | ins _ _ => cases h
  | dct ks ds =>
    cases h
    obtain ⟨a, vs, rfl, ⟨o, ha⟩, _⟩ := Rep.dct_iff.mp r
    exact .fDict ha
  | _ => cases h
theorem dc_isi : DCall X (.builtin "isinstance") gIsi := ⟨_, call_isi, fun B xs H m st ds d Q rs r h q => by
  unfold gIsi at h
  split at h
  · obtain ⟨v, w, rfl, r1, r2⟩ := two_inv r
    obtain ⟨t, h1, h⟩ := Option.bind_eq_some_iff.mp h
    obtain ⟨b, h2, rfl⟩ := Option.map_eq_some_iff.mp h
    cases Rep.ty_iff.mp r2
    exact ⟨v, _, _, _, b, rfl, .ty _, tyN_rep rs r1 h1, kit_ty (isT_kit h2), q _ H Grow.refl (Rep.bl_iff.mpr rfl)⟩
  · cases h⟩
/-- sorted of ints (fewer than 64) -/
def insI (n : Int) : List Int → List Int
  | [] => [n]
  | x :: xs => if n ≤ x then n :: x :: xs else x :: insI n xs
def srtI : List Int → List Int
  | [] => []
  | n :: ns => insI n (srtI ns)
theorem insI_perm (n : Int) : ∀ l : List Int, (insI n l).Perm (n :: l)
  | [] => .refl _
  | x :: xs => by
    unfold insI
    split
    · exact .refl _
    · exact ((insI_perm n xs).cons x).trans (.swap n x xs)
theorem srtI_perm : ∀ l : List Int, (srtI l).Perm l
  | [] => .refl _
  | n :: ns => (insI_perm n _).trans ((srtI_perm ns).cons n)
theorem insI_sorted (n : Int) : ∀ l : List Int, l.Pairwise (· ≤ ·) → (insI n l).Pairwise (· ≤ ·)
  | [], _ => by simp [insI]
  | x :: xs, h => by
    obtain ⟨h1, h2⟩ := List.pairwise_cons.mp h
    unfold insI
    split
    · rename_i hle
      refine List.pairwise_cons.mpr ⟨fun y hy => ?_, h⟩
      rcases List.mem_cons.mp hy with e | hy
      · subst e; exact hle
      · exact Int.le_trans hle (h1 y hy)
    · rename_i hle
      refine List.pairwise_cons.mpr ⟨fun y hy => ?_, insI_sorted n xs h2⟩
      rcases List.mem_cons.mp ((insI_perm n xs).mem_iff.mp hy) with e | hy
      · subst e; omega
      · exact h1 y hy
theorem srtI_sorted : ∀ l : List Int, (srtI l).Pairwise (· ≤ ·)
  | [] => .nil
  | n :: ns => insI_sorted n _ (srtI_sorted ns)
theorem sorted_one : ∀ {a b : List Int}, a.Perm b → a.Pairwise (· ≤ ·) → b.Pairwise (· ≤ ·) → a = b := fun {a b} p h1 h2 => p.eq_of_pairwise (fun x y _ _ h h' => Int.le_antisymm h h') h1 h2
def gSorted : GL := fun st ds => match ds with
  | [d] => (lstV st d).bind fun xs => (dInts xs).bind fun ns => if ns.length < 64 then some (.lst ((srtI ns).map D.int)) else none
  | _ => none
theorem dc_sorted : DCall X (.builtin "sorted") gSorted := ⟨_, cr_sorted, fun B xs H m st ds d Q rs r h q => by
  unfold gSorted at h
  split at h
  · obtain ⟨v, rfl, r1⟩ := one_inv r
    obtain ⟨ys, h1, h⟩ := Option.bind_eq_some_iff.mp h
    obtain ⟨ns, h2, h⟩ := Option.bind_eq_some_iff.mp h
    split at h
    · rename_i hz
      cases h
      obtain ⟨a, vs, rfl, hs, rl⟩ := lstV_rep rs r1 h1
      obtain ⟨rfl, _⟩ := dInts_rep rl h2
      refine ⟨a, ns, rfl, hs, hz, fun ns' p hp hs' hn => ?_⟩
      have e : ns' = srtI ns := sorted_one (hp.trans (srtI_perm ns).symm) hs' (srtI_sorted ns)
      subst e
      exact q _ _ (Grow.upd hn) (Rep.newL rs hn (RepL.ints _))
    · cases h
  · cases h⟩
end
end DL
namespace DL
open PySem PySem.Spec PyProof.Rows L2
variable [TabsCtx]
theorem CX_false {P : Program} {w : World} {ou : List Env} {H : Hp} {s s' : Shared} {e : Value} (h : L2.CX P w ou H s (fun _ _ _ => False) e s') : False := by
  obtain ⟨_, _, _, _, _, _, _, _, _, _, _, _, z⟩ := h
  exact z
section
variable {P : Program} {w : World} {K : PySem.W.Frag} {mg mb : Str → Option Value} {s : Shared} {a : Addr} {vs : List Value}
/-- the heap behind the top without the script: all that a def's facts lean on -/
theorem ground {H : Hp} (inK : K.In s.heap) (gl : s.heap.Ns mainGlobals mg) (bl : s.heap.Ns builtinsNs mb) (bb : ∀ x : Str, x ≠ "__name__" → mb x = bootBuiltins x) (lim : s.heap.NoLimit) (gens : s.gens = #[])
    (sc : s.heap.get? a = some { cls := .type "list", data := .seq vs.toArray }) (ok : HOk P w H s.heap) (only : ∀ b, H b ≠ none → b = a) (nk : H a ≠ none → K.lookup a = none) :
    Env0 P w K mg (hidT s.heap H) callerA [] s H ∧ K.In (hidT s.heap H) ∧ (hidT s.heap H).Ns mainGlobals mg := by
  have free : ∀ {b : Addr} {o : Obj}, s.heap.get? b = some o → (∀ its k, o ≠ { cls := .type "list", data := .seq its k }) → H b = none := fun {b o} q ne => by
    cases hb : H b with
    | none => rfl
    | some u =>
      have e := only b (by rw [hb]; exact fun z => nomatch z)
      rw [e, sc] at q
      exact absurd (Option.some.inj q).symm (ne _ _)
  have ns : ∀ {b : Addr} {m : Str → Option Value}, s.heap.Ns b m → (hidT s.heap H).Ns b m := fun {b m} ⟨o, es, ep, q, dq, r⟩ =>
    ⟨o, es, ep, hidT_get q (free q fun its k z => by rw [z] at dq; cases dq), dq, r⟩
  have kin : K.In (hidT s.heap H) := fun b o q => hidT_get (inK b o q) (by
    cases hb : H b with
    | none => rfl
    | some u =>
      have e := only b (by rw [hb]; exact fun z => nomatch z)
      rw [e] at hb q
      rw [nk (by rw [hb]; exact fun z => nomatch z)] at q
      cases q)
  obtain ⟨mc, l1, l2⟩ := lim
  exact ⟨{ frames := rfl, mod := ⟨kin, ns gl, ⟨mb, ns bl, bb⟩, ⟨mc, ns l1, l2⟩⟩, bs := fun b o q => of_hidT q, bsz := Nat.le_of_eq (hidT_size _ _), funs := trivial, frf := (fun b hb => (nomatch hb)), hok := ok, bare := AllBare.of_eq gens }, kin, ns gl⟩
end
/-- a law that hands back True at every script -/
theorem lawD (hT : TabsCtx.T = []) {l : PySem.W.OpenLaw} {n : Nat} {q : Program} {loose : List Str} {XP : (Str → Option Value) → Heap → Prop} {YP : World → Heap → Prop} {d : DefRec} {x : Str} (hn : l.most = some n) (hn2 : n ≤ sizeLine) (hdf : d.params.defaults = [])
    (hF : ∀ (w : World) (mg : Str → Option Value) (fa : Addr) (h : Heap), YP w h → h.Ns mainGlobals mg → mg d.name = some (.ref fa) →
      ∃ (K : PySem.W.Frag) (fd : FuncData) (k : Nat) (F : Fd), Room k callerA ∧ K.In h ∧ (∀ (s : Shared) (u : Value), BindsTo s fd ⟨[u], []⟩ [(x, u)]) ∧ (∀ ns : List Int, ns.length ≤ n → ∃ st, F [.rol (ns.map D.int)] [] = .ok (.bl true) st) ∧
        ∀ base : Heap, K.In base → base.Ns mainGlobals mg → FnG l.prog w K mg base k fa fd [x] (spD K 1 F)) :
    PySem.W.WalkO q loose XP YP l.row.toRowW d [] (fun f vs => PySem.call f vs) := by
  refine Att.attach_call hn hdf fun w s0 s mg mb fa o pm cd doc a vs ns G Y ho hd hcd hmg sc hints hlen gens => ?_
  obtain ⟨K, fd, k, F, room, inK, bind, tru, prom⟩ := hF w mg fa _ Y G.T.g hmg
  have rv := L2.vals_ints hints
  have lv := hints.length
  have zl : ns.length ≤ sizeLine := Nat.le_trans hlen hn2
  have key : ∀ H : Hp, (∀ b, H b = none ∨ ∃ o xs, H b = some (.frz o (.lst xs))) → (∀ b, H b ≠ none → b = a) → (H a ≠ none → K.lookup a = none) → HOk l.prog w H s.heap →
      (((∃ o, H a = some (.frz o (.lst (ns.map V.int)))) ∧ a ∉ ([] : List Addr) ∧ a ∉ ([] : List Addr)) ∨ LK K a (ns.map V.int)) →
      codeAny (model l.prog w) callerA (.call (.ref fa) ⟨[.ref a], []⟩) (fun r s' => r = .ok (.ret (.bool true)) ∧ OldK s.heap s'.heap ∧ s'.os = s.os ∧ AllBare s'.gens) s := by
    intro H hO only nk ok rep
    obtain ⟨env, kin, nsB⟩ := ground inK G.T.g G.T.b G.T.builtins G.T.nolimit gens sc ok only nk
    obtain ⟨st, ht⟩ := tru ns hlen
    refine codeAny_mono ((prom _ kin nsB).run callerA [] s H ⟨[.ref a], []⟩ [.ref a] [.ref a] (fun v _ => v = .bl true) (fun _ _ _ => False) room rfl env (bind s (.ref a)) (.cons rfl .nil)
      ⟨[], [.rol (ns.map D.int)], [], [], rfl, .cons (Rep.rol_iff.mpr ⟨a, _, rfl, rep, RepL.ints ns⟩) .nil, ⟨fun b hb => (nomatch hb), rfl, .nil, fun i c z => (nomatch z), fun p hp => absurd (show p ∈ TabsCtx.T from hp) (by rw [hT]; simp)⟩, ?_⟩) fun r s' hr => ?_
    · rw [ht]
      exact fun v H' m' _ r _ => Rep.bl_iff.mp r
    · match r, hr with
      | .error e, hr => exact (CX_false hr).elim
      | .ok .next, hr => exact hr.elim
      | .ok .brk, hr => exact hr.elim
      | .ok .cont, hr => exact hr.elim
      | .ok (.ret u), ⟨v, H', os, bare, un, ok', rel, tv⟩ =>
        cases tv
        cases (show u = Value.bool true from rel)
        refine ⟨rfl, OldK.of_keep fun b o q => ?_, os, bare⟩
        rcases hO b with z | ⟨ob, xs, z⟩
        · exact un.keep b o q z (fun y => nomatch y) (fun y => nomatch y)
        · obtain ⟨q1, _⟩ := ok b _ z
          obtain ⟨q2, _⟩ := ok' b _ (un.frzs b ob _ z)
          rw [q] at q1
          cases q1
          exact q2
  cases hk : K.lookup a with
  | some o =>
    have q := inK a o hk
    rw [sc] at q
    cases q
    exact key (fun _ => none) (fun _ => .inl rfl) (fun _ z => absurd rfl z) (fun z => absurd rfl z) (fun _ _ z => nomatch z) (.inr ⟨_, vs.toArray, _, hk, rfl, rfl, rfl, by rw [List.size_toArray, lv]; exact zl, by simpa using rv⟩)
  | none =>
    refine key (fun b => if b = a then some (.frz { cls := .type "list", data := .seq vs.toArray } (.lst (ns.map V.int))) else none) (fun b => ?_) (fun b hb => ?_) (fun _ => hk) (fun b u z => ?_) (.inl ⟨⟨_, if_pos rfl⟩, fun z => (nomatch z), fun z => (nomatch z)⟩)
    · by_cases e : b = a
      · exact .inr ⟨_, _, if_pos e⟩
      · exact .inl (if_neg e)
    · by_cases e : b = a
      · exact e
      · exact absurd (if_neg e) hb
    · by_cases e : b = a
      · subst e
        cases (if_pos rfl).symm.trans z
        exact ⟨sc, by rw [List.length_map]; exact zl, vs, _, rv, sc⟩
      · cases (if_neg e).symm.trans z
end DL
namespace DL
open PySem PySem.Spec PyProof.Rows L2
variable [TabsCtx]
inductive Kd where | l | t
def SqK (K : PySem.W.Frag) : Kd → Hp → Addr → List V → Prop
  | .l, H, a, xs => SqL K H a xs
  | .t, H, a, xs => SqT K H a xs
def ItS : Kd → Heap → Addr → Addr → Nat → Prop
  | .l, h, it, a, i => h.IsListIter it a i
  | .t, h, it, a, i => h.IsTupleIter it a i
def IsS : Kd → Heap → Addr → Array Value → Prop
  | .l, h, a, x => h.IsList a x
  | .t, h, a, x => h.IsTuple a x
def beginO : Kd → Addr → Obj
  | .l, a => { cls := .type "list_iterator", data := .fields #[.ref a, .int 0 0] }
  | .t, a => { cls := .type "tuple_iterator", data := .fields #[.ref a, .int 0 0] }
section
variable {X : Cx} {pins : List (Addr × Obj)} {σ : Sg} {H : Hp} {s : Shared} {k : Kd} {a : Addr} {xs ys : List V}
theorem sqk_vals (I : Inv X pins σ H s) (h : SqK X.K k H a xs) : ∃ its : List Value, Vals xs its ∧ IsS k s.heap a its.toArray := by
  cases k with
  | l => obtain ⟨its, r, p, _⟩ := I.list h; exact ⟨its, r, p.isList⟩
  | t => obtain ⟨its, r, p, _⟩ := I.tuple h; exact ⟨its, r, p⟩
theorem sqk_inj (I : Inv X pins σ H s) (h : SqK X.K k H a xs) (h' : SqK X.K k H a ys) : xs = ys := by
  cases k with
  | l => exact I.list_inj h h'
  | t => exact I.tuple_inj h h'
theorem its_at {h h' : Heap} {it a : Addr} {i : Nat} (x : ItS k h it a i) (hk : ∀ o, h.get? it = some o → h'.get? it = some o) : ItS k h' it a i := by
  cases k with
  | l => exact Heap.IsListIter.at x hk
  | t => exact Heap.IsTupleIter.at x hk
theorem iss_at {h h' : Heap} {a : Addr} {v : Array Value} (x : IsS k h a v) (hk : ∀ o, h.get? a = some o → h'.get? a = some o) : IsS k h' a v := by
  cases k with
  | l => exact Heap.IsList.at x hk
  | t => exact Heap.IsTuple.at x hk
theorem iss_lt {h : Heap} {a : Addr} {v : Array Value} (x : IsS k h a v) : ∃ o, h.get? a = some o := by
  cases k with
  | l => obtain ⟨o, e, _⟩ := x; exact ⟨o, e⟩
  | t => obtain ⟨o, e, _⟩ := x; exact ⟨o, e⟩
theorem its_obj {h : Heap} {it a : Addr} {i : Nat} (x : ItS k h it a i) : ∃ o, h.get? it = some o ∧ ∀ v, o.data ≠ .cell v := by
  cases k with
  | l => obtain ⟨o, e, c, d⟩ := x; exact ⟨o, e, fun v q => by rw [d] at q; cases q⟩
  | t => obtain ⟨o, e, c, d⟩ := x; exact ⟨o, e, fun v q => by rw [d] at q; cases q⟩
theorem its_begin {h : Heap} {it a : Addr} (x : h.get? it = some (beginO k a)) : ItS k h it a 0 := by
  cases k with
  | l => exact ⟨_, x, rfl, rfl⟩
  | t => exact ⟨_, x, rfl, rfl⟩
theorem begins_k (k : Kd) (a : Addr) (items : Array Value) : Begins (.ref a) (beginO k a) fun h => IsS k h a items := by
  cases k with
  | l => exact begins_list a items
  | t => exact begins_tuple a items
theorem draws_k {prog : Program} {w : World} {A : Around} (k : Kd) (hh : A.handled = none) (it a : Addr) (hne : a ≠ it) (items : Array Value) :
    Draws prog w A it [it, a] items.size (fun i v => items[i]? = some v) (fun i h => ItS k h it a i ∧ IsS k h a items) := by
  cases k with
  | l => exact Draws.list hh it a hne items
  | t => exact Draws.tuple hh it a hne items
end
def ItE (K : PySem.W.Frag) (k : Kd) (a : Addr) : It :=
  ⟨fun i H => ∃ (xs : List V) (x : V), SqK K k H a xs ∧ xs[i]? = some x,
    fun i H v H' => ∃ T x, v = .ref T ∧ H T = none ∧ H' = upd H T (.tup [.int (i : Nat), x]) ∧ ∀ xs, SqK K k H a xs → xs[i]? = some x,
    fun i H => ∃ xs : List V, SqK K k H a xs ∧ xs.length = i⟩
theorem turn_en {P : Program} {w : World} {K : PySem.W.Frag} {k : Kd} {elts : List Expr} {kk : Nat} {tpos : Pos} (a e it : Addr) (hei : e ≠ it) (hai : a ≠ it) (hae : a ≠ e) :
    Turn P w K (.Tuple elts kk tpos) (ItE K k a) [e, it] e (fun i h => (∃ old, IsEnum h e it (0 + (i : Int)) old) ∧ ItS k h it a i) where
  mem := by simp
  obj := fun i h st b hb => by
    obtain ⟨⟨old, he⟩, hi⟩ := st
    rcases List.mem_cons.mp hb with z | z
    · rw [z]; exact ⟨_, he, fun v q => nomatch q⟩
    · rw [List.mem_singleton.mp z]; exact its_obj hi
  keep := fun i h h' st kp => ⟨st.1.imp fun old he => kp e (by simp) _ he, its_at st.2 fun o q => kp it (by simp) o q⟩
  item := by
    intro X hP hw hK hc i pins s σ H E I hf st hg
    subst hP hw hK
    obtain ⟨⟨old, he⟩, hi⟩ := st
    obtain ⟨xs, x, hq, hx⟩ := hg
    obtain ⟨its, rv, p⟩ := sqk_vals I hq
    obtain ⟨u, hu, ru⟩ := rv.get hx
    have W := WalksT.enumFrom (prog := X.prog) (w := X.w) (A := X.A) 0 (draws_k (A := X.A.in1) k (I.ok.hd hc) it a hai its.toArray) e hei (by simp [hei, Ne.symm hae]) (by simp)
    have hlt : i < its.toArray.size := by
      have := (List.getElem?_eq_some_iff.mp hu).1
      simpa using this
    refine W.item i s _ E hlt ⟨⟨old, he⟩, hi, p⟩ fun T vals h' tk hp hle hT mid hk => ?_
    obtain ⟨t, x', hx', rfl⟩ := hp
    have ex : x' = u := by
      have h2 : its[i]? = some x' := by simpa using hx'
      rw [hu] at h2; exact (Option.some.inj h2).symm
    subst ex
    have nT : T ∉ [e, it] := W.apart _ _ _ mid
    refine ⟨.ref T, rfl, W.go elts kk tpos i T { s with heap := h', toks := tk } _ E mid fun h'' st'' hk2 => ?_⟩
    have hT2 : h''.IsTuple T #[.int (0 + (i : Int)) t, x'] := hT.at fun o q => hk2 T o nT q
    have new : ObjOk X.prog X.w (upd H T (.tup [.int (i : Nat), x])) h'' T (.tup [.int (i : Nat), x]) :=
      ⟨by show 2 ≤ sizeLine; decide, [.int (0 + (i : Int)) t, x'], .cons ⟨t, by rw [Int.zero_add]⟩ (.cons ru .nil), hT2⟩
    have I1 : Inv X pins σ (upd H T (.tup [.int (i : Nat), x])) { s with heap := h'', toks := tk } :=
      I.turnedNew (ch := [e, it]) (fun b ob hb q => hk2 b ob hb (hk b ob hb q)) hf hle new
    refine ⟨.ref T, _, I1, rfl, ⟨T, x, rfl, I.hok.fresh hle, rfl, fun ys hy => by rw [sqk_inj I hy hq]; exact hx⟩, ⟨st''.1, st''.2.1⟩, fun b hb => ?_⟩
    rw [upd_ne (fun z => nT (by rw [← z]; exact hb))]
    exact (hf b hb).1
  done := by
    intro X hP hw hK hc i pins s σ H E I hf st hg
    subst hP hw hK
    obtain ⟨⟨old, he⟩, hi⟩ := st
    obtain ⟨xs, hq, hx⟩ := hg
    obtain ⟨its, rv, p⟩ := sqk_vals I hq
    have W := WalksT.enumFrom (prog := X.prog) (w := X.w) (A := X.A) 0 (draws_k (A := X.A.in1) k (I.ok.hd hc) it a hai its.toArray) e hei (by simp [hei, Ne.symm hae]) (by simp)
    have hl : its.toArray.size = i := by
      rw [List.size_toArray, ← rv.length]; exact hx
    refine W.done s _ E (by rw [hl]; exact ⟨⟨old, he⟩, hi, p⟩) fun h' tk hk => ⟨rfl, I.turnedL (ch := [e, it]) hk hf⟩
  self := fun A i s Q E st h => by obtain ⟨⟨_, he⟩, _⟩ := st; exact wpAny_pyIter_enum he h
set_option maxHeartbeats 1000000 in
theorem meets_en1 {v : Value} {o : Obj} {H : Heap → Prop} (B : Begins v o H) :
    Meets (Builtin.«enumerate.__new__» ⟨[.type "enumerate", v], []⟩) (fun _ R s => H s.heap ∧
      R (.ok (.ret (.ref (s.heap.push o).objs.size))) { s with heap := (s.heap.push o).push { cls := .type "enumerate", data := .fields #[.none, .bool false, .ref s.heap.objs.size, rawInt 0, .none, .none] } }) :=
  .of_wp fun prog w A R s h => by
    obtain ⟨hp, g, d, tk, os⟩ := s
    obtain ⟨hH, h⟩ := h
    have hsub := sub_enumerate
    have it1 : ∀ {A' : Around} {E Q : Value → Shared → Prop}, Q (.ref hp.objs.size) ⟨hp.push o, g, d, tk, os⟩ → wpAny (model prog w) A' (pyIter v) Q E ⟨hp, g, d, tk, os⟩ :=
      fun q => B.iter prog w _ _ ⟨hp, g, d, tk, os⟩ _ hH q
    wp_walk using it1
    refine wpAny_stack_any fun st => wpAny_pure ?_
    split
    · rename_i c _ _ _ _ _
      by_cases e : (c == Value.type "enumerate") = true
      · rw [e]
        wp_walk using it1
        exact ⟨_, rfl, h⟩
      · rw [Bool.not_eq_true] at e
        rw [e]
        wp_walk using it1
        exact ⟨_, rfl, h⟩
    · wp_walk using it1
      exact ⟨_, rfl, h⟩
section
variable {prog : Program} {w : World} {A : Around} {E : Value → Shared → Prop} {s : Shared}
theorem call_en1 {v : Value} {o : Obj} {H : Heap → Prop} {Q : Value → Shared → Prop} (B : Begins v o H) (h1 : H s.heap)
    (h : ∀ h', IsEnum h' (s.heap.objs.size + 1) s.heap.objs.size 0 .none → h'.get? s.heap.objs.size = some o →
      (∀ b o, s.heap.get? b = some o → h'.get? b = some o) → Q (.ref (s.heap.objs.size + 1)) { s with heap := h' }) :
    wpAny (model prog w) A (call (.type "enumerate") [v]) Q E s := by
  have hz : (s.heap.push o).objs.size = s.heap.objs.size + 1 := Heap.size_push ..
  refine callType_new F.called_enumerate (by decide) (F.typeCall_enumerate_1 _) (F.newCall_enumerate_1 _) (fun obj => F.args_object_init_2 obj _) F.entry_enumerate_new (meets_en1 B) ⟨h1, ?_⟩
  show _ ∧ _
  rw [hz]
  have he : IsEnum ((s.heap.push o).push { cls := .type "enumerate", data := .fields #[.none, .bool false, .ref s.heap.objs.size, rawInt 0, .none, .none] }) (s.heap.objs.size + 1) s.heap.objs.size 0 .none := by
    have q := Heap.get?_push_size (s.heap.push o) (o := { cls := .type "enumerate", data := .fields #[.none, .bool false, .ref s.heap.objs.size, rawInt 0, .none, .none] }) rfl
    rw [hz] at q; exact q
  exact ⟨⟨_, he, rfl⟩, h _ he (Heap.get?_push_of_some _ (Heap.get?_push_size _ B.free)) fun b o x => Heap.get?_push_of_some _ (Heap.get?_push_of_some _ x)⟩
end
def iEn (K : PySem.W.Frag) (ta : TA) : TI := fun σ H R => ta σ H fun vs H1 => ∃ k a xs, vs = [.ref a] ∧ SqK K k H1 a xs ∧ R (ItE K k a) H1
theorem pi_en {X : Cx} {e : Expr} {ta : TA} {p pos tpos : Pos} {elts : List Expr} {kk : Nat} (hg : Gl X "enumerate") (hm : X.mg "enumerate" = none) (ha : PA X [e] ta) (hs : starEach [e] X.env = [(false, eval e X.env)] := by rfl) :
    PI X (.Tuple elts kk tpos) (.Call (.Name "enumerate" p) [e] [] pos) (iEn X.K ta) := by
  refine ⟨fun pins s σ H R I h => Call_ (ld_blt I hg hm boot_enumerate (PyProof.Rows.callWith_type1 (thn (ha.run pos pins s σ H _ I h) fun us s1 ⟨vs, H1, I1, r1, q1⟩ => ?_) hs rfl))⟩
  obtain ⟨k, a, xs, rfl, hq, q⟩ := q1
  cases r1 with
  | cons r rr =>
    cases rr
    cases r
    obtain ⟨its, rv, p'⟩ := sqk_vals I1 hq
    obtain ⟨oa, ho⟩ := iss_lt p'
    have hal : a < s1.heap.objs.size := Heap.lt_size ho
    refine call_en1 (begins_k k a its.toArray) p' fun h' he hi hk => wpAny_pyIter_enum he ?_
    have I2 : Inv X pins σ H1 { s1 with heap := h' } := I1.kept (t' := s1.toks) hk
    have he0 : IsEnum h' (s1.heap.objs.size + 1) s1.heap.objs.size (0 + ((0 : Nat) : Int)) .none := by rw [show (0 : Int) + ((0 : Nat) : Int) = 0 from rfl]; exact he
    have hi0 : ItS k h' s1.heap.objs.size a 0 := its_begin hi
    refine ⟨s1.heap.objs.size + 1, [s1.heap.objs.size + 1, s1.heap.objs.size], _, _, H1, rfl, I2,
      turn_en a (s1.heap.objs.size + 1) s1.heap.objs.size (Nat.succ_ne_self _) (Nat.ne_of_lt hal) (Nat.ne_of_lt (Nat.lt_succ_of_lt hal)), ⟨⟨.none, he0⟩, hi0⟩, fun b hb => ?_, q⟩
    have hle : s1.heap.objs.size ≤ b := by
      rcases List.mem_cons.mp hb with z | z
      · rw [z]; exact Nat.le_add_right _ _
      · rw [List.mem_singleton.mp z]; exact Nat.le_refl _
    exact I1.fpOk hle (I1.hok.fresh hle)
def ItZ (K : PySem.W.Frag) (k1 k2 : Kd) (a b : Addr) : It :=
  ⟨fun i H => ∃ (xs ys : List V) (x y : V), SqK K k1 H a xs ∧ SqK K k2 H b ys ∧ xs[i]? = some x ∧ ys[i]? = some y,
    fun i H v H' => ∃ T x y, v = .ref T ∧ H T = none ∧ H' = upd H T (.tup [x, y]) ∧ (∀ xs, SqK K k1 H a xs → xs[i]? = some x) ∧ ∀ ys, SqK K k2 H b ys → ys[i]? = some y,
    fun i H => ∃ xs ys : List V, SqK K k1 H a xs ∧ SqK K k2 H b ys ∧ min xs.length ys.length = i⟩
theorem turn_zp {P : Program} {w : World} {K : PySem.W.Frag} {k1 k2 : Kd} {elts : List Expr} {kk : Nat} {tpos : Pos} {z TI TO i1 i2 : Addr} (a b : Addr) (S : ZipSep2 z TI TO i1 i2 [i1, a] [i2, b]) (ha1 : a ≠ i1) (hb2 : b ≠ i2) :
    Turn P w K (.Tuple elts kk tpos) (ItZ K k1 k2 a b) [z, TI, TO, i1, i2] z (fun i h => IsZip h z TI TO .none ∧ IsTupOf2 h TI (.ref i1) (.ref i2) ∧ (∃ x y, IsTupOf2 h TO x y) ∧ ItS k1 h i1 a i ∧ ItS k2 h i2 b i) where
  mem := by simp
  obj := fun i h st c hc => by
    obtain ⟨hz, hTI, ⟨x, y, hTO⟩, h1, h2⟩ := st
    simp only [List.mem_cons, List.not_mem_nil, or_false] at hc
    rcases hc with q | q | q | q | q
    · rw [q]; exact ⟨_, hz, fun v q => nomatch q⟩
    · rw [q]; exact ⟨_, hTI, fun v q => nomatch q⟩
    · rw [q]; exact ⟨_, hTO, fun v q => nomatch q⟩
    · rw [q]; exact its_obj h1
    · rw [q]; exact its_obj h2
  keep := fun i h h' st kp => ⟨kp z (by simp) _ st.1, kp TI (by simp) _ st.2.1, st.2.2.1.imp fun x hx => hx.imp fun y hy => kp TO (by simp) _ hy, its_at st.2.2.2.1 fun o q => kp i1 (by simp) o q, its_at st.2.2.2.2 fun o q => kp i2 (by simp) o q⟩
  item := by
    intro X hP hw hK hc i pins s σ H E I hf st hg
    subst hP hw hK
    obtain ⟨hz, hTI, hTO, h1, h2⟩ := st
    obtain ⟨xs, ys, x, y, hqx, hqy, hx, hy⟩ := hg
    obtain ⟨its, rv, p⟩ := sqk_vals I hqx
    obtain ⟨its2, rv2, p2⟩ := sqk_vals I hqy
    obtain ⟨u, hu, ru⟩ := rv.get hx
    obtain ⟨u2, hu2, ru2⟩ := rv2.get hy
    have W := WalksT.zipD2 (prog := X.prog) (w := X.w) (A := X.A) S (draws_k (A := X.A.in1) k1 (I.ok.hd hc) i1 a ha1 its.toArray) (draws_k (A := X.A.in1) k2 (I.ok.hd hc) i2 b hb2 its2.toArray)
    have hlt : i < min its.toArray.size its2.toArray.size := by
      have q1 := (List.getElem?_eq_some_iff.mp hu).1
      have q2 := (List.getElem?_eq_some_iff.mp hu2).1
      simp only [List.size_toArray]
      omega
    refine W.item i s _ E hlt ⟨hz, hTI, hTO, ⟨h1, p⟩, h2, p2⟩ fun T vals h' tk hp hle hT mid hk => ?_
    obtain ⟨x1, x2, hx1, hx2, rfl⟩ := hp
    have e1 : x1 = u := by
      have h3 : its[i]? = some x1 := by simpa using hx1
      rw [hu] at h3; exact (Option.some.inj h3).symm
    have e2 : x2 = u2 := by
      have h3 : its2[i]? = some x2 := by simpa using hx2
      rw [hu2] at h3; exact (Option.some.inj h3).symm
    subst e1 e2
    have nT : T ∉ [z, TO, i1, i2] := W.apart _ _ _ mid
    refine ⟨.ref T, rfl, W.go elts kk tpos i T { s with heap := h', toks := tk } _ E mid fun h'' st'' hk2 => ?_⟩
    have hT2 : h''.IsTuple T #[x1, x2] := hT.at fun o q => hk2 T o nT q
    have new : ObjOk X.prog X.w (upd H T (.tup [x, y])) h'' T (.tup [x, y]) :=
      ⟨by show 2 ≤ sizeLine; decide, [x1, x2], .cons ru (.cons ru2 .nil), hT2⟩
    have sub : ∀ c, c ∉ [z, TI, TO, i1, i2] → c ∉ [z, TO, i1, i2] := fun c hn hm => hn (by
      simp only [List.mem_cons, List.not_mem_nil, or_false] at hm ⊢
      rcases hm with q | q | q | q <;> simp [q])
    have I1 : Inv X pins σ (upd H T (.tup [x, y])) { s with heap := h'', toks := tk } :=
      I.turnedNew (ch := [z, TI, TO, i1, i2]) (fun c ob hb q => hk2 c ob (sub c hb) (hk c ob (sub c hb) q)) hf hle new
    refine ⟨.ref T, _, I1, rfl, ⟨T, x, y, rfl, I.hok.fresh hle, rfl, fun l hl => by rw [sqk_inj I hl hqx]; exact hx, fun l hl => by rw [sqk_inj I hl hqy]; exact hy⟩,
      ⟨st''.1, st''.2.1, st''.2.2.1, st''.2.2.2.1.1, st''.2.2.2.2.1⟩, fun c hcm => ?_⟩
    have hcs : ∃ o, s.heap.get? c = some o := by
      simp only [List.mem_cons, List.not_mem_nil, or_false] at hcm
      rcases hcm with q | q | q | q | q
      · rw [q]; exact ⟨_, hz⟩
      · rw [q]; exact ⟨_, hTI⟩
      · rw [q]; obtain ⟨_, _, q⟩ := hTO; exact ⟨_, q⟩
      · rw [q]; obtain ⟨o, q, _⟩ := its_obj h1; exact ⟨o, q⟩
      · rw [q]; obtain ⟨o, q, _⟩ := its_obj h2; exact ⟨o, q⟩
    obtain ⟨o, ho⟩ := hcs
    rw [upd_ne (Nat.ne_of_lt (Nat.lt_of_lt_of_le (Heap.lt_size ho) hle))]
    exact (hf c hcm).1
  done := by
    intro X hP hw hK hc i pins s σ H E I hf st hg
    subst hP hw hK
    obtain ⟨hz, hTI, hTO, h1, h2⟩ := st
    obtain ⟨xs, ys, hqx, hqy, hend⟩ := hg
    obtain ⟨its, rv, p⟩ := sqk_vals I hqx
    obtain ⟨its2, rv2, p2⟩ := sqk_vals I hqy
    have W := WalksT.zipD2 (prog := X.prog) (w := X.w) (A := X.A) S (draws_k (A := X.A.in1) k1 (I.ok.hd hc) i1 a ha1 its.toArray) (draws_k (A := X.A.in1) k2 (I.ok.hd hc) i2 b hb2 its2.toArray)
    have hl : min its.toArray.size its2.toArray.size = i := by
      rw [List.size_toArray, List.size_toArray, ← rv.length, ← rv2.length]; exact hend
    refine W.done s _ E (by rw [hl]; exact ⟨hz, hTI, hTO, ⟨h1, p⟩, h2, p2⟩) fun h' tk hk => ⟨rfl, I.turnedL (ch := [z, TI, TO, i1, i2]) (fun c o hb q => hk c o (fun hm => hb ?_) q) hf⟩
    simp only [List.mem_cons, List.not_mem_nil, or_false] at hm ⊢
    rcases hm with q | q | q | q <;> simp [q]
  self := fun A i s Q E st h => wpAny_pyIter_zip st.1 h
def iZp (K : PySem.W.Frag) (ta : TA) : TI := fun σ H R => ta σ H fun vs H1 => ∃ k1 k2 a b xs ys, vs = [.ref a, .ref b] ∧ SqK K k1 H1 a xs ∧ SqK K k2 H1 b ys ∧ R (ItZ K k1 k2 a b) H1
theorem pi_zp {X : Cx} {e e2 : Expr} {ta : TA} {p pos tpos : Pos} {elts : List Expr} {kk : Nat} (hg : Gl X "zip") (hm : X.mg "zip" = none) (ha : PA X [e, e2] ta)
    (hs : starEach [e, e2] X.env = (false, eval e X.env) :: starEach [e2] X.env := by rfl) (hpl : (backTo pos (starEach [e2] X.env)).any (·.1) = false := by rfl) :
    PI X (.Tuple elts kk tpos) (.Call (.Name "zip" p) [e, e2] [] pos) (iZp X.K ta) := by
  refine ⟨fun pins s σ H R I h => Call_ (ld_blt I hg hm PyProof.Rows.boot_zip (PyProof.Rows.callWith_type1 (thn (ha.run pos pins s σ H _ I h) fun us s1 ⟨vs, H1, I1, r1, q1⟩ => ?_) hs hpl))⟩
  obtain ⟨k1, k2, a, b, xs, ys, rfl, hqx, hqy, q⟩ := q1
  cases r1 with
  | cons r rr =>
   cases rr with
   | cons r' rr =>
    cases rr
    cases r
    cases r'
    obtain ⟨its, rv, p1⟩ := sqk_vals I1 hqx
    obtain ⟨its2, rv2, p2⟩ := sqk_vals I1 hqy
    obtain ⟨oa, ho⟩ := iss_lt p1
    obtain ⟨ob, ho2⟩ := iss_lt p2
    have hal : a < s1.heap.objs.size := Heap.lt_size ho
    have hbl : b < s1.heap.objs.size := Heap.lt_size ho2
    refine zip_begins2 (begins_k k1 a its.toArray) (begins_k k2 b its2.toArray) p1 p2 fun h' hz hTI hTO h1 h2 hsz hk => wpAny_pyIter_zip hz ?_
    have I2 : Inv X pins σ H1 { s1 with heap := h' } := I1.kept (t' := s1.toks) hk
    refine ⟨s1.heap.objs.size + 4, [s1.heap.objs.size + 4, s1.heap.objs.size + 2, s1.heap.objs.size + 3, s1.heap.objs.size, s1.heap.objs.size + 1], _, _, H1, rfl, I2,
      turn_zp a b (zip_sep2 (N := s1.heap.objs.size) (fp1 := [a]) (fp2 := [b]) (by simpa using hal) (by simpa using hbl)) (Nat.ne_of_lt hal) (Nat.ne_of_lt (Nat.lt_succ_of_lt hbl)), ⟨hz, hTI, ⟨_, _, hTO⟩, its_begin h1, its_begin h2⟩, fun c hcm => ?_, q⟩
    have hle : s1.heap.objs.size ≤ c := by
      simp only [List.mem_cons, List.not_mem_nil, or_false] at hcm
      rcases hcm with z | z | z | z | z
      · rw [z]; exact Nat.le_add_right _ _
      · rw [z]; exact Nat.le_add_right _ _
      · rw [z]; exact Nat.le_add_right _ _
      · rw [z]; exact Nat.le_refl _
      · rw [z]; exact Nat.le_add_right _ _
    exact I1.fpOk hle (I1.hok.fresh hle)
end DL
namespace DL
open PySem PySem.Spec PyProof.Rows L2
variable [TabsCtx]
/-- where the items stand, now and later -/
def Src (K : PySem.W.Frag) (B : List Addr) (k : Kd) (a : Addr) (items : List D) (ws : List Nat) (s1 : Store) (H1 : Hp) (m1 : List Addr) : Prop :=
  ∀ (B' : List Addr) (H : Hp) (m : List Addr) (st : Store), (∀ b ∈ B', b ∈ B ∨ H1 b = none) → Evo H1 m1 H m → RepSt ⟨K, B'⟩ H m st → sameAt ws s1 st = true → ∃ vs, SqK K k H a vs ∧ RepL ⟨K, B'⟩ H m items vs
theorem seqI_src {K : PySem.W.Frag} {B : List Addr} {H1 : Hp} {m1 : List Addr} {s1 : Store} {d : D} {x : V} {p : List D × List Nat} (rs : RepSt ⟨K, B⟩ H1 m1 s1) (r : Rep ⟨K, B⟩ H1 m1 d x) (hp : seqI s1 d = some p) :
    ∃ a k, x = .ref a ∧ (∃ xs, SqK K k H1 a xs) ∧ Src K B k a p.1 p.2 s1 H1 m1 := by
  cases d with
  | tup ds =>
    cases hp
    obtain ⟨a, vs, rfl, h1, h2⟩ := Rep.tup_iff.mp r
    have key : ∀ {H : Hp} {m : List Addr}, Evo H1 m1 H m → SqT K H a vs := fun {H m} e => by
      rcases h1 with ⟨h1, n, _⟩ | h1
      · exact .inl (e.rd h1 n).1
      · exact .inr h1
    exact ⟨a, .t, rfl, ⟨vs, key .refl⟩, fun B' H m st hb e rs' _ => ⟨vs, key e, RepL.evo e _ _ (h2.ban hb)⟩⟩
  | lst ds =>
    cases hp
    obtain ⟨a, vs, rfl, h1, h2⟩ := Rep.lst_iff.mp r
    exact ⟨a, .l, rfl, ⟨vs, .of h1.1⟩, fun B' H m st hb e rs' _ => ⟨vs, .of (e.keep a _ h1.1 h1.2.1 (fun _ z => nomatch z)).1, RepL.evo e _ _ (h2.ban hb)⟩⟩
  | rol ds =>
    cases hp
    obtain ⟨a, vs, rfl, h1, h2⟩ := Rep.rol_iff.mp r
    have key : ∀ {H : Hp} {m : List Addr}, Evo H1 m1 H m → SqL K H a vs := fun {H m} e => by
      rcases h1 with ⟨⟨o, h1⟩, n, _⟩ | h1
      · exact .inl (.inr ⟨o, (e.keep a _ h1 n (fun _ z => nomatch z)).1⟩)
      · exact .inr h1
    exact ⟨a, .l, rfl, ⟨vs, key .refl⟩, fun B' H m st hb e rs' _ => ⟨vs, key e, RepL.evo e _ _ (h2.ban hb)⟩⟩
  | loc l =>
    simp only [seqI] at hp
    cases hq : s1[l]? with
    | none => rw [hq] at hp; cases hp
    | some c =>
      rw [hq] at hp
      cases c with
      | lst ds =>
        cases hp
        obtain ⟨a, vs, rfl, hm, hH, rl⟩ := loc_lst rs r hq
        refine ⟨a, .l, rfl, ⟨vs, .of hH⟩, fun B' H m st hb e rs' w => ?_⟩
        obtain ⟨c, q1, q2⟩ := sameAt_get w (List.mem_singleton.mpr rfl)
        rw [hq] at q1; cases q1
        obtain ⟨b, h3, vs', h4, h5⟩ := rs'.cell l _ q2
        rw [e.get hm] at h3; cases h3
        exact ⟨vs', .of h4, h5⟩
      | dic _ => cases hp
      | dik _ => cases hp
      | ins _ _ => cases hp
  | _ => cases hp
/-- the items with their numbers -/
def enum0 : Nat → List D → List D
  | _, [] => []
  | n, d :: ds => .tup [.int (n : Nat), d] :: enum0 (n + 1) ds
theorem enum0_length : ∀ (n : Nat) (ds : List D), (enum0 n ds).length = ds.length
  | _, [] => rfl
  | n, d :: ds => by simp [enum0, enum0_length (n + 1) ds]
theorem enum0_get : ∀ (n : Nat) (ds : List D) (i : Nat), (enum0 n ds)[i]? = ds[i]?.map fun d => .tup [.int (n + i : Nat), d]
  | _, [], i => by simp [enum0]
  | n, d :: ds, 0 => by simp [enum0]
  | n, d :: ds, i + 1 => by
    have e : n + 1 + i = n + (i + 1) := by omega
    simp [enum0, enum0_get (n + 1) ds i, e]
def zip2 : List D → List D → List D
  | a :: as, b :: bs => .tup [a, b] :: zip2 as bs
  | _, _ => []
theorem zip2_length : ∀ (xs ys : List D), (zip2 xs ys).length = min xs.length ys.length
  | [], ys => by simp [zip2]
  | _ :: _, [] => by simp [zip2]
  | a :: as, b :: bs => by simp [zip2, zip2_length as bs]
theorem zip2_get : ∀ (xs ys : List D) (i : Nat) (d : D), (zip2 xs ys)[i]? = some d → ∃ a b, xs[i]? = some a ∧ ys[i]? = some b ∧ d = .tup [a, b]
  | [], ys, i, d, h => by simp [zip2] at h
  | _ :: _, [], i, d, h => by simp [zip2] at h
  | a :: as, b :: bs, 0, d, h => by simp [zip2] at h; exact ⟨a, b, rfl, rfl, h.symm⟩
  | a :: as, b :: bs, i + 1, d, h => by simp [zip2] at h; simpa using zip2_get as bs i d h
section
variable {K : PySem.W.Frag} {B : List Addr} {H1 : Hp} {m1 : List Addr} {s1 : Store}
theorem it_en {k : Kd} {a : Addr} {items : List D} {ws : List Nat} (S : Src K B k a items ws s1 H1 m1) : ItRep K B (ItE K k a) (enum0 0 items) ws s1 H1 m1 := by
  refine ⟨fun B' i H m st hb hi e rs w => ?_, fun B' H m st hb e rs w => ?_, fun B' i d H m st x H' hb hi e rs w y => ?_⟩
  · obtain ⟨vs, q, r⟩ := S B' H m st hb e rs w
    rw [enum0_length] at hi
    have hv : i < vs.length := by rw [← r.length]; exact hi
    exact ⟨vs, vs[i], q, by simp [hv]⟩
  · obtain ⟨vs, q, r⟩ := S B' H m st hb e rs w
    exact ⟨vs, q, by rw [enum0_length, r.length]⟩
  · obtain ⟨vs, q, r⟩ := S B' H m st hb e rs w
    obtain ⟨T, v, rfl, hT, rfl, hv⟩ := y
    have hx := hv vs q
    rw [enum0_get] at hi
    cases hd : items[i]? with
    | none => rw [hd] at hi; cases hi
    | some di =>
      rw [hd] at hi
      cases hi
      obtain ⟨v', h1, h2⟩ := r.get hd
      rw [hx] at h1; cases h1
      refine ⟨Grow.upd hT, ?_⟩
      have e1 : (0 + i : Nat) = i := Nat.zero_add i
      rw [e1]
      exact Rep.newT rs hT (.cons (Rep.int_iff.mpr rfl) (.cons h2 .nil))
theorem it_zp {k1 k2 : Kd} {a b : Addr} {it1 it2 : List D} {w1 w2 : List Nat} (S1 : Src K B k1 a it1 w1 s1 H1 m1) (S2 : Src K B k2 b it2 w2 s1 H1 m1) : ItRep K B (ItZ K k1 k2 a b) (zip2 it1 it2) (w1 ++ w2) s1 H1 m1 := by
  have spl : ∀ {st : Store}, sameAt (w1 ++ w2) s1 st = true → sameAt w1 s1 st = true ∧ sameAt w2 s1 st = true := fun {st} h => by
    unfold sameAt at h ⊢
    rw [List.all_append, Bool.and_eq_true] at h
    exact h
  refine ⟨fun B' i H m st hb hi e rs w => ?_, fun B' H m st hb e rs w => ?_, fun B' i d H m st x H' hb hi e rs w y => ?_⟩
  · obtain ⟨vs, q, r⟩ := S1 B' H m st hb e rs (spl w).1
    obtain ⟨us, q', r'⟩ := S2 B' H m st hb e rs (spl w).2
    rw [zip2_length] at hi
    have hv : i < vs.length := by rw [← r.length]; omega
    have hu : i < us.length := by rw [← r'.length]; omega
    exact ⟨vs, us, vs[i], us[i], q, q', by simp [hv], by simp [hu]⟩
  · obtain ⟨vs, q, r⟩ := S1 B' H m st hb e rs (spl w).1
    obtain ⟨us, q', r'⟩ := S2 B' H m st hb e rs (spl w).2
    exact ⟨vs, us, q, q', by rw [zip2_length, r.length, r'.length]⟩
  · obtain ⟨vs, q, r⟩ := S1 B' H m st hb e rs (spl w).1
    obtain ⟨us, q', r'⟩ := S2 B' H m st hb e rs (spl w).2
    obtain ⟨T, v, u, rfl, hT, rfl, hv, hu⟩ := y
    have hx := hv vs q
    have hy := hu us q'
    obtain ⟨da, db, ha, hb', rfl⟩ := zip2_get _ _ _ _ hi
    obtain ⟨v', h1, h2⟩ := r.get ha
    obtain ⟨u', h3, h4⟩ := r'.get hb'
    rw [hx] at h1; cases h1
    rw [hy] at h3; cases h3
    exact ⟨Grow.upd hT, Rep.newT rs hT (.cons h2 (.cons h4 .nil))⟩
end
def enI (st : Store) : List D → Option (List D × List Nat)
  | [d] => (seqI st d).map fun p => (enum0 0 p.1, p.2)
  | _ => none
def zpI (st : Store) : List D → Option (List D × List Nat)
  | [d, e] => (seqI st d).bind fun p => (seqI st e).map fun q => (zip2 p.1 q.1, p.2 ++ q.2)
  | _ => none
def iSt (g : Store → List D → Option (List D × List Nat)) (fa : Fa) : Fi := fun ρ st => (fa ρ st).bind fun ds s1 => liftI (g s1 ds) s1
section
variable {X : Cx} {W : WX} {fa : Fa} {p pos tpos : Pos} {elts : List Expr} {kk : Nat}
theorem di_en {e : Expr} (hm : X.mg "enumerate" = none) (ha : DA X W [e] fa) (hg : Gl X "enumerate" := by rfl) (hs : starEach [e] X.env = [(false, eval e X.env)] := by rfl) : DI X W (.Tuple elts kk tpos) (.Call (.Name "enumerate" p) [e] [] pos) (iSt enI fa) := by
  obtain ⟨⟨t, pt, q⟩, _⟩ := ha
  refine ⟨_, pi_en hg hm pt hs, fun B σ H ρ st m R re rs h => ?_⟩
  refine q B σ H ρ st m _ re rs (good_bindI h fun ds s1 vs H1 m1 e1 r1 rs1 h1 => ?_)
  match ds, h1, r1 with
  | [d], h1, r1 =>
    obtain ⟨v, r, rfl, rd, r1⟩ := r1.inv_cons
    cases r1.inv_nil
    simp only [enI] at h1
    cases hp : seqI s1 d with
    | none => rw [hp] at h1; exact h1.elim
    | some p =>
      rw [hp] at h1
      obtain ⟨a, k, rfl, ⟨xs, hq⟩, S⟩ := seqI_src rs1 rd hp
      exact ⟨k, a, xs, rfl, hq, h1 _ H1 m1 .refl rs1 (it_en S)⟩
  | [], h1, _ => exact h1.elim
  | _ :: _ :: _, h1, _ => exact h1.elim
theorem di_zp {e e2 : Expr} (hm : X.mg "zip" = none) (ha : DA X W [e, e2] fa) (hg : Gl X "zip" := by rfl) (hs : starEach [e, e2] X.env = (false, eval e X.env) :: starEach [e2] X.env := by rfl) (hpl : (backTo pos (starEach [e2] X.env)).any (·.1) = false := by rfl) :
    DI X W (.Tuple elts kk tpos) (.Call (.Name "zip" p) [e, e2] [] pos) (iSt zpI fa) := by
  obtain ⟨⟨t, pt, q⟩, _⟩ := ha
  refine ⟨_, pi_zp hg hm pt hs hpl, fun B σ H ρ st m R re rs h => ?_⟩
  refine q B σ H ρ st m _ re rs (good_bindI h fun ds s1 vs H1 m1 e1 r1 rs1 h1 => ?_)
  match ds, h1, r1 with
  | [d, d'], h1, r1 =>
    obtain ⟨v, r, rfl, rd, r1⟩ := r1.inv_cons
    obtain ⟨v', r, rfl, rd', r1⟩ := r1.inv_cons
    cases r1.inv_nil
    simp only [zpI] at h1
    cases hp : seqI s1 d with
    | none => rw [hp] at h1; exact h1.elim
    | some p =>
      cases hp' : seqI s1 d' with
      | none => rw [hp, hp'] at h1; exact h1.elim
      | some p' =>
        rw [hp, hp'] at h1
        obtain ⟨a, k, rfl, ⟨xs, hq⟩, S⟩ := seqI_src rs1 rd hp
        obtain ⟨a', k', rfl, ⟨xs', hq'⟩, S'⟩ := seqI_src rs1 rd' hp'
        exact ⟨k, k', a, a', xs, xs', rfl, hq, hq', h1 _ H1 m1 .refl rs1 (it_zp S S')⟩
  | [], h1, _ => exact h1.elim
  | [_], h1, _ => exact h1.elim
  | _ :: _ :: _ :: _, h1, _ => exact h1.elim
end
end DL
namespace DL
open PySem PySem.Spec PyProof.Rows L2
variable [TabsCtx]
section
variable (l : Addr) (items : Array Value) (n : Nat) (dd : Option Addr) (sl : Array (Option Value)) (u : Tok)
theorem tmul_one :
    Meets (Builtin.«tuple.__mul__» ⟨[.ref l, .int 1 u], []⟩) (fun _ R s => s.heap.get? l = some { cls := .type "tuple", dict := dd, data := .seq items n, slots := sl } ∧ R (.ok (.ret (.ref l))) s) :=
  .of_wp fun prog w A R s h => by
    obtain ⟨hp, g, d, tk, os⟩ := s
    obtain ⟨hl, h⟩ := h
    have f1 := AutoSeq1.idx_int
    wp_walk using wpAny_loadPart' hl
    exact ⟨_, rfl, h⟩
theorem tmul_zero (k : Int) (hk : -(2 ^ 63) ≤ k) (hk0 : k ≤ 0) (hi : items.isEmpty = false) :
    Meets (Builtin.«tuple.__mul__» ⟨[.ref l, .int k u], []⟩) (fun _ R s => s.heap.get? l = some { cls := .type "tuple", dict := dd, data := .seq items n, slots := sl } ∧
      R (.ok (.ret (.ref s.heap.objs.size))) { s with heap := s.heap.push { cls := .type "tuple", data := .seq #[] } }) :=
  .of_wp fun prog w A R s h => by
    obtain ⟨hp, g, d, tk, os⟩ := s
    obtain ⟨hl, h⟩ := h
    have f1 := AutoSeq1.idx_int
    have c0 : (decide (k < -(2 ^ 63)) || decide (k ≥ 2 ^ 63)) = false := by
      rw [decide_eq_false (by omega), decide_eq_false (by omega)]; rfl
    have c1 : (items.isEmpty || k == 1) = false := by
      rw [hi, Bool.false_or]; exact beq_eq_false_iff_ne.mpr (by omega)
    have c2 : (decide (k ≤ 0) || items.isEmpty) = true := by rw [decide_eq_true hk0]; rfl
    wp_walk using wpAny_loadPart' hl
    repeat (first
      | (refine wpAny_ite_false (decide_eq_false fun z => by rw [c0] at z; cases z) ?_; wp_walk using wpAny_loadPart' hl)
      | (refine wpAny_ite_false (decide_eq_false fun z => by rw [c1] at z; cases z) ?_; wp_walk using wpAny_loadPart' hl)
      | (refine wpAny_ite_true (decide_eq_true c2) ?_; wp_walk using wpAny_loadPart' hl))
    exact ⟨_, rfl, h⟩
end
def rTmulOne (K : PySem.W.Frag) : R2 := fun x y H Q => ∃ l k xs, x = .ref l ∧ y = .int k ∧ SqT K H l xs ∧ xs ≠ [] ∧ -(2 ^ 63) ≤ k ∧ ((k = 1 ∧ Q x H) ∨ (k ≤ 0 ∧ ∀ p, H p = none → Q (.ref p) (upd H p (.tup []))))
section
variable {X : Cx}
theorem op_tmulOne : OpR X (binaryOp .Mult) (rTmulOne X.K) := by
  intro pins s σ H x y v u Q I rx ry h
  obtain ⟨l, k, xs, rfl, rfl, hT, hne, hlo, h⟩ := h
  cases rx
  obtain ⟨t, rfl⟩ := ry
  obtain ⟨its, r, ⟨⟨cls, dd, data, sl⟩, ho, hc, n, hd⟩, hs⟩ := I.tuple hT
  simp only at hc hd
  subst hc hd
  have hi : its.toArray.isEmpty = false := by
    cases its with
    | nil => cases r; exact absurd rfl hne
    | cons a b => rfl
  rcases h with ⟨rfl, q⟩ | ⟨hk, q⟩
  · exact wpAny_binaryOp_repeat_ref (T := "tuple") (U := "int") (by decide) ⟨_, ho, rfl⟩ (fun s' => typeIs_int s' 1 t) noFill_tuple_mul F.fills_int_mul F.slot_int_rmul repeat_tuple F.slot_int_index.lookup
      (call_meets F.slot_int_rmul (typeIs_int s 1 t) F.entry_int_rmul (F.args_int_rmul_2 _ _) (int_rmul_tuple 1 t l its.toArray n dd sl)
        ⟨ho, rfl, ⟨_, ho, rfl⟩, call_meets F.slot_tuple_mul ⟨_, ho, rfl⟩ F.entry_tuple_mul (F.args_tuple_mul_2 _ _) (tmul_one l its.toArray n dd sl t) ⟨ho, .ref l, H, I, rfl, q⟩⟩)
  · refine wpAny_binaryOp_repeat_ref (T := "tuple") (U := "int") (by decide) ⟨_, ho, rfl⟩ (fun s' => typeIs_int s' k t) noFill_tuple_mul F.fills_int_mul F.slot_int_rmul repeat_tuple F.slot_int_index.lookup
      (call_meets F.slot_int_rmul (typeIs_int s k t) F.entry_int_rmul (F.args_int_rmul_2 _ _) (int_rmul_tuple k t l its.toArray n dd sl)
        ⟨ho, rfl, ⟨_, ho, rfl⟩, call_meets F.slot_tuple_mul ⟨_, ho, rfl⟩ F.entry_tuple_mul (F.args_tuple_mul_2 _ _) (tmul_zero l its.toArray n dd sl t k hlo hk hi) ⟨ho, ?_⟩⟩)
    have hp : H s.heap.objs.size = none := I.hok.fresh (Nat.le_refl _)
    exact ⟨.ref s.heap.objs.size, _, I.laid (t' := s.toks) (o := .tup []) (fun b ob e => Heap.get?_push_of_some _ e) (Nat.le_refl _) ⟨Nat.zero_le _, [], .nil, IsTup.new _ _⟩, rfl, q _ hp⟩
/-- a tuple times any moderate number, else as before -/
def gMulT : G2 := fun st a b => match a, b with
  | .tup x, .int k => if x = [] then none else if k = 1 then some (.tup x) else if k ≤ 0 then (if -(2 ^ 63) ≤ k then some (.tup []) else none) else gMul st (.tup x) (.int k)
  | a, b => gMul st a b
theorem dop_mulT : DOp X (binaryOp .Mult) gMulT := by
  obtain ⟨r0, h0, q0⟩ := dop_mul (X := X)
  refine ⟨_, op_tmulOne.or h0, fun B x y H m st da db d Q rs ra rb h q => ?_⟩
  have other : gMul st da db = some d → (r0 x y H Q) := fun h => q0 B x y H m st da db d Q rs ra rb h q
  unfold gMulT at h
  split at h
  · rename_i ds k
    split at h
    · cases h
    rename_i hne
    obtain ⟨a, vs, rfl, hq, rl⟩ := ra.tup_sq
    have hvs : vs ≠ [] := fun e => hne (by
      have := rl.length
      rw [e] at this
      exact List.eq_nil_of_length_eq_zero this)
    cases Rep.int_iff.mp rb
    split at h
    · rename_i e
      cases h
      exact .inl ⟨a, k, vs, rfl, rfl, hq, hvs, by omega, .inl ⟨e, q _ H Grow.refl ra⟩⟩
    · split at h
      · rename_i hk
        split at h
        · rename_i hlo
          cases h
          exact .inl ⟨a, k, vs, rfl, rfl, hq, hvs, hlo, .inr ⟨hk, fun p hp => q _ _ (Grow.upd hp) (Rep.newT rs hp .nil)⟩⟩
        · cases h
      · exact .inr (other h)
  · exact .inr (other h)
end
end DL
namespace DL
open PySem PySem.Spec PyProof.Rows L2
variable [TabsCtx]
def showD (p : PyData) : Bool := p.showable && decide (p.shown.length ≤ sizeLine) && !p.hasDict && decide (p.depth < 60)
def gRepr : GL := fun st ds => match ds with
  | [d] => (toPyT st d).bind fun p => if showD p = true then some (.str p.shown) else none
  | _ => none
section
variable {X : Cx}
def rReprD (K : PySem.W.Frag) : List V → Hp → VK → Prop := fun xs H Q => ∃ v p, xs = [v] ∧ Dp K H v p ∧ showD p = true ∧ Q (.str p.shown) H
theorem call_reprD (hg : X.A.guards = some []) (hu : X.A.units + 64 < cLine) : CallR X (.builtin "repr") (rReprD X.K) := by
  intro pins s σ H xs us Q I r h
  obtain ⟨v, p, rfl, hd, hs, q⟩ := h
  unfold showD at hs
  simp only [Bool.and_eq_true, Bool.not_eq_true', decide_eq_true_eq] at hs
  obtain ⟨⟨⟨h1, h2⟩, h3⟩, h4⟩ := hs
  obtain ⟨u, rfl, ru⟩ := vals1 r
  obtain ⟨as, rd⟩ := Dp.reads I p v u hd ru
  cases p with
  | none =>
    cases rd
    exact PySem.P.repr_of_none ⟨.str _, H, I.tok _, ⟨_, rfl⟩, q⟩
  | bool b =>
    cases rd
    exact PySem.P.repr_of_bool ⟨.str _, H, I.tok _, ⟨_, rfl⟩, by cases b <;> exact q⟩
  | int i =>
    cases rd
    exact PySem.P.repr_of_int (of_decide_eq_true h1) ⟨.str _, H, I.tok _, ⟨_, rfl⟩, q⟩
  | str x =>
    cases rd
    exact PySem.P.repr_of_str ⟨.str _, H, I.tok _, ⟨_, rfl⟩, q⟩ h2
  | list xs =>
    cases rd with
    | list e1 e2 e3 e4 => exact repr_of_reads' (.list e1 e2 e3 e4) h1 (PyData.noDict_hsm h3) hg (by omega) (fun _ _ e => e) (fun h' t tk hk => ⟨.str _, H, I.kept (t' := tk) hk, ⟨_, rfl⟩, q⟩) h2
  | tuple xs =>
    cases rd with
    | tuple e1 e2 e3 e4 => exact repr_of_reads' (.tuple e1 e2 e3 e4) h1 (PyData.noDict_hsm h3) hg (by omega) (fun _ _ e => e) (fun h' t tk hk => ⟨.str _, H, I.kept (t' := tk) hk, ⟨_, rfl⟩, q⟩) h2
  | dict kvs => cases h3
theorem dc_repr (hg : X.A.guards = some []) (hu : X.A.units + 64 < cLine) : DCall X (.builtin "repr") gRepr := ⟨_, call_reprD hg hu, fun B xs H m st ds d Q rs r h q => by
  unfold gRepr at h
  split at h
  · obtain ⟨v, rfl, r1⟩ := one_inv r
    obtain ⟨p, h1, h⟩ := Option.bind_eq_some_iff.mp h
    split at h
    · rename_i hs
      cases h
      exact ⟨v, p, rfl, toPyT_dp rs r1 h1, hs, q _ H Grow.refl (Rep.str_iff.mpr rfl)⟩
    · cases h
  · cases h⟩
/-- sorted of ints -/
def gSortI : GL := fun st ds => match ds with
  | [d] => (lstV st d).bind fun xs => (dInts xs).bind fun ns => some (.lst ((srtI ns).map D.int))
  | _ => none
theorem dc_sortI : DCall X (.builtin "sorted") gSortI := ⟨_, cr_sortedI, fun B xs H m st ds d Q rs r h q => by
  unfold gSortI at h
  split at h
  · obtain ⟨v, rfl, r1⟩ := one_inv r
    obtain ⟨ys, h1, h⟩ := Option.bind_eq_some_iff.mp h
    obtain ⟨ns, h2, h⟩ := Option.bind_eq_some_iff.mp h
    cases h
    obtain ⟨a, vs, rfl, hs, rl⟩ := lstV_rep rs r1 h1
    obtain ⟨rfl, _⟩ := dInts_rep rl h2
    refine ⟨a, ns, rfl, hs, fun ns' p hp hs' hn => ?_⟩
    cases sorted_one (hp.trans (srtI_perm ns).symm) hs' (srtI_sorted ns)
    exact q _ _ (Grow.upd hn) (Rep.newL rs hn (RepL.ints _))
  · cases h⟩
end
end DL
namespace DL
open PySem PySem.Spec PyProof.Rows L2
variable [TabsCtx]
section
variable {α β : Type}
def insK (p : Int × α) : List (Int × α) → List (Int × α)
  | [] => [p]
  | q :: r => if p.1 ≤ q.1 then p :: q :: r else q :: insK p r
def srtK : List (Int × α) → List (Int × α)
  | [] => []
  | p :: r => insK p (srtK r)
theorem insK_perm (p : Int × α) : ∀ l : List (Int × α), (insK p l).Perm (p :: l)
  | [] => .refl _
  | q :: r => by
    unfold insK
    split
    · exact .refl _
    · exact ((insK_perm p r).cons q).trans (.swap p q r)
theorem srtK_perm : ∀ l : List (Int × α), (srtK l).Perm l
  | [] => .refl _
  | p :: r => (insK_perm p _).trans ((srtK_perm r).cons p)
theorem insK_sorted (p : Int × α) : ∀ l : List (Int × α), l.Pairwise (fun x y => x.1 ≤ y.1) → (insK p l).Pairwise (fun x y => x.1 ≤ y.1)
  | [], _ => by simp [insK]
  | q :: r, h => by
    obtain ⟨h1, h2⟩ := List.pairwise_cons.mp h
    unfold insK
    split
    · rename_i hle
      refine List.pairwise_cons.mpr ⟨fun y hy => ?_, h⟩
      rcases List.mem_cons.mp hy with e | hy
      · rw [e]; exact hle
      · exact Int.le_trans hle (h1 y hy)
    · rename_i hle
      refine List.pairwise_cons.mpr ⟨fun y hy => ?_, insK_sorted p r h2⟩
      rcases List.mem_cons.mp ((insK_perm p r).mem_iff.mp hy) with e | hy
      · rw [e]; omega
      · exact h1 y hy
theorem srtK_sorted : ∀ l : List (Int × α), (srtK l).Pairwise (fun x y => x.1 ≤ y.1)
  | [] => .nil
  | p :: r => insK_sorted p _ (srtK_sorted r)
/-- each number once: one order -/
theorem srtK_one {l m : List (Int × α)} (p : m.Perm l) (h : m.Pairwise (fun x y => x.1 ≤ y.1)) (nd : (l.map Prod.fst).Nodup) : m = srtK l := by
  have inj : ∀ x y : Int × α, x ∈ l → y ∈ l → x.1 = y.1 → x = y := fun x y hx hy e => by
    have : ∀ (l : List (Int × α)), (l.map Prod.fst).Nodup → x ∈ l → y ∈ l → x = y := by
      intro l
      induction l with
      | nil => intro _ h; simp at h
      | cons z l ih =>
        intro nd hx hy
        simp only [List.map_cons, List.nodup_cons] at nd
        rcases List.mem_cons.mp hx with hx | hx
        · rcases List.mem_cons.mp hy with hy | hy
          · rw [hx, hy]
          · exact absurd (List.mem_map.mpr ⟨y, hy, by rw [← e, hx]⟩) nd.1
        · rcases List.mem_cons.mp hy with hy | hy
          · exact absurd (List.mem_map.mpr ⟨x, hx, by rw [e, hy]⟩) nd.1
          · exact ih nd.2 hx hy
    exact this l nd hx hy
  exact (p.trans (srtK_perm l).symm).eq_of_pairwise (fun x y hx hy h1 h2 => inj x y (p.mem_iff.mp hx) ((srtK_perm l).mem_iff.mp hy) (Int.le_antisymm h1 h2)) h (srtK_sorted l)
end
section
variable {α β : Type} (R : α → β → Prop)
def PairR (x : Int × α) (y : Int × β) : Prop := x.1 = y.1 ∧ R x.2 y.2
theorem insK_rel {p : Int × α} {p' : Int × β} (hp : PairR R p p') : ∀ {l : List (Int × α)} {l' : List (Int × β)}, Paired (PairR R) l l' → Paired (PairR R) (insK p l) (insK p' l')
  | _, _, .nil => .cons hp .nil
  | _, _, .cons h t => by
    unfold insK
    rw [← hp.1, ← h.1]
    split
    · exact .cons hp (.cons h t)
    · exact .cons h (insK_rel hp t)
theorem srtK_rel : ∀ {l : List (Int × α)} {l' : List (Int × β)}, Paired (PairR R) l l' → Paired (PairR R) (srtK l) (srtK l')
  | _, _, .nil => .nil
  | _, _, .cons h t => insK_rel R h (srtK_rel t)
end
theorem repl_f2 {K : KB} {H : Hp} {m : List Addr} : ∀ {ds : List D} {vs : List V}, RepL K H m ds vs → Paired (Rep K H m) ds vs
  | [], _, h => by rw [h.inv_nil]; exact .nil
  | d :: ds, _, h => by obtain ⟨v, r, rfl, h1, h2⟩ := h.inv_cons; exact .cons h1 (repl_f2 h2)
theorem f2_repl {K : KB} {H : Hp} {m : List Addr} : ∀ {ds : List D} {vs : List V}, Paired (Rep K H m) ds vs → RepL K H m ds vs
  | _, _, .nil => .nil
  | _, _, .cons h t => .cons h (f2_repl t)
theorem f2_zip {α β : Type} {R : α → β → Prop} : ∀ {ks : List Int} {l : List α} {l' : List β}, Paired R l l' → Paired (PairR R) (ks.zip l) (ks.zip l')
  | [], _, _, _ => .nil
  | k :: ks, _, _, .nil => .nil
  | k :: ks, _, _, .cons h t => .cons ⟨rfl, h⟩ (f2_zip t)
theorem f2_snd {α β : Type} {R : α → β → Prop} : ∀ {l : List (Int × α)} {l' : List (Int × β)}, Paired (PairR R) l l' → Paired R (l.map Prod.snd) (l'.map Prod.snd)
  | _, _, .nil => .nil
  | _, _, .cons h t => .cons h.2 (f2_snd t)
def sortBy {α : Type} (ks : List Int) (xs : List α) : List α := (srtK (ks.zip xs)).map Prod.snd
section
variable {X : Cx} {pins : List (Addr × Obj)} {σ : Sg} {H : Hp} {s : Shared}
theorem inv_set {a : Addr} (I : Inv X pins σ H s) (f : FpOk X pins H a) (g : Obj → Obj) : Inv X pins σ H { s with heap := s.heap.update a g } :=
  I.turned (t' := s.toks) (fun b o hb e => ((Heap.SameBut.update s.heap a g).2 b hb).trans e) f.1 f.2.1 f.2.2.2.1 f.2.2.2.2.1 f.2.2.2.2.2
theorem fpOk_ch {H' : Hp} {a : Addr} (f : FpOk X pins H a) (h : H' a = none) : FpOk X pins H' a := ⟨h, f.2⟩
end
def keyF (F : Fd) (st : Store) (d : D) : Option Int := match F [d] st with
  | .ok (.int k) s' => if Store.beq s' st = true then some k else none
  | _ => none
theorem keyF_ok {F : Fd} {st : Store} {d : D} {k : Int} (h : keyF F st d = some k) : F [d] st = .ok (.int k) st := by
  unfold keyF at h
  split at h
  · rename_i k' s' e
    split at h
    · rename_i hb
      cases h
      rw [e, Store.beq_eq _ _ hb]
    · cases h
  · cases h
def keysF (F : Fd) (st : Store) : List D → Option (List Int)
  | [] => some []
  | d :: ds => (keyF F st d).bind fun k => (keysF F st ds).map fun ks => k :: ks
theorem keysF_get {F : Fd} {st : Store} : ∀ {ds : List D} {ks : List Int}, keysF F st ds = some ks → ks.length = ds.length ∧ ∀ (i : Nat) (d : D), ds[i]? = some d → ∃ k, ks[i]? = some k ∧ keyF F st d = some k
  | [], _, h => by cases h; exact ⟨rfl, fun i d q => by simp at q⟩
  | d :: ds, _, h => by
    unfold keysF at h
    obtain ⟨k, h1, h⟩ := Option.bind_eq_some_iff.mp h
    obtain ⟨ks, h2, rfl⟩ := Option.map_eq_some_iff.mp h
    obtain ⟨a, b⟩ := keysF_get h2
    refine ⟨by simp [a], fun i d' q => ?_⟩
    cases i with
    | zero => simp at q; subst q; exact ⟨k, rfl, h1⟩
    | succ i => simpa using b i d' (by simpa using q)
section
variable {X : Cx} {pins : List (Addr × Obj)} {σ : Sg} {H : Hp} {s : Shared} {k : Nat} {g : Addr} {fd : FuncData} {x : Str} {F : Fd}
/-- one call of the key def -/
theorem key_turn {B : List Addr} {m : List Addr} {st : Store} {d : D} {v : V} {u : Value} {j : Int} (G : FnG X.prog X.w X.K X.mg X.base k g fd [x] (spD X.K 1 F)) (room : Room (k + 2) X.A) (hgd : X.A.guards = some []) (hb : Binds X.K fd [x] [])
    (I : Inv X pins σ H s) (rs : RepSt ⟨X.K, B⟩ H m st) (rd : Rep ⟨X.K, B⟩ H m d v) (rv : RelV v u) (hk : keyF F st d = some j) :
    wpAny (model X.prog X.w) X.A.in1.in1 (call (.ref g) [u]) (fun r s2 => ∃ H2 m2 tk, r = .int j tk ∧ Inv X pins σ H2 s2 ∧ Evo H m H2 m2 ∧ RepSt ⟨X.K, B⟩ H2 m2 st ∧
      ∀ b o, s.heap.get? b = some o → H b = none → b ∉ frs X.stack → s2.heap.get? b = some o ∧ H2 b = none) (fun _ _ => False) s := by
  have hb := hb s [u] I.kIn rfl
  rw [List.append_nil] at hb
  have e0 : Env0 X.prog X.w X.K X.mg X.base X.A.in1.in1 X.stack s H := ⟨I.ok.frames, I.env0.mod, I.env0.bs, I.env0.bsz, I.env0.funs, I.env0.frf, I.env0.hok, I.env0.bare⟩
  refine wpAny_call (codeAny_mono (G.run X.A.in1.in1 X.stack s H ⟨[u], []⟩ [u] [v] (fun w H2 => w = .int j ∧ ∃ m2, Evo H m H2 m2 ∧ RepSt ⟨X.K, B⟩ H2 m2 st) (fun _ _ _ => False) room.in1.in1 hgd e0 hb (.cons rv .nil)
    ⟨B, [d], st, m, rfl, .cons rd .nil, rs, ?_⟩) fun res s2 q => ?_)
  · rw [keyF_ok hk]
    exact fun w H2 m2 e r2 rs2 => ⟨Rep.int_iff.mp r2, m2, e, rs2⟩
  · match res, q with
    | .error e, q =>
      obtain ⟨a, B', H', cls, dx, ea, fl, hok, ub, na, os, ag, he⟩ := q
      exact he
    | .ok (.ret u2), q =>
      obtain ⟨w, H2, os, bare, un, hok, r2, rfl, m2, ev, rs2⟩ := q
      obtain ⟨tk, rfl⟩ := r2
      exact ⟨H2, m2, tk, rfl, I.call' (ch := []) os un hok bare (fun _ z => nomatch z), ev, rs2, fun b o e1 e2 e3 => ⟨un.keep b o e1 e2 e3 (by simp), un.free b o e1 e2 (by simp)⟩⟩
    | .ok .next, q => exact q.elim
    | .ok .brk, q => exact q.elim
    | .ok .cont, q => exact q.elim
theorem key_tail {M : Model} {A : Around} {E : Value → Shared → Prop} {P : PySem.Fin → Shared → Prop} {a kS : Addr} {e1 e : Nat} {keys : Array Value} {st : SortSt} (hk : s.heap.get? kS = some (seqObj "list" keys e)) (ha : s.heap.get? a = some (seqObj "list" #[] e1)) (hka : kS ≠ a)
    (hz : keys.size ≤ sizeLine) (hz2 : (arrOf st).size ≤ sizeLine) (hfl : failedOf st = none)
    (h : ∀ c, ((s.heap.update kS (Obj.mapSeq fun _ => (#[] : Array Value))).update a (Obj.mapSeq fun _ => (arrOf st).map (·.2))).get? a = some (seqObj "list" ((arrOf st).map (·.2)) c) →
      P (.done (.ret .none)) { s with heap := (s.heap.update kS (Obj.mapSeq fun _ => (#[] : Array Value))).update a (Obj.mapSeq fun _ => (arrOf st).map (·.2)) }) :
    wpAny M A (ksk_tail a false e1 (.ref kS) st) P E s := by
  have sb := Heap.SameBut.update s.heap kS (Obj.mapSeq fun _ => (#[] : Array Value))
  have ha1 : (s.heap.update kS (Obj.mapSeq fun _ => (#[] : Array Value))).get? a = some (seqObj "list" #[] e1) := (sb.2 a hka.symm).trans ha
  unfold ksk_tail
  try dsimp only
  refine wpAny_bind (listUpdate_at hk rfl ?_ hz (Nat.zero_le _))
  refine wpAny_bind (wpAny_letGo ?_)
  refine wpAny_bind (seqEpoch_at ha1 rfl ?_)
  refine wpAny_bind (listUpdate_at ha1 rfl ?_ (Nat.zero_le _) (by show ((arrOf st).map (·.2)).size ≤ _; rw [Array.size_map]; omega))
  rw [hfl]
  simp only [bne_self_eq_false, Bool.false_eq_true, if_false]
  exact wpAny_pure (h _ (get?_update_seq ha1 fun _ => (arrOf st).map (·.2)))
theorem key_end {A : Around} {P : Program} {w : World} {E : Value → Shared → Prop} {Q : PySem.Fin → Shared → Prop} {a kS : Addr} {e1 e : Nat} {keys : Array Value} {us : List Value} {ks : List Int} (hk : s.heap.get? kS = some (seqObj "list" keys e)) (ha : s.heap.get? a = some (seqObj "list" #[] e1)) (hka : kS ≠ a)
    (hi : IntsAre keys.toList ks) (hl : ks.length = us.length) (h64 : us.length < 64)
    (h : ∀ (out : Array Value) c, KskOut false ks us out.toList → ((s.heap.update kS (Obj.mapSeq fun _ => (#[] : Array Value))).update a (Obj.mapSeq fun _ => out)).get? a = some (seqObj "list" out c) →
      Q (.done (.ret .none)) { s with heap := (s.heap.update kS (Obj.mapSeq fun _ => (#[] : Array Value))).update a (Obj.mapSeq fun _ => out) }) :
    wpAny (model P w) A (ksk_end a false us.toArray e1 (.ref kS) keys) Q E s := by
  have hn : keys.size = us.length := by
    have q := hi.length
    rw [Array.length_toList] at q
    omega
  have hz : (keys.zip us.toArray).size = us.length := by rw [Array.size_zip, hn, List.size_toArray, Nat.min_self]
  unfold ksk_end
  try dsimp only
  rw [if_neg Bool.false_ne_true]
  by_cases h2 : us.toArray.size < 2
  · rw [if_pos h2, if_pos h2]
    refine wpAny_bind (wpAny_pure ?_)
    rw [StateT.run_pure]
    refine wpAny_bind (wpAny_pure ?_)
    try dsimp only
    refine key_tail (st := SortSt.mk' general' (keys.zip us.toArray) #[] 7 none) hk ha hka (by rw [hn, sizeLine_eq]; omega) (by show (keys.zip us.toArray).size ≤ _; rw [hz, sizeLine_eq]; omega) rfl fun c hc => h _ c ?_ hc
    refine ksk_out (b := false) hi (.refl _) fun i j hij hj => ?_
    rw [List.size_toArray] at h2
    have hj : j < (keys.zip us.toArray).size := hj
    rw [hz] at hj
    have : i = j := by omega
    subst this
    exact Int.le_refl _
  · rw [if_neg h2, if_neg h2]
    rw [List.size_toArray] at h2
    rw [ksk_kind hi (by rw [hn]; omega)]
    refine wpAny_bind (wpAny_pure ?_)
    refine wpAny_bind (wpAny_mono (wpS_sortRuns (a₀ := keys.zip us.toArray) (st := SortSt.mk' oneType' (keys.zip us.toArray) #[] 7 none)
      (Q := fun _ st' => (arrOf st').Perm (keys.zip us.toArray) ∧ failedOf st' = none ∧ SortedTo (arrOf st') (keys.zip us.toArray).size)
      (ksk_intKeys hi) ⟨.refl _, rfl, rfl, rfl⟩ (by rw [hz]; omega) (by rw [hz]; exact h64) fun st' a1 a2 a3 => ⟨a1, a2, a3⟩) ?_ fun _ _ z => z)
    rintro ⟨⟨⟩, st'⟩ s' ⟨rfl, hp, hf, hs⟩
    try dsimp only
    exact key_tail hk ha hka (by rw [hn, sizeLine_eq]; omega) (by rw [hp.size_eq, hz, sizeLine_eq]; omega) hf fun c hc => h _ c (ksk_out (b := false) hi hp (by rw [hp.size_eq]; exact hs)) hc
end
end DL
namespace DL
open PySem PySem.Spec PyProof.Rows L2
variable [TabsCtx]
section
variable {X : Cx} {pins : List (Addr × Obj)} {σ : Sg} {H : Hp} {s : Shared} {k : Nat} {g : Addr} {fd : FuncData} {x : Str} {F : Fd}
theorem call_sortKey {B : List Addr} {m : List Addr} {st : Store} {l : Addr} {items : List D} {vs : List V} {ks : List Int} {Q : VK} (G : FnG X.prog X.w X.K X.mg X.base k g fd [x] (spD X.K 1 F)) (room : Room (k + 2) X.A) (hgd : X.A.guards = some []) (hb : Binds X.K fd [x] [])
    (I : Inv X pins σ H s) (rs : RepSt ⟨X.K, B⟩ H m st) (hs : SqL X.K H l vs) (rl : RepL ⟨X.K, B⟩ H m items vs) (hk : keysF F st items = some ks) (h64 : items.length < 64) (nd : ks.Nodup)
    (q : ∀ H' m' p, Evo H m H' m' → RepSt ⟨X.K, B⟩ H' m' st → Rep ⟨X.K, B⟩ H' m' (.lst (sortBy ks items)) (.ref p) → Q (.ref p) H') :
    wpAny (model X.prog X.w) X.A (call (.builtin "sorted") [.ref l] [(Str.ofString "key", .ref g)]) (EP X pins σ Q) X.xe s := by
  obtain ⟨us, rv, pl, hz⟩ := I.list hs
  obtain ⟨kl, kg⟩ := keysF_get hk
  have hlen : us.length = items.length := by rw [← rv.length, ← rl.length]
  have hsl : us.length ≤ sizeLine := by rw [hlen, sizeLine_eq]; omega
  have room1 : Room (k + 2) X.A := room
  refine call_function_entry_kw kind_sorted plain_sorted entry_sorted (ksk_s1 _ _) ?_
  unfold Builtin.«sorted»
  refine wpAny_bind (m := checkCount "sorted" 1 1 _) (wpAny_pure ?_)
  refine wpAny_bind (collect_list pl.isList ?_ hsl)
  refine wpAny_bind (wpAny_newList ?_ hsl)
  generalize hh1 : (s.heap.push (seqObj "list" #[] 0)).update s.heap.objs.size (Obj.mapSeq (· ++ us.toArray)) = h1
  have z1 : h1.objs.size = s.heap.objs.size + 1 := by rw [← hh1, Heap.size_update, size_push']
  have o2 : (h1.push (seqObj "list" us.toArray 0)).get? (s.heap.objs.size + 1) = some (seqObj "list" us.toArray 0) := by rw [← z1]; exact Heap.get?_push_size _ rfl
  have k2 : ∀ b o, s.heap.get? b = some o → (h1.push (seqObj "list" us.toArray 0)).get? b = some o := fun b o e => by
    have hlt : b < s.heap.objs.size := Heap.lt_size e
    rw [Heap.get?_push_ne _ _ _ (by rw [z1]; exact Nat.ne_of_lt (Nat.lt_succ_of_lt hlt)), ← hh1, Heap.get?_update_ne _ _ _ _ (Nat.ne_of_lt hlt), Heap.get?_push_ne _ _ _ (Nat.ne_of_lt hlt)]
    exact e
  show wpAny _ _ _ _ _ { s with heap := h1.push (seqObj "list" us.toArray 0) }
  rw [z1]
  refine wpAny_bind (wpAny_holding (wpAny_call_entry_kw slot_list_sort ⟨_, o2, rfl⟩ entry_list_sort ?body (ksk_l1 _ _)))
  show wpAny (model X.prog X.w) X.A.in1.in1 (Builtin.«list.sort» ⟨[.ref (s.heap.objs.size + 1)], [(Str.ofString "key", .ref g)]⟩) _ _ _
  rw [ksk_t1]
  generalize ha : (s.heap.objs.size + 1 : Nat) = a at o2 ⊢
  have al : s.heap.objs.size ≤ a := by rw [← ha]; exact Nat.le_succ _
  have I2 : Inv X pins σ H { s with heap := h1.push (seqObj "list" us.toArray 0) } := I.kept (t' := s.toks) k2
  have fa : FpOk X pins H a := I.fpOk al (I.hok.fresh al)
  clear hh1 k2 z1
  generalize hh2 : h1.push (seqObj "list" us.toArray 0) = h2 at I2 o2
  obtain ⟨e1, o3⟩ : ∃ e1, (h2.update a (Obj.mapSeq fun _ => (#[] : Array Value))).get? a = some (seqObj "list" #[] e1) := ⟨_, get?_update_seq o2 fun _ => #[]⟩
  have I3 := inv_set I2 fa (Obj.mapSeq fun _ => (#[] : Array Value))
  unfold ksk_tree
  refine wpAny_bind (listItems_at o2 rfl ?_)
  refine wpAny_bind (listUpdate_at o2 rfl ?_ (by rw [List.size_toArray]; exact hsl) (Nat.zero_le _))
  refine wpAny_bind (seqEpoch_at o3 rfl ?_)
  refine wpAny_bind (wpAny_newTuple ?_ (by show us.length ≤ _; exact hsl))
  refine wpAny_bind (wpAny_newList ?_ (Nat.zero_le _))
  refine wpAny_holding ?_
  have hal : a < h2.objs.size := Heap.lt_size o2
  generalize hh3 : h2.update a (Obj.mapSeq fun _ => (#[] : Array Value)) = h3 at I3 o3
  have z3 : h3.objs.size = h2.objs.size := by rw [← hh3, Heap.size_update]
  have kk : ∀ b u, h3.get? b = some u → ((h3.push (seqObj "tuple" us.toArray 0)).push (seqObj "list" #[] 0)).get? b = some u := fun b u e => Heap.get?_push_of_some _ (Heap.get?_push_of_some _ e)
  have okS : ((h3.push (seqObj "tuple" us.toArray 0)).push (seqObj "list" #[] 0)).get? (h3.push (seqObj "tuple" us.toArray 0)).objs.size = some (seqObj "list" #[] 0) := Heap.get?_push_size _ rfl
  have I4 : Inv X pins σ H { s with heap := (h3.push (seqObj "tuple" us.toArray 0)).push (seqObj "list" #[] 0) } := I3.kept (t' := s.toks) kk
  have lkS : h3.objs.size ≤ (h3.push (seqObj "tuple" us.toArray 0)).objs.size := by rw [size_push']; exact Nat.le_succ _
  have fk : FpOk X pins H (h3.push (seqObj "tuple" us.toArray 0)).objs.size := I3.fpOk lkS (I3.hok.fresh lkS)
  have hka : (h3.push (seqObj "tuple" us.toArray 0)).objs.size ≠ a := Nat.ne_of_gt (Nat.lt_of_lt_of_le (by rw [z3]; exact hal) lkS)
  have oa4 := kk _ _ o3
  show wpAny _ _ (ksk_rest a (.ref g) false us.toArray e1 (.ref (h3.push (seqObj "tuple" us.toArray 0)).objs.size)) _ _ { s with heap := (h3.push (seqObj "tuple" us.toArray 0)).push (seqObj "list" #[] 0) }
  generalize (h3.push (seqObj "tuple" us.toArray 0)).objs.size = kS at okS fk hka ⊢
  generalize (h3.push (seqObj "tuple" us.toArray 0)).push (seqObj "list" #[] 0) = h5 at okS I4 oa4 ⊢
  have nfs : ∀ {b : Addr}, FpOk X pins H b → b ∉ frs X.stack := fun {b} f z => by
    rcases List.mem_cons.mp (I.stkSub b z) with e | e
    · exact f.2.1 e
    · exact f.2.2.1 e
  have na := nfs fa
  have nk := nfs fk
  unfold ksk_rest
  refine wpAny_bind (wpAny_rule ?_)
  rw [List.forIn_toArray]
  refine wpAny_bind (ksk_fold (fun i s' => ∃ H' m' kA e, Inv X pins σ H' s' ∧ Evo H m H' m' ∧ RepSt ⟨X.K, B⟩ H' m' st ∧ H' a = none ∧ H' kS = none ∧ s'.heap.get? a = some (seqObj "list" #[] e1) ∧
      s'.heap.get? kS = some (seqObj "list" kA e) ∧ IntsAre kA.toList (ks.take i)) us 0 _ ⟨H, m, #[], 0, I4, .refl, rs, fa.1, fk.1, oa4, okS, by simpa using IntsAre.nil⟩ ?step ?done)
  case step =>
    rintro j u s' hu ⟨H', m', kA, e, I', ev, rs', ha', hk', oa', ok', hi'⟩
    simp only [Nat.zero_add] at hi' ⊢
    have hj : j < us.length := (List.getElem?_eq_some_iff.mp hu).1
    have hjd : items[j]? = some items[j] := List.getElem?_eq_getElem (by omega)
    obtain ⟨kj, hkj, hF⟩ := kg j _ hjd
    obtain ⟨v, hv, rd⟩ := (RepL.evo ev _ _ rl).get hjd
    obtain ⟨u', hu', ru⟩ := rv.get hv
    rw [hu] at hu'; cases hu'
    refine wpAny_bind (wpAny_attempt (wpAny_mono (key_turn G room hgd hb I' rs' rd ru hF) (fun r s2 hr => ?_) fun _ _ hF => hF.elim))
    obtain ⟨H2, m2, tk, rfl, I2', ev2, rs2, hkeep⟩ := hr
    try dsimp only
    obtain ⟨oa2, ha2⟩ := hkeep a _ oa' ha' na
    obtain ⟨ok2, hk2⟩ := hkeep kS _ ok' hk' nk
    have hzA : kA.size ≤ us.length := by
      have q1 := hi'.length
      rw [Array.length_toList, List.length_take] at q1
      omega
    refine wpAny_bind (listUpdate_at ok2 rfl ?_ (by omega) (Nat.le_trans (Nat.le_of_eq (Array.size_push ..)) (by omega)))
    have sb := Heap.SameBut.update s2.heap kS (Obj.mapSeq (·.push (.int kj tk)))
    refine wpAny_pure ⟨rfl, H2, m2, kA.push (.int kj tk), _, inv_set I2' (fpOk_ch fk hk2) _, ev.trans ev2, rs2, ha2, hk2, (sb.2 a hka.symm).trans oa2, get?_update_seq ok2 (·.push (.int kj tk)), ?_⟩
    have ek : ks.take (j + 1) = ks.take j ++ [kj] := by rw [List.take_add_one, hkj]; simp
    rw [ek, Array.toList_push]
    exact ksk_snoc hi'
  case done =>
    rintro s' ⟨H', m', kA, e, I', ev, rs', ha', hk', oa', ok', hi'⟩
    rw [Nat.zero_add, List.take_of_length_le (by omega)] at hi'
    try dsimp only
    refine wpAny_bind (listItems_at ok' rfl ?_)
    refine key_end ok' oa' hka hi' (by omega) (by omega) fun out c ho hout => ⟨_, rfl, ?_⟩
    refine wpAny_pure ⟨_, rfl, ?_⟩
    obtain ⟨ps, hp, e2, hpw⟩ := ho
    simp only [Bool.false_eq_true, if_false] at hpw
    have eps : ps = srtK (ks.zip us) := srtK_one hp hpw (by rw [List.map_fst_zip (by omega)]; exact nd)
    subst eps
    have rlv : Vals (sortBy ks vs) out.toList := by rw [e2]; exact f2_snd (srtK_rel _ (f2_zip rv))
    have rl' : RepL ⟨X.K, B⟩ H' m' (sortBy ks items) (sortBy ks vs) := f2_repl (f2_snd (srtK_rel _ (f2_zip (repl_f2 (RepL.evo ev _ _ rl)))))
    have I6 := inv_set I' (fpOk_ch fk hk') (Obj.mapSeq fun _ => (#[] : Array Value))
    have lz : (sortBy ks vs).length ≤ sizeLine := by
      unfold sortBy
      rw [List.length_map, (srtK_perm _).length_eq, List.length_zip]
      have := rv.length
      omega
    have I7 : Inv X pins σ (upd H' a (.lst (sortBy ks vs))) { s' with heap := (s'.heap.update kS (Obj.mapSeq fun _ => (#[] : Array Value))).update a (Obj.mapSeq fun _ => out) } :=
      Inv.take (s := { s' with heap := s'.heap.update kS (Obj.mapSeq fun _ => (#[] : Array Value)) }) (t' := s'.toks) I6 (fun b ob hb e => ((Heap.SameBut.update _ a _).2 b hb).trans e) (fpOk_ch fa ha') ⟨lz, out.toList, c, rlv, by rw [Array.toArray_toList]; exact hout⟩
    exact ⟨.ref a, _, I7, rfl, q _ m' a (ev.trans (Grow.upd ha').evo) (rs'.grow (Grow.upd ha')) (Rep.newL rs' ha' rl')⟩
end
end DL
namespace DL
open PySem PySem.Spec PyProof.Rows L2
variable [TabsCtx]
def gSortKey (F : Fd) (st : Store) (d : D) : Option D := (lstV st d).bind fun items => (keysF F st items).bind fun ks => if items.length < 64 ∧ ks.Nodup then some (.lst (sortBy ks items)) else none
def xSortKey (F : Fd) (f : Fe) : Fe := fun ρ st => (f ρ st).bind fun d s1 => lift (gSortKey F s1 d) s1
section
variable {X : Cx} {W : WX}
def rSK (K : PySem.W.Frag) (g : Addr) (F : Fd) : List V → List V → Hp → VK → Prop := fun vs zs H Q => ∃ (B m : List Addr) (st : Store) (items : List D) (l : Addr) (xs : List V) (ks : List Int), vs = [.ref l] ∧ zs = [.ref g] ∧ RepSt ⟨K, B⟩ H m st ∧ SqL K H l xs ∧ RepL ⟨K, B⟩ H m items xs ∧
  keysF F st items = some ks ∧ items.length < 64 ∧ ks.Nodup ∧ ∀ H' m' p, Evo H m H' m' → RepSt ⟨K, B⟩ H' m' st → Rep ⟨K, B⟩ H' m' (.lst (sortBy ks items)) (.ref p) → Q (.ref p) H'
theorem ck_sortKey {k : Nat} {g : Addr} {fd : FuncData} {x : Str} {F : Fd} (G : FnG X.prog X.w X.K X.mg X.base k g fd [x] (spD X.K 1 F)) (room : Room (k + 2) X.A) (hx : XOk X W) (hb : Binds X.K fd [x] []) :
    CallRK X (.builtin "sorted") [Str.ofString "key"] (rSK X.K g F) := by
  intro pins s σ H xs zs us ws Q I r1 r2 h
  obtain ⟨B, m, st, items, l, vs, ks, rfl, rfl, rs, hs, rl, hk, h64, nd, q⟩ := h
  cases r1 with
  | cons a b =>
    cases b
    cases r2 with
    | cons a' b' =>
      cases b'
      cases a
      cases a'
      exact call_sortKey G room hx.gd hb I rs hs rl hk h64 nd q
theorem de_sortKey {k : Nat} {g : Addr} {fd : FuncData} {x nm : Str} {F : Fd} {e : Expr} {f : Fe} {p p2 kp pos : Pos} (G : FnG X.prog X.w X.K X.mg X.base k g fd [x] (spD X.K 1 F)) (room : Room (k + 2) X.A) (hx : XOk X W) (hb : Binds X.K fd [x] [])
    (hm : X.mg "sorted" = none) (hmf : X.mg nm = some (.ref g)) (he : DE X W e f) (hg : Gl X "sorted" := by rfl) (hgf : Gl X nm := by rfl) (hd : (nm == ("__debug__" : Str)) = false := by decide)
    (hs : starEach [e] X.env = (false, eval e X.env) :: starEach [] X.env := by rfl)
    (h1 : backTo pos (starEach [e] X.env) = (false, eval e X.env) :: backTo pos (starEach [] X.env) := by rfl) (h2 : (backTo pos (starEach [e] X.env)).any (·.1) = false := by rfl)
    (h3 : (backToKw pos (keywordEach [⟨some "key", .Name nm p2, kp⟩] X.env)).all (·.1.isSome) = true := by rfl) (h4 : (backToKw pos (keywordEach [⟨some "key", .Name nm p2, kp⟩] X.env)).any (·.1.isNone) = false := by rfl)
    (h5 : (backToKw pos (keywordEach [⟨some "key", .Name nm p2, kp⟩] X.env)).filterMap (·.1) = [Str.ofString "key"] := by rfl) :
    DE X W (.Call (.Name "sorted" p) [e] [⟨some "key", .Name nm p2, kp⟩] pos) (xSortKey F f) := by
  obtain ⟨t, pt, qt⟩ := he
  refine ⟨_, pe_callBK (ck_sortKey G room hx hb) hg hm boot_sorted (pa_cons pt pa_nil hs) (pk_cons (pe_glob (v := .ref g) hgf hmf rfl hd) pk_nil) (by decide) (by decide) h1 h2 h3 h4 h5, fun B σ H ρ st m Q re rs h => ?_⟩
  refine qt B σ H ρ st m _ re rs (good_bind h fun d s1 v H1 m1 e1 r1 rs1 h1 => ?_)
  cases hd : gSortKey F s1 d with
  | none => rw [hd] at h1; exact h1.elim
  | some d2 =>
    rw [hd] at h1
    unfold gSortKey at hd
    obtain ⟨items, hi, hd⟩ := Option.bind_eq_some_iff.mp hd
    obtain ⟨ks, hk, hd⟩ := Option.bind_eq_some_iff.mp hd
    split at hd
    · rename_i hc
      cases hd
      obtain ⟨a, vs, rfl, hsq, rl⟩ := lstV_rep rs1 r1 hi
      exact ⟨B, m1, s1, items, a, vs, ks, rfl, rfl, rs1, hsq, rl, hk, hc.1, hc.2, fun H' m' pp e' rs' rp => h1 _ H' m' e' rp rs'⟩
    · cases hd
end
end DL
namespace DL
open PySem PySem.Spec PyProof.Rows L2
variable [TabsCtx]
theorem places_back (n : Nat) : Builtin.Slice.slicePlaces ((n : Int) - 1) (-1) (-1) = n := by
  unfold Builtin.Slice.slicePlaces
  rw [if_neg (by decide), show (- -1 : Int) = 1 by decide, Int.ediv_one]
  by_cases h : (n : Int) - 1 > -1
  · rw [if_pos h]; omega
  · rw [if_neg h]; omega
theorem pick_back (xs : Array Value) : ((List.range xs.size).filterMap fun (m : Nat) => xs[((xs.size : Int) - 1 + (m : Int) * -1).toNat]?).toArray = xs.toList.reverse.toArray := by
  have key : (List.range xs.size).filterMap (fun (m : Nat) => xs[((xs.size : Int) - 1 + (m : Int) * -1).toNat]?) = ((List.range xs.size).map fun k => xs.size - 1 - k).filterMap (xs[·]?) := by
    rw [List.filterMap_map]
    have go : ∀ l : List Nat, (∀ m ∈ l, m < xs.size) → l.filterMap (fun (m : Nat) => xs[((xs.size : Int) - 1 + (m : Int) * -1).toNat]?) = l.filterMap ((xs[·]?) ∘ fun k => xs.size - 1 - k) := by
      intro l
      induction l with
      | nil => intro _; rfl
      | cons m l ih =>
        intro h
        have hm := h m (by simp)
        have e : ((xs.size : Int) - 1 + (m : Int) * -1).toNat = xs.size - 1 - m := by omega
        simp only [List.filterMap_cons, e, Function.comp]
        rw [ih fun y hy => h y (by simp [hy])]
    exact go _ fun m hm => List.mem_range.mp hm
  rw [key, PySem.W.krv_range, List.filterMap_reverse, PySem.W.krv_all]
section
variable {prog : Program} {w : World} {A : Around} {E : Value → Shared → Prop} {s : Shared}
theorem applied_back {sl : Addr} {vk : Value} {n : Nat} {Q : Int × Int × Nat → Shared → Prop} (hs : s.heap.IsSliceOf sl .none .none vk) (pk : IsPart vk (some (-1))) (h : Q ((n : Int) - 1, -1, n) s) :
    wpAny (model prog w) A (Builtin.Slice.sliceApplied (.ref sl) (pure (n : Int))) Q E s := by
  obtain ⟨os, hos, hcs, hds⟩ := id hs
  unfold Builtin.Slice.sliceApplied Builtin.Slice.sliceFields
  refine wpAny_bind (wpAny_bind (wpAny_field hos hds (x := .none) rfl (wpAny_bind (wpAny_field hos hds (x := .none) rfl
    (wpAny_bind (wpAny_field hos hds (x := vk) rfl (wpAny_pure ?_)))))))
  refine wpAny_bind (HT.slicePart_ pk ?_)
  show wpAny _ _ (if ((-1 : Int) == 0) = true then _ else _) _ _ s
  rw [if_neg (by decide)]
  refine wpAny_bind (HT.slicePart_ .none (wpAny_bind (HT.slicePart_ .none (wpAny_bind (wpAny_pure ?_)))))
  show wpAny _ _ (pure ((n : Int) - 1, (-1 : Int), Builtin.Slice.slicePlaces ((n : Int) - 1) (-1) (-1))) _ _ s
  rw [places_back]
  exact wpAny_pure h
theorem getItem_tup_back {t sl : Addr} {items : Array Value} {vk : Value} {Q : Value → Shared → Prop} (ht : IsTup s.heap t items) (hs : s.heap.IsSliceOf sl .none .none vk) (pk : IsPart vk (some (-1)))
    (h : Q (.ref s.heap.objs.size) { s with heap := s.heap.push { cls := .type "tuple", data := .seq items.toList.reverse.toArray } }) (hz : items.size ≤ sizeLine) :
    wpAny (model prog w) A (getItem (.ref t) (.ref sl)) Q E s := by
  have hok : sizeOk (.seq items.toList.reverse.toArray) := by
    show (items.toList.reverse.toArray).size ≤ sizeLine
    simpa using hz
  obtain ⟨os, hos, hcs, hds⟩ := id hs
  have hTs : s.TypeIs (.ref sl) "slice" := ⟨os, hos, hcs⟩
  unfold getItem
  try with_reducible refine wpAny_holding ?_
  first | refine wpAny_bind (wpAny_pure ?_) | skip
  refine wpAny_bind (wpAny_sequenceKey ht.typeIs (by decide) ?_)
  refine wpAny_bind (wpAny_callSpecial?_slot (name := Str.ofString "__getitem__") ht.typeIs PyProof.Rows.slot_tuple_getitem
    (wpAny_call_entry PyProof.Rows.slot_tuple_getitem ht.typeIs PyProof.Rows.entry_tuple_getitem ?_ (PyProof.Rows.args_tuple_getitem _ _)))
  show wpAny _ _ (Builtin.Tuple.tupleItemsOf (.ref t) >>= _) _ _ s
  refine wpAny_bind (PyProof.Rows.tupleItemsOf_ ht ?_)
  refine wpAny_bind (wpAny_typeOf hTs ?_)
  rw [if_pos (by decide)]
  refine wpAny_bind (applied_back hs pk ?_)
  show wpAny _ _ (if (((items.size : Int) - 1) == 0 && (-1 : Int) == 1 && items.size == items.size) = true then _ else _) _ _ s
  rw [if_neg (by rw [show ((-1 : Int) == 1) = false from rfl, Bool.and_false, Bool.false_and]; exact Bool.false_ne_true), pick_back]
  first
    | exact wpAny_bind (m := Builtin.Tuple.tupleExact _) (wpAny_newObj_type (wpAny_pure ⟨_, rfl, wpAny_pure h⟩) hok)
    | exact wpAny_bind (m := Builtin.Tuple.tupleExact _) (wpAny_newObj_type (wpAny_bind (wpAny_pure (wpAny_pure ⟨_, rfl, wpAny_pure h⟩))) hok)
    | exact wpAny_bind (wpAny_bind (m := Builtin.Tuple.tupleExact _) (wpAny_newObj_type (wpAny_pure (wpAny_pure ⟨_, rfl, wpAny_pure h⟩)) hok))
    | exact wpAny_bind (wpAny_bind (m := Builtin.Tuple.tupleExact _) (wpAny_newObj_type (wpAny_pure ⟨_, rfl, wpAny_pure h⟩) hok))
end
section
variable {X : Cx} {W : WX} {e : Expr} {f : Fe} {k : Nat} {p1 p2 p3 pos : Pos}
def tBack (K : PySem.W.Frag) (te : TE) : TE := fun σ H Q => te σ H fun x H1 => ∃ (kd : Kd) (a : Addr) (xs : List V), x = .ref a ∧ SqK K kd H1 a xs ∧ ∀ p, H1 p = none → Q (.ref p) (upd H1 p (match kd with | .l => .lst xs.reverse | .t => .tup xs.reverse))
theorem pe_back {te : TE} (he : PE X e te) : PE X (.Subscript e (.Slice none none (some (.UnaryOp .USub (.Constant (.int 1) k p1) p2)) p3) pos) (tBack X.K te) := by
  refine ⟨fun pins s σ H Q I h => Subscript_ (thn (he.run pins s σ H _ I h) fun v s1 ⟨x, H1, I1, r1, kd, a, xs, ex, hx, q⟩ => ?_)⟩
  subst ex
  cases r1
  have hst : PO X (some (.UnaryOp .USub (.Constant (.int 1) k p1) p2)) (tPart (tUn (rU fun i => .int (-i)) (tC (.int 1)))) := po_some (pe_un un_neg pe_int)
  refine wpAny_Slice (thn (po_none.run pins s1 σ H1 (fun o H2 => o = none ∧ H2 = H1) I1 ⟨rfl, rfl⟩) fun vl s2 ⟨l, H2, I2, pl, el, e2⟩ => ?_)
  subst el; subst e2
  refine thn (po_none.run pins s2 σ H2 (fun o H3 => o = none ∧ H3 = H2) I2 ⟨rfl, rfl⟩) fun vu s3 ⟨u, H3, I3, pu, eu, e3⟩ => ?_
  subst eu; subst e3
  refine thn (hst.run pins s3 σ H3 (fun o H4 => o = some (-1) ∧ H4 = H3) I3 ⟨1, rfl, -1, rfl, rfl, rfl⟩) fun vs s4 ⟨o, H4, I4, ps, eo, e4⟩ => ?_
  subst eo; subst e4
  cases pl
  cases pu
  have I5 : Inv X pins σ H4 { s4 with heap := s4.heap.push { cls := .type "slice", data := .fields #[.none, .none, vs] } } := I4.kept (t' := s4.toks) fun b ob z => Heap.get?_push_of_some _ z
  show wpAny (model X.prog X.w) X.A (subscriptTail e (.Slice none none (some (.UnaryOp .USub (.Constant (.int 1) k p1) p2)) p3) (.ref a) (.ref s4.heap.objs.size)) _ _ _
  cases kd with
  | l =>
    obtain ⟨its, r, ht, hz⟩ := I5.list hx
    have hn := r.length
    refine tail_any (ops := [.ref a, .ref s4.heap.objs.size]) ht.isList.typeIs (PySem.slot_list_getitem.lookup) ?_ (by with_unfolding_all rfl)
    refine wpAny_getItem_list_slice ht.isList (Heap.IsSliceOf.new _ .none .none vs) .none .none ps (by decide) ?_ (by rw [List.size_toArray]; omega)
    rw [PySem.W.krv_pick]
    exact ⟨.ref _, _, I5.laid (t' := s4.toks) (o := .lst xs.reverse) (fun b ob z => Heap.get?_push_of_some _ z) (Nat.le_refl _) ⟨by rw [List.length_reverse]; exact hz, _, 0, r.reverse, Heap.get?_push_size _ rfl⟩, rfl, q _ (I5.hok.fresh (Nat.le_refl _))⟩
  | t =>
    obtain ⟨its, r, ht, hz⟩ := I5.tuple hx
    have hn := r.length
    refine tail_any (ops := [.ref a, .ref s4.heap.objs.size]) ht.typeIs PyProof.Rows.slot_tuple_getitem.lookup ?_ (by with_unfolding_all rfl)
    refine getItem_tup_back ht (Heap.IsSliceOf.new _ .none .none vs) ps ?_ (by rw [List.size_toArray]; omega)
    exact ⟨.ref _, _, I5.laid (t' := s4.toks) (o := .tup xs.reverse) (fun b ob z => Heap.get?_push_of_some _ z) (Nat.le_refl _) ⟨by rw [List.length_reverse]; exact hz, _, r.reverse, IsTup.new _ _⟩, rfl, q _ (I5.hok.fresh (Nat.le_refl _))⟩
def gBack (st : Store) : D → Option D
  | .tup ds => some (.tup ds.reverse)
  | d => (lstV st d).map fun ds => .lst ds.reverse
def xBack (f : Fe) : Fe := fun ρ st => (f ρ st).bind fun d s1 => lift (gBack s1 d) s1
theorem de_back (h : DE X W e f) : DE X W (.Subscript e (.Slice none none (some (.UnaryOp .USub (.Constant (.int 1) k p1) p2)) p3) pos) (xBack f) := by
  obtain ⟨t, p, q⟩ := h
  refine ⟨_, pe_back p, fun B σ H ρ st m Q re rs h => ?_⟩
  refine q B σ H ρ st m _ re rs (good_bind h fun d s1 v H1 m1 e1 r1 rs1 h1 => ?_)
  have other : ∀ {ds : List D}, lstV s1 d = some ds → (∀ v2 H2, Grow H1 H2 → Rep ⟨X.K, B⟩ H2 m1 (.lst ds.reverse) v2 → Q v2 H2) → ∃ (kd : Kd) (a : Addr) (xs : List V), v = .ref a ∧ SqK X.K kd H1 a xs ∧ ∀ p, H1 p = none → Q (.ref p) (upd H1 p (match kd with | .l => .lst xs.reverse | .t => .tup xs.reverse)) := fun {ds} hl q => by
    obtain ⟨a, vs, rfl, hs, rl⟩ := lstV_rep rs1 r1 hl
    exact ⟨.l, a, vs, rfl, hs, fun p hp => q _ _ (Grow.upd hp) (Rep.newL rs1 hp rl.reverse)⟩
  obtain ⟨d2, hd, hq⟩ := good_lift h1
  cases d with
  | tup ds =>
    cases hd
    obtain ⟨a, vs, rfl, hs, rl⟩ := r1.tup_sq
    exact ⟨.t, a, vs, rfl, hs, fun p hp => hq _ _ (Grow.upd hp) rs1 (Rep.newT rs1 hp rl.reverse)⟩
  | _ =>
    simp only [gBack] at hd
    obtain ⟨ds, hl, rfl⟩ := Option.map_eq_some_iff.mp hd
    exact other hl fun v2 H2 g r => hq v2 H2 g rs1 r
/-- a dict that is never written is held as it stands -/
def tLk (t : TE) : TE := fun σ H Q => t σ H fun v H1 => ∃ p kvs, v = .ref p ∧ H1 p = some (.dK kvs) ∧ ∀ o, Q v (upd H1 p (.frz o (.dK kvs)))
theorem pe_lk {t : TE} (h : PE X e t) : PE X e (tLk t) := by
  refine ⟨fun pins s σ H Q I hw => ?_⟩
  refine thn (h.run pins s σ H _ I hw) fun v s1 ⟨x, H1, I1, r, p, kvs, ex, hp, q⟩ => ?_
  obtain ⟨od, I2⟩ := I1.lock hp True.intro
  exact ⟨x, _, I2, r, q od⟩
theorem Rep.newD {K : KB} {H : Hp} {m : List Addr} {st : Store} (rs : RepSt K H m st) {p : Addr} (hp : H p = none) {o : Obj} {ks : List Key} {ds : List D} {vs : List V} (hl : ks.length = ds.length) (h : RepL K H m ds vs) : Rep K (upd H p (.frz o (.dK (ks.zip vs)))) m (.dct ks ds) (.ref p) :=
  Rep.dct_iff.mpr ⟨p, vs, rfl, ⟨o, upd_same⟩, hl, RepL.evo (Grow.upd hp).evo _ _ h⟩
def xDct0 : Fe := fun _ st => .ok (.dct [] []) st
theorem de_dct0 : DE X W (.Dict [] [] pos) xDct0 := ⟨_, pe_lk pe_dnewK, fun B σ H ρ st m Q re rs h p hp =>
  ⟨p, [], rfl, upd_same, fun o => by
    rw [upd_upd]
    exact h (.ref p) _ m (Grow.upd hp).evo (Rep.newD (ks := []) rs hp rfl .nil) (rs.grow (Grow.upd hp))⟩⟩
/-- {} -/
def xDic0 : Fe := fun _ st => .ok (.loc st.length) (st ++ [.dic []])
theorem de_dic0 : DE X W (.Dict [] [] pos) xDic0 := ⟨_, pe_dnewK, fun B σ H ρ st m Q re rs h p hp => by
  have ev : Evo H m (upd H p (.dK [])) (m ++ [p]) := .push hp
  exact h (.ref p) _ _ ev (Rep.loc_iff.mpr ⟨p, rfl, by rw [← rs.len]; simp⟩) (rs.push hp ⟨[], upd_same, rfl⟩)⟩
end
end DL
namespace DL
open PySem PySem.Spec PyProof.Rows L2
variable [TabsCtx]
section
variable {X : Cx} {W : WX} {pos : Pos} {a b e : Expr} {fa fb f : Fe} {es : List Expr} {fs : Fa}
structure DOpL (X : Cx) (F : Value → Value → Sem Value) (g : Store → D → D → Option (List D)) : Prop where
  ex : ∃ r : R2, OpR X F r ∧ ∀ (B : List Addr) (x y : V) (H : Hp) (m : List Addr) (st : Store) (da db : D) (ds : List D) (Q : VK), RepSt ⟨X.K, B⟩ H m st → Rep ⟨X.K, B⟩ H m da x → Rep ⟨X.K, B⟩ H m db y → g st da db = some ds →
    (∀ p vs, H p = none → RepL ⟨X.K, B⟩ H m ds vs → Q (.ref p) (upd H p (.lst vs))) → r x y H Q
structure DCallL (X : Cx) (f : Value) (g : Store → List D → Option (List D)) : Prop where
  ex : ∃ r, CallR X f r ∧ ∀ (B : List Addr) (xs : List V) (H : Hp) (m : List Addr) (st : Store) (ds es : List D) (Q : VK), RepSt ⟨X.K, B⟩ H m st → RepL ⟨X.K, B⟩ H m ds xs → g st ds = some es →
    (∀ p vs, H p = none → RepL ⟨X.K, B⟩ H m es vs → Q (.ref p) (upd H p (.lst vs))) → r xs H Q
def placeO (o : Option (List D)) (st : Store) : Res D := match o with
  | some ds => .ok (.loc st.length) (st ++ [.lst ds])
  | none => .fail
@[simp] theorem placeO_some (ds : List D) (st : Store) : placeO (some ds) st = .ok (.loc st.length) (st ++ [.lst ds]) := id rfl
@[simp] theorem placeO_none (st : Store) : placeO none st = .fail := id rfl
def xOpN (g : Store → D → D → Option (List D)) (fa fb : Fe) : Fe := fun ρ st => (fa ρ st).bind fun da s1 => (fb ρ s1).bind fun db s2 => placeO (g s2 da db) s2
def xCallN (g : Store → List D → Option (List D)) (fa : Fa) : Fe := fun ρ st => (fa ρ st).bind fun ds s1 => placeO (g s1 ds) s1
theorem good_place {K : KB} {H : Hp} {m : List Addr} {o : Option (List D)} {st : Store} {R : V → Hp → Prop} {W : WH} (rs : RepSt K H m st) (h : GoodR (Rep K) (placeO o st) R W K H m) : ∃ ds, o = some ds ∧ ∀ p vs, H p = none → RepL K H m ds vs → R (.ref p) (upd H p (.lst vs)) := by
  cases o with
  | none => exact h.elim
  | some ds =>
    refine ⟨ds, rfl, fun p vs hp r => ?_⟩
    obtain ⟨a1, a2, a3⟩ := new_place rs r hp
    exact h (.ref p) _ _ a1 a2 a3
theorem de_opN {op : Operator} {g : Store → D → D → Option (List D)} (o : DOpL X (binaryOp op) g) (ha : DE X W a fa) (hb : DE X W b fb) : DE X W (.BinOp a op b pos) (xOpN g fa fb) := by
  obtain ⟨r, hr, hq⟩ := o
  obtain ⟨ta, pa, qa⟩ := ha
  obtain ⟨tb, pb, qb⟩ := hb
  refine ⟨_, pe_op hr pa pb, fun B σ H ρ st m Q re rs h => ?_⟩
  refine qa B σ H ρ st m _ re rs (good_bind h fun da s1 x H1 m1 e1 r1 rs1 h1 => ?_)
  refine qb B σ H1 ρ s1 m1 _ (re.evo e1) rs1 (good_bind h1 fun db s2 y H2 m2 e2 r2 rs2 h2 => ?_)
  obtain ⟨ds, hd, q⟩ := good_place rs2 h2
  exact hq B x y H2 m2 s2 da db ds Q rs2 (Rep.evo e2 _ _ r1) r2 hd q
theorem de_callTyN {x : Str} {p : Pos} {T : String} {g : Store → List D → Option (List D)} (hc : DCallL X (.type T) g) (hg : Gl X x) (hm : X.mg x = none) (hv : bootBuiltins x = some (.type T)) (ha : DA X W (e :: es) fs) (hn : x ≠ "__name__" := by decide) (hdb : (x == ("__debug__" : Str)) = false := by decide)
    (he : starEach (e :: es) X.env = (false, eval e X.env) :: starEach es X.env := by rfl) (hpl : (backTo pos (starEach es X.env)).any (·.1) = false := by rfl) : DE X W (.Call (.Name x p) (e :: es) [] pos) (xCallN g fs) := by
  obtain ⟨r, hr, hq⟩ := hc
  obtain ⟨⟨t, pt, q⟩, _⟩ := ha
  refine ⟨_, pe_callTy hr hg hm hv pt hn hdb he hpl, fun B σ H ρ st m Q re rs h => ?_⟩
  refine q B σ H ρ st m _ re rs (good_bind h fun ds s1 xs H1 m1 e1 r1 rs1 h1 => ?_)
  obtain ⟨es, hd, q⟩ := good_place rs1 h1
  exact hq B xs H1 m1 s1 ds es Q rs1 r1 hd q
def gAddL (st : Store) (a b : D) : Option (List D) := (lstM st a).bind fun x => (lstM st b).bind fun y => if x.length + y.length ≤ sizeLine then some (x ++ y) else none
theorem dl_add : DOpL X (binaryOp .Add) gAddL := ⟨_, op_cat, fun B x y H m st da db ds Q rs ra rb h q => by
  obtain ⟨xs, h1, h⟩ := Option.bind_eq_some_iff.mp h
  obtain ⟨ys, h2, h⟩ := Option.bind_eq_some_iff.mp h
  split at h
  · rename_i hz
    cases h
    obtain ⟨a, vs, rfl, ha, la⟩ := lstM_rep rs ra h1
    obtain ⟨b, ws, rfl, hb, lb⟩ := lstM_rep rs rb h2
    exact ⟨a, b, vs, ws, rfl, rfl, ha, hb, by rw [← la.length, ← lb.length]; exact hz, fun p hp => q p _ hp (la.append lb)⟩
  · cases h⟩
def gMulL (st : Store) (a b : D) : Option (List D) := match b with
  | .int k => (lstM st a).bind fun x => if -(2 ^ 63) ≤ k ∧ k < 2 ^ 63 ∧ x.length * k.toNat ≤ sizeLine then some (List.replicate k.toNat x).flatten else none
  | _ => none
theorem dl_mul : DOpL X (binaryOp .Mult) gMulL := ⟨_, op_rep, fun B x y H m st da db ds Q rs ra rb h q => by
  unfold gMulL at h
  split at h
  · obtain ⟨xs, h1, h⟩ := Option.bind_eq_some_iff.mp h
    split at h
    · rename_i hz
      cases h
      obtain ⟨a, vs, rfl, ha, la⟩ := lstM_rep rs ra h1
      exact ⟨a, _, vs, rfl, Rep.int_iff.mp rb, ha, hz.1, hz.2.1, by rw [← la.length]; exact hz.2.2, fun p hp => q p _ hp (la.replicate _)⟩
    · cases h
  · cases h⟩
end
end DL
namespace DL
open PySem PySem.Spec PyProof.Rows L2
variable [TabsCtx]
theorem _root_.L2.Room.hu {k : Nat} {A : Around} (r : Room k A) : A.units + 64 < cLine := by have := r.un; omega
/-- enough turns for a common divisor by Euclid: slot 1 gets less at each turn -/
def gcdFuel (j : Nat) (ρ : DEnv) : Nat := match ρ[j]? with
  | some (some (.int i)) => i.natAbs + 1
  | _ => 0
end DL
namespace DL
open PySem PySem.Spec PyProof.Rows L2
variable [TabsCtx]
section
variable {ρ : DEnv} {st : Store}
@[simp] theorem ev_xVar (i : Nat) : xVar i ρ st = match ρ[i]? with
  | some (some d) => .ok d st
  | _ => .fail := id rfl
@[simp] theorem ev_xC (d : D) : xC d ρ st = .ok d st := id rfl
@[simp] theorem ev_xOp (g : G2) (fa fb : Fe) : xOp g fa fb ρ st = (fa ρ st).bind fun da s1 => (fb ρ s1).bind fun db s2 => lift (g s2 da db) s2 := id rfl
@[simp] theorem ev_xUn (g : G1) (fa : Fe) : xUn g fa ρ st = (fa ρ st).bind fun da s1 => lift (g s1 da) s1 := id rfl
@[simp] theorem ev_xCall (g : GL) (fa : Fa) : xCall g fa ρ st = (fa ρ st).bind fun ds s1 => lift (g s1 ds) s1 := id rfl
@[simp] theorem ev_aNil : aNil ρ st = .ok [] st := id rfl
@[simp] theorem ev_aCons (f : Fe) (fs : Fa) : aCons f fs ρ st = (f ρ st).bind fun d s1 => (fs ρ s1).bind fun ds s2 => .ok (d :: ds) s2 := id rfl
@[simp] theorem ev_xTup (fs : Fa) : xTup fs ρ st = (fs ρ st).bind fun ds s1 => .ok (.tup ds) s1 := id rfl
@[simp] theorem ev_xLst (fs : Fa) : xLst fs ρ st = (fs ρ st).bind fun ds s1 => .ok (.lst ds) s1 := id rfl
@[simp] theorem ev_xNew (fs : Fa) : xNew fs ρ st = (fs ρ st).bind fun ds s1 => .ok (.loc s1.length) (s1 ++ [.lst ds]) := id rfl
@[simp] theorem ev_tVal (f : Fe) : tVal f ρ st = (f ρ st).bind fun d s1 => liftB (tB d) s1 := id rfl
@[simp] theorem ev_tB (b : Bool) : tB (.bl b) = some b := id rfl
@[simp] theorem ev_tAndF (f g : Ft) : tAndF f g ρ st = (f ρ st).bind fun b s1 => if b = true then g ρ s1 else .ok false s1 := id rfl
@[simp] theorem ev_tOrF (f g : Ft) : tOrF f g ρ st = (f ρ st).bind fun b s1 => if b = true then .ok true s1 else g ρ s1 := id rfl
@[simp] theorem ev_tNotF (f : Ft) : tNotF f ρ st = (f ρ st).bind fun b s1 => .ok (!b) s1 := id rfl
@[simp] theorem ev_tAll : tAll ρ st = .ok true st := id rfl
@[simp] theorem ev_xAndF (f g : Fe) : xAndF f g ρ st = (f ρ st).bind fun d s1 => match d with
  | .bl true => g ρ s1
  | .bl false => .ok (.bl false) s1
  | _ => .fail := id rfl
@[simp] theorem ev_xOrF (f g : Fe) : xOrF f g ρ st = (f ρ st).bind fun d s1 => match d with
  | .bl true => .ok (.bl true) s1
  | .bl false => g ρ s1
  | _ => .fail := id rfl
@[simp] theorem ev_xNotF (f : Fe) : xNotF f ρ st = (f ρ st).bind fun d s1 => match d with
  | .bl b => .ok (.bl (!b)) s1
  | _ => .fail := id rfl
@[simp] theorem ev_xIf (c : Ft) (f g : Fe) : xIf c f g ρ st = (c ρ st).bind fun b s1 => if b = true then f ρ s1 else g ρ s1 := id rfl
@[simp] theorem ev_xChain (g g' : G2) (fa fb fc : Fe) : xChain g g' fa fb fc ρ st = (fa ρ st).bind fun da s1 => (fb ρ s1).bind fun db s2 => (lift (g s2 da db) s2).bind fun k s3 => match k with
  | .bl true => (fc ρ s3).bind fun dc s4 => lift (g' s4 db dc) s4
  | .bl false => .ok (.bl false) s3
  | _ => .fail := id rfl
@[simp] theorem ev_oNone : oNone ρ st = .ok none st := id rfl
@[simp] theorem ev_oSome (f : Fe) : oSome f ρ st = (f ρ st).bind fun d s1 => match d with
  | .int i => .ok (some i) s1
  | _ => .fail := id rfl
@[simp] theorem ev_xSl (g : GS) (fa : Fe) (fl fh : Fo) : xSl g fa fl fh ρ st = (fa ρ st).bind fun da s1 => (fl ρ s1).bind fun lo s2 => (fh ρ s2).bind fun hi s3 => lift (g s3 da lo hi) s3 := id rfl
@[simp] theorem ev_xBack (f : Fe) : xBack f ρ st = (f ρ st).bind fun d s1 => lift (gBack s1 d) s1 := id rfl
@[simp] theorem ev_xDic0 : xDic0 ρ st = .ok (.loc st.length) (st ++ [.dic []]) := id rfl
@[simp] theorem ev_xSortKey (F : Fd) (f : Fe) : xSortKey F f ρ st = (f ρ st).bind fun d s1 => lift (gSortKey F s1 d) s1 := id rfl
@[simp] theorem ev_xOpN (g : Store → D → D → Option (List D)) (fa fb : Fe) : xOpN g fa fb ρ st = (fa ρ st).bind fun da s1 => (fb ρ s1).bind fun db s2 => placeO (g s2 da db) s2 := id rfl
@[simp] theorem ev_xApply (F : Fd) (fa : Fa) : xApply F fa ρ st = (fa ρ st).bind fun ds s1 => F ds s1 := id rfl
@[simp] theorem ev_xApp (fo fe : Fe) : xApp fo fe ρ st = (fo ρ st).bind fun o s1 => match o with
  | .loc l => match s1[l]? with
    | some (.lst _) => (fe ρ s1).bind fun d s2 => match s2[l]? with
      | some (.lst ds) => if ds.length < sizeLine then .ok .non (s2.set l (.lst (ds ++ [d]))) else .fail
      | _ => .fail
    | _ => .fail
  | _ => .fail := id rfl
@[simp] theorem ev_sSet (i : Nat) (f : Fe) : sSet i f ρ st = (f ρ st).thenS ρ fun d s1 => .nx (ρ.set i (some d)) s1 := id rfl
@[simp] theorem ev_sDrop (f : Fe) : sDrop f ρ st = (f ρ st).thenS ρ fun _ s1 => .nx ρ s1 := id rfl
@[simp] theorem ev_sRet (f : Fe) : sRet f ρ st = (f ρ st).thenS ρ fun d s1 => .ret d s1 := id rfl
@[simp] theorem ev_sRetN : sRetN ρ st = .ret .non st := id rfl
@[simp] theorem ev_sPass : sPass ρ st = .nx ρ st := id rfl
@[simp] theorem ev_sBrk : sBrk ρ st = .brk ρ st := id rfl
@[simp] theorem ev_sCnt : sCnt ρ st = .cnt ρ st := id rfl
@[simp] theorem ev_sNever : sNever ρ st = .fail := id rfl
@[simp] theorem ev_sSeq (f g : Fs) : sSeq f g ρ st = (f ρ st).seq g := id rfl
@[simp] theorem seq_nx (g : Fs) : (SRes.nx ρ st).seq g = g ρ st := id rfl
@[simp] theorem seq_ret (d : D) (g : Fs) : (SRes.ret d st).seq g = .ret d st := id rfl
@[simp] theorem seq_brk (g : Fs) : (SRes.brk ρ st).seq g = .brk ρ st := id rfl
@[simp] theorem seq_cnt (g : Fs) : (SRes.cnt ρ st).seq g = .cnt ρ st := id rfl
@[simp] theorem ev_sIf (c : Ft) (f g : Fs) : sIf c f g ρ st = (c ρ st).thenS ρ fun b s1 => if b = true then f ρ s1 else g ρ s1 := id rfl
@[simp] theorem ev_gN (i : Nat) (d : D) : gN i d ρ = some (ρ.set i (some d)) := id rfl
@[simp] theorem ev_gT (n : Nat) (gs : Fgs) (ds : List D) : gT n gs (.tup ds) ρ = if ds.length = n then gs ds ρ else none := id rfl
@[simp] theorem ev_gsNil : gsNil [] ρ = some ρ := id rfl
@[simp] theorem ev_gsCons (g : Fg) (gs : Fgs) (d : D) (ds : List D) : gsCons g gs (d :: ds) ρ = (g d ρ).bind fun ρ1 => gs ds ρ1 := id rfl
@[simp] theorem ev_sAsg (f : Fe) (g : Fg) : sAsg f g ρ st = (f ρ st).thenS ρ fun d s1 => match g d ρ with
  | some ρ' => .nx ρ' s1
  | none => .fail := id rfl
@[simp] theorem ev_sPar (i j : Nat) (fa : Fa) : sPar i j fa ρ st = (fa ρ st).thenS ρ fun ds s1 => match ds with
  | [a, b] => .nx ((ρ.set i (some a)).set j (some b)) s1
  | _ => .fail := id rfl
@[simp] theorem ev_sPut (fo fi fe : Fe) : sPut fo fi fe ρ st = (fe ρ st).thenS ρ fun d s1 => (fo ρ s1).thenS ρ fun o s2 => (fi ρ s2).thenS ρ fun k s3 => match putL s3 o k d with
  | some s4 => .nx ρ s4
  | none => .fail := id rfl
@[simp] theorem ev_iOf (f : Fe) : iOf f ρ st = (f ρ st).bind fun d s1 => liftI (seqI s1 d) s1 := id rfl
@[simp] theorem ev_iSt (g : Store → List D → Option (List D × List Nat)) (fa : Fa) : iSt g fa ρ st = (fa ρ st).bind fun ds s1 => liftI (g s1 ds) s1 := id rfl
@[simp] theorem ev_iRng (g : List D → Option (List D × List Nat)) (fa : Fa) : iRng g fa ρ st = (fa ρ st).bind fun ds s1 => liftI (g ds) s1 := id rfl
@[simp] theorem ev_sFor (fi : Fi) (g : Fg) (b : Fs) : sFor fi g b ρ st = (fi ρ st).thenS ρ fun p s1 => if sameAt p.2 s1 s1 = true then forD g b p.2 s1 p.1 ρ s1 else .fail := id rfl
@[simp] theorem ev_sWhile (fu : DEnv → Store → Nat) (t : Ft) (b : Fs) : sWhile fu t b ρ st = whileD t b (fu ρ st) ρ st := id rfl
@[simp] theorem ev_xLc (fi : Fi) (g : Fg) (t : Ft) (f : Fe) (vs : List Nat) : xLc fi g t f vs ρ st = (fi ρ st).bind fun p s1 => if sameAt p.2 s1 s1 = true ∧ p.1.length ≤ sizeLine then (lcD g t f p.2 s1 (wipeD ρ vs) p.1 s1).bind fun ds s2 => .ok (.lst ds) s2 else .fail := by
  unfold xLc xLcF
  cases fi ρ st with
  | ok p s1 => simp only [Res.bind_ok]; split <;> rfl
  | exc c fs s => rfl
  | fail => rfl
@[simp] theorem ofS_nx : ofS (.nx ρ st) = .ok .non st := id rfl
@[simp] theorem ofS_ret (d : D) : ofS (.ret d st) = .ok d st := id rfl
@[simp] theorem sq_tup (ds : List D) : seqI st (.tup ds) = some (ds, []) := id rfl
@[simp] theorem sq_lst (ds : List D) : seqI st (.lst ds) = some (ds, []) := id rfl
@[simp] theorem sq_rol (ds : List D) : seqI st (.rol ds) = some (ds, []) := id rfl
@[simp] theorem en_one (d : D) : enI st [d] = (seqI st d).map fun p => (enum0 0 p.1, p.2) := id rfl
@[simp] theorem zp_two (d e : D) : zpI st [d, e] = (seqI st d).bind fun p => (seqI st e).map fun q => (zip2 p.1 q.1, p.2 ++ q.2) := id rfl
@[simp] theorem wipe_nil : wipeD ρ [] = ρ := id rfl
end
/-- a def that changes no place -/
theorem runP_ok {N : Nat} {b : Fs} {ds : List D} {st : Store} {d : D} (h : ofS (b (DL.start N ds) st) = .ok d st) (hd : D.und st.length d = true) : runP N b ds st = .ok d st := by
  unfold runP runD
  rw [h]
  unfold pureR
  simp [Store.beq_refl, frz, hd]
/-- .. whose own new places are forgotten -/
theorem runP_cut {N : Nat} {b : Fs} {ds : List D} {st s2 : Store} {d : D} (h : ofS (b (DL.start N ds) st) = .ok d (st ++ s2)) (hd : D.und st.length d = true) : runP N b ds st = .ok d st := by
  unfold runP runD
  rw [h]
  unfold pureR
  simp [Store.beq_refl, frz, hd]
theorem runP_below {N : Nat} {b : Fs} {ds : List D} {st s1 s2 : Store} {d : D} (h : ofS (b (DL.start N ds) st) = .ok d (s1 ++ s2)) (hl : s1.length = st.length) (hb : Store.below st.length s1 = true) (hd : D.und st.length d = true) : runP N b ds st = .ok d s1 := by
  unfold runP runD
  rw [h]
  unfold pureR
  have e : (s1 ++ s2).take st.length = s1 := by rw [← hl]; simp
  simp [e, hb, frz, hd]
/-- no place changes -/
theorem lcD_map {g : Fg} {t : Ft} {f : Fe} {ws : List Nat} {st : Store} {ρ : DEnv} (p : D → Bool) (h : D → D) (hw : sameAt ws st st = true) : ∀ items : List D,
    (∀ d ∈ items, ∃ ρ1, g d ρ = some ρ1 ∧ t ρ1 st = .ok (p d) st ∧ (p d = true → f ρ1 st = .ok (h d) st)) → lcD g t f ws st ρ items st = .ok ((items.filter p).map h) st
  | [], _ => rfl
  | d :: ds, hs => by
    obtain ⟨ρ1, h1, h2, h3⟩ := hs d (by simp)
    have ih := lcD_map p h hw ds fun x hx => hs x (by simp [hx])
    unfold lcD
    rw [h1]
    simp only [h2]
    cases hp : p d with
    | true => simp only [h3 hp, hw, if_true, ih, Res.bind_ok, List.filter_cons, hp, List.map_cons]
    | false => simp only [hw, if_true, ih, List.filter_cons, hp, Bool.false_eq_true, if_false]
theorem lcD_all {g : Fg} {f : Fe} {ws : List Nat} {st : Store} {ρ : DEnv} (h : D → D) (hw : sameAt ws st st = true) (items : List D)
    (hs : ∀ d ∈ items, ∃ ρ1, g d ρ = some ρ1 ∧ f ρ1 st = .ok (h d) st) : lcD g tAll f ws st ρ items st = .ok (items.map h) st := by
  have e := lcD_map (g := g) (t := tAll) (f := f) (ρ := ρ) (fun _ => true) h hw items fun d hd => let ⟨ρ1, a, b⟩ := hs d hd; ⟨ρ1, a, rfl, fun _ => b⟩
  rw [List.filter_eq_self.mpr fun _ _ => rfl] at e
  exact e
/-- places change as I tells; what comes is as P tells -/
theorem lcD_inv {g : Fg} {f : Fe} {ws : List Nat} {s0 : Store} {ρ : DEnv} (I : Nat → Store → Prop) (P : D → Prop) : ∀ (items : List D) (i : Nat) (st : Store), I i st →
    (∀ (j : Nat) (d : D) (s : Store), items[j]? = some d → I (i + j) s → ∃ ρ1 x s', g d ρ = some ρ1 ∧ f ρ1 s = .ok x s' ∧ sameAt ws s0 s' = true ∧ I (i + j + 1) s' ∧ P x) →
    ∃ xs s', lcD g tAll f ws s0 ρ items st = .ok xs s' ∧ xs.length = items.length ∧ I (i + items.length) s' ∧ ∀ x ∈ xs, P x
  | [], i, st, h, _ => ⟨[], st, rfl, rfl, h, fun x hx => by simp at hx⟩
  | d :: ds, i, st, h, hs => by
    obtain ⟨ρ1, x, s', h1, h2, h3, h4, h5⟩ := hs 0 d st rfl h
    obtain ⟨xs, s2, e, hl, hI, hP⟩ := lcD_inv I P ds (i + 1) s' h4 fun j d' s hj hI => by
      have e : i + 1 + j = i + (j + 1) := by omega
      rw [e] at hI
      obtain ⟨a, b, c, q1, q2, q3, q4, q5⟩ := hs (j + 1) d' s (by simpa using hj) hI
      exact ⟨a, b, c, q1, q2, q3, by rw [e]; exact q4, q5⟩
    refine ⟨x :: xs, s2, ?_, by simp [hl], by simpa [Nat.add_assoc, Nat.add_comm 1] using hI, fun y hy => ?_⟩
    · unfold lcD
      rw [h1]
      simp only [ev_tAll, h2, h3, if_true, e, Res.bind_ok]
    · rcases List.mem_cons.mp hy with z | z
      · rw [z]; exact h5
      · exact hP y z
/-- each turn goes on -/
theorem forD_nx {g : Fg} {body : Fs} {ws : List Nat} {s0 : Store} (I : Nat → DEnv → Store → Prop) : ∀ (items : List D) (i : Nat) (ρ : DEnv) (st : Store), I i ρ st →
    (∀ (j : Nat) (d : D) (ρ : DEnv) (s : Store), items[j]? = some d → I (i + j) ρ s → ∃ ρ1 ρ2 s2, g d ρ = some ρ1 ∧ body ρ1 s = .nx ρ2 s2 ∧ sameAt ws s0 s2 = true ∧ I (i + j + 1) ρ2 s2) →
    ∃ ρ2 s2, forD g body ws s0 items ρ st = .nx ρ2 s2 ∧ I (i + items.length) ρ2 s2
  | [], i, ρ, st, h, _ => ⟨ρ, st, rfl, h⟩
  | d :: ds, i, ρ, st, h, hs => by
    obtain ⟨ρ1, ρ2, s2, h1, h2, h3, h4⟩ := hs 0 d ρ st rfl h
    obtain ⟨ρ3, s3, e, hI⟩ := forD_nx I ds (i + 1) ρ2 s2 h4 fun j d' ρ s hj hI => by
      have e : i + 1 + j = i + (j + 1) := by omega
      rw [e] at hI
      obtain ⟨a, b, c, q1, q2, q3, q4⟩ := hs (j + 1) d' ρ s (by simpa using hj) hI
      exact ⟨a, b, c, q1, q2, q3, by rw [e]; exact q4⟩
    refine ⟨ρ3, s3, ?_, by simpa [Nat.add_assoc, Nat.add_comm 1] using hI⟩
    unfold forD
    rw [h1]
    simp only [h2, h3, if_true, e]
/-- a tale of turns: each item goes on or ends the def -/
theorem forD_cons_nx {g : Fg} {body : Fs} {ws : List Nat} {s0 st s2 : Store} {d : D} {ds : List D} {ρ ρ1 ρ2 : DEnv} (h1 : g d ρ = some ρ1) (h2 : body ρ1 st = .nx ρ2 s2) (h3 : sameAt ws s0 s2 = true) : forD g body ws s0 (d :: ds) ρ st = forD g body ws s0 ds ρ2 s2 := by
  rw [forD, h1]
  simp only [h2, h3, if_true]
theorem forD_cons_ret {g : Fg} {body : Fs} {ws : List Nat} {s0 st s2 : Store} {d x : D} {ds : List D} {ρ ρ1 : DEnv} (h1 : g d ρ = some ρ1) (h2 : body ρ1 st = .ret x s2) : forD g body ws s0 (d :: ds) ρ st = .ret x s2 := by
  rw [forD, h1]
  simp only [h2]
theorem undL_append {n : Nat} : ∀ {xs ys : List D}, D.undL n xs = true → D.undL n ys = true → D.undL n (xs ++ ys) = true
  | [], _, _, h => h
  | x :: xs, _, h, h' => by
    simp only [D.undL, Bool.and_eq_true, List.cons_append] at h ⊢
    exact ⟨h.1, undL_append h.2 h'⟩
@[simp] theorem undL_ints (n : Nat) : ∀ xs : List Int, D.undL n (xs.map D.int) = true
  | [] => by simp [D.undL]
  | x :: xs => by simp [D.undL, D.und, undL_ints n xs]
@[simp] theorem und_bl (n : Nat) (b : Bool) : D.und n (.bl b) = true := by simp [D.und]
@[simp] theorem und_int (n : Nat) (b : Int) : D.und n (.int b) = true := by simp [D.und]
@[simp] theorem und_str (n : Nat) (b : Str) : D.und n (.str b) = true := by simp [D.und]
@[simp] theorem und_non (n : Nat) : D.und n .non = true := by simp [D.und]
@[simp] theorem und_tup (n : Nat) (ds : List D) : D.und n (.tup ds) = D.undL n ds := by simp [D.und]
@[simp] theorem und_lst (n : Nat) (ds : List D) : D.und n (.lst ds) = D.undL n ds := by simp [D.und]
theorem undL_all {n : Nat} : ∀ {xs : List D}, D.undL n xs = true ↔ ∀ d ∈ xs, D.und n d = true
  | [] => by simp [D.undL]
  | x :: xs => by simp [D.undL, undL_all (xs := xs)]
end DL
namespace DL
open PySem PySem.Spec PyProof.Rows L2
variable [TabsCtx]
section
variable {st : Store}
theorem toPyL_ints : ∀ xs : List Int, toPyL (xs.map D.int) = some (xs.map PyData.int)
  | [] => rfl
  | x :: xs => by simp [toPyL, toPy, toPyL_ints xs]
theorem lay_ints : ∀ xs : List Int, PyData.canLayAll0 (xs.map PyData.int) = true
  | [] => rfl
  | x :: xs => by simp [PyData.canLayAll0, PyData.canLay0, lay_ints xs]
theorem depth_ints : ∀ xs : List Int, PyData.depthAll (xs.map PyData.int) = 0
  | [] => rfl
  | x :: xs => by simp [PyData.depthAll, PyData.depth, depth_ints xs]
theorem eqv_ints : ∀ xs ys : List Int, PyData.eqvAll (xs.map PyData.int) (ys.map PyData.int) = (xs == ys)
  | [], [] => rfl
  | [], _ :: _ => rfl
  | _ :: _, [] => rfl
  | x :: xs, y :: ys => by simp [PyData.eqvAll, PyData.eqv, eqv_ints xs ys]
@[simp] theorem pyOf_int (i : Int) : pyOf st (.int i) = some (.int i) := by
  simp [pyOf, toPyT, toPy, SeqAt.shaped, PyData.canLay0, PyData.depth]
@[simp] theorem pyOf_bl (i : Bool) : pyOf st (.bl i) = some (.bool i) := by
  simp [pyOf, toPyT, toPy, SeqAt.shaped, PyData.canLay0, PyData.depth]
@[simp] theorem pyOf_non : pyOf st .non = some .none := by
  simp [pyOf, toPyT, toPy, SeqAt.shaped, PyData.canLay0, PyData.depth]
@[simp] theorem pyOf_tupI (xs : List Int) : pyOf st (.tup (xs.map D.int)) = some (.tuple (xs.map PyData.int)) := by
  simp [pyOf, toPyT, toPy, toPyL_ints, SeqAt.shaped, PyData.canLay0, PyData.depth, lay_ints, depth_ints]
@[simp] theorem pyOf_lstI (xs : List Int) : pyOf st (.lst (xs.map D.int)) = some (.list (xs.map PyData.int)) := by
  simp [pyOf, toPyT, toPy, toPyL_ints, SeqAt.shaped, PyData.canLay0, PyData.depth, lay_ints, depth_ints]
@[simp] theorem pyOf_tup0 : pyOf st (.tup []) = some (.tuple []) := pyOf_tupI (st := st) []
@[simp] theorem pyOf_lst0 : pyOf st (.lst []) = some (.list []) := pyOf_lstI (st := st) []
@[simp] theorem gEq_int (a b : Int) : gEq st (.int a) (.int b) = some (.bl (a == b)) := by simp [gEq, PyData.eqv]
@[simp] theorem gNe_int (a b : Int) : gNe st (.int a) (.int b) = some (.bl (!(a == b))) := by simp [gNe, PyData.eqv]
@[simp] theorem gEq_tupI (a b : List Int) : gEq st (.tup (a.map D.int)) (.tup (b.map D.int)) = some (.bl (a == b)) := by simp [gEq, PyData.eqv, eqv_ints]
@[simp] theorem gNe_tupI (a b : List Int) : gNe st (.tup (a.map D.int)) (.tup (b.map D.int)) = some (.bl (!(a == b))) := by simp [gNe, PyData.eqv, eqv_ints]
@[simp] theorem gEq_lstI (a b : List Int) : gEq st (.lst (a.map D.int)) (.lst (b.map D.int)) = some (.bl (a == b)) := by simp [gEq, PyData.eqv, eqv_ints]
@[simp] theorem gNe_lstI (a b : List Int) : gNe st (.lst (a.map D.int)) (.lst (b.map D.int)) = some (.bl (!(a == b))) := by simp [gNe, PyData.eqv, eqv_ints]
theorem ones_eq {α : Type} (xs : List α) : (xs.map fun _ => D.int 1) = (xs.map fun _ => (1 : Int)).map D.int := by rw [List.map_map]; rfl
@[simp] theorem gEq_ones {α : Type} (xs : List α) : gEq st (.lst (xs.map fun _ => D.int 1)) (.lst []) = some (.bl xs.isEmpty) := by
  rw [ones_eq]
  have h := gEq_lstI (st := st) (xs.map fun _ => (1 : Int)) []
  rw [List.map_nil] at h
  rw [h]
  cases xs <;> rfl
@[simp] theorem gNe_ones {α : Type} (xs : List α) : gNe st (.lst (xs.map fun _ => D.int 1)) (.lst []) = some (.bl (!xs.isEmpty)) := by
  rw [ones_eq]
  have h := gNe_lstI (st := st) (xs.map fun _ => (1 : Int)) []
  rw [List.map_nil] at h
  rw [h]
  cases xs <;> rfl
@[simp] theorem gLt_int (a b : Int) : gLt st (.int a) (.int b) = some (.bl (decide (a < b))) := by simp [gLt, gII]
@[simp] theorem gLe_int (a b : Int) : gLe st (.int a) (.int b) = some (.bl (decide (a ≤ b))) := by simp [gLe, gII]
@[simp] theorem gGt_int (a b : Int) : gGt st (.int a) (.int b) = some (.bl (decide (a > b))) := by simp [gGt, gII]
@[simp] theorem gGe_int (a b : Int) : gGe st (.int a) (.int b) = some (.bl (decide (a ≥ b))) := by simp [gGe, gII]
@[simp] theorem gSub_int (a b : Int) : gSub st (.int a) (.int b) = some (.int (a - b)) := by simp [gSub, gII]
@[simp] theorem gAdd_int (a b : Int) : gAdd st (.int a) (.int b) = some (.int (a + b)) := rfl
theorem gMul_int {a b : Int} (h : a.natAbs.log2 + b.natAbs.log2 < 1000000) : gMulT st (.int a) (.int b) = some (.int (a * b)) := by
  show (if _ then _ else _) = _
  rw [if_pos h]
theorem gMod_int {a b : Int} (h : b ≠ 0) : gMod st (.int a) (.int b) = some (.int (a.fmod b)) := by simp [gMod, gII, h]
@[simp] theorem gLen_tup (ds : List D) : gLen st [.tup ds] = some (.int ds.length) := rfl
@[simp] theorem gLen_lst (ds : List D) : gLen st [.lst ds] = some (.int ds.length) := rfl
@[simp] theorem gLen_rol (ds : List D) : gLen st [.rol ds] = some (.int ds.length) := rfl
@[simp] theorem gAbs_int (i : Int) : gAbs st [.int i] = some (.int i.natAbs) := by
  show some (D.int (if i < 0 then -i else i)) = _
  congr 2
  split <;> omega
@[simp] theorem gInt_int (i : Int) : gInt st [.int i] = some (.int i) := rfl
@[simp] theorem gInt_bl (b : Bool) : gInt st [.bl b] = some (.int (if b then 1 else 0)) := rfl
@[simp] theorem gMax_two (i j : Int) : gMax st [.int i, .int j] = some (.int (if j > i then j else i)) := rfl
@[simp] theorem gMin_two (i j : Int) : gMin st [.int i, .int j] = some (.int (if j < i then j else i)) := rfl
@[simp] theorem gAll_bls (bs : List Bool) : gAll st [.lst (bs.map D.bl)] = some (.bl (bs.all id)) := by simp [gAll, lstV, bools_map]
@[simp] theorem gAny_bls (bs : List Bool) : gAny st [.lst (bs.map D.bl)] = some (.bl (bs.any id)) := by simp [gAny, lstV, bools_map]
@[simp] theorem gAll_map {α : Type} (p : α → Bool) (xs : List α) : gAll st [.lst (xs.map fun x => .bl (p x))] = some (.bl (xs.all p)) := by
  have e : (xs.map fun x => D.bl (p x)) = (xs.map p).map D.bl := by rw [List.map_map]; rfl
  rw [e, gAll_bls]
  simp
@[simp] theorem gAll_comp {α : Type} (p : α → Bool) (xs : List α) : gAll st [.lst (xs.map (D.bl ∘ p))] = some (.bl (xs.all p)) := gAll_map p xs
@[simp] theorem gAny_map {α : Type} (p : α → Bool) (xs : List α) : gAny st [.lst (xs.map fun x => .bl (p x))] = some (.bl (xs.any p)) := by
  have e : (xs.map fun x => D.bl (p x)) = (xs.map p).map D.bl := by rw [List.map_map]; rfl
  rw [e, gAny_bls]
  simp
@[simp] theorem gAny_comp {α : Type} (p : α → Bool) (xs : List α) : gAny st [.lst (xs.map (D.bl ∘ p))] = some (.bl (xs.any p)) := gAny_map p xs
@[simp] theorem gSum_ints (ns : List Int) : gSum st [.lst (ns.map D.int)] = some (.int ns.sum) := by simp [gSum, lstV, dInts_map]
@[simp] theorem gTupleOf_lst (ds : List D) : gTupleOf st [.lst ds] = some (.tup ds) := rfl
@[simp] theorem gTupleOf_tup (ds : List D) : gTupleOf st [.tup ds] = some (.tup ds) := rfl
@[simp] theorem gListOf_tup (ds : List D) : gListOf st [.tup ds] = some (.lst ds) := rfl
theorem gFdiv_int {a b : Int} (h : b ≠ 0) (hb : b.natAbs.log2 < 9000) : gFdiv st (.int a) (.int b) = some (.int (a.fdiv b)) := by simp [gFdiv, gII, h, hb]
theorem atI_nat {α : Type} {xs : List α} {i : Nat} {x : α} (h : xs[i]? = some x) : atI xs (i : Nat) = some x := by
  have hl : i < xs.length := (List.getElem?_eq_some_iff.mp h).1
  unfold atI ixN
  rw [if_pos (by omega), if_pos (by omega)]
  simpa using h
theorem gIx_tup (ds : List D) {i : Nat} {d : D} (h : ds[i]? = some d) : gIx st (.tup ds) (.int (i : Nat)) = some d := by
  show (seqV st (.tup ds)).bind (fun ds => atI ds (i : Nat)) = _
  exact atI_nat h
theorem gIx_lst (ds : List D) {i : Nat} {d : D} (h : ds[i]? = some d) : gIx st (.lst ds) (.int (i : Nat)) = some d := by
  show (seqV st (.lst ds)).bind (fun ds => atI ds (i : Nat)) = _
  exact atI_nat h
theorem gIx_rol (ds : List D) {i : Nat} {d : D} (h : ds[i]? = some d) : gIx st (.rol ds) (.int (i : Nat)) = some d := by
  show (seqV st (.rol ds)).bind (fun ds => atI ds (i : Nat)) = _
  exact atI_nat h
theorem gIx_loc {l : Nat} {ds : List D} (hl : st[l]? = some (.lst ds)) {i : Nat} {d : D} (h : ds[i]? = some d) : gIx st (.loc l) (.int (i : Nat)) = some d := by
  show (seqV st (.loc l)).bind (fun ds => atI ds (i : Nat)) = _
  rw [show seqV st (.loc l) = some ds by simp [seqV, lstV, hl]]
  exact atI_nat h
end
end DL
namespace DL
open PySem PySem.Spec PyProof.Rows L2
variable [TabsCtx]
def Shows (prog : Program) (w : World) (h0 : Heap) (u : Value) : Prop :=
  ∀ (A : Around) (E : Value → Shared → Prop) (s : Shared) (Q : Value → Shared → Prop), A.guards = some [] → A.units + 64 < cLine → (∀ b o, h0.get? b = some o → s.heap.get? b = some o) →
    (∀ (x : Str) (t : Tok) (h' : Heap) (tk : Nat), x.length + 100 ≤ sizeLine → (∀ b o, s.heap.get? b = some o → h'.get? b = some o) → Q (.str x t) { s with heap := h', toks := tk }) → wpAny (model prog w) A (pyReprObj u) Q E s
theorem shows_of {X : Cx} {pins : List (Addr × Obj)} {σ : Sg} {H : Hp} {s : Shared} {v : V} {p : PyData} {u : Value} (I : Inv X pins σ H s) (hd : Dp X.K H v p) (r : RelV v u) (hs : showD p = true) (hz : p.shown.length + 100 ≤ sizeLine) : Shows X.prog X.w s.heap u := by
  unfold showD at hs
  simp only [Bool.and_eq_true, Bool.not_eq_true', decide_eq_true_eq] at hs
  obtain ⟨⟨⟨h1, h2⟩, h3⟩, h4⟩ := hs
  obtain ⟨as, rd⟩ := Dp.reads I p v u hd r
  intro A E s' Q hg hu hk q
  cases p with
  | none =>
    cases rd
    exact PySem.pyReprObj_none (q "None" _ s'.heap _ hz fun _ _ e => e)
  | bool b =>
    cases rd
    exact PySem.pyReprObj_bool (q (if b then "True" else "False") _ s'.heap _ (by cases b <;> exact hz) fun _ _ e => e)
  | int i =>
    cases rd
    exact PySem.pyReprObj_int (of_decide_eq_true h1) (q _ _ s'.heap _ hz fun _ _ e => e)
  | str x =>
    cases rd
    exact PySem.pyReprObj_str (q _ _ s'.heap _ hz fun _ _ e => e) h2
  | list xs =>
    cases rd with
    | list e1 e2 e3 e4 => exact pyReprObj_of_reads (.list e1 e2 e3 e4) h1 (PyData.noDict_hsm h3) hg (by omega) hk (fun h' t tk k => q _ t h' tk hz k) h2
  | tuple xs =>
    cases rd with
    | tuple e1 e2 e3 e4 => exact pyReprObj_of_reads (.tuple e1 e2 e3 e4) h1 (PyData.noDict_hsm h3) hg (by omega) hk (fun h' t tk k => q _ t h' tk hz k) h2
  | dict kvs => cases h3
/-- the field f'{p..}' of the conversion c, in any later heap -/
def FShows (c : Int) (prog : Program) (w : World) (h0 : Heap) (u : Value) : Prop :=
  ∀ (A : Around) (E : Value → Shared → Prop) (s : Shared) (value : Expr) (pos : Pos) (env : Env) (Q : Value → Shared → Prop), A.guards = some [] → A.units + 64 < cLine → (∀ b o, h0.get? b = some o → s.heap.get? b = some o) →
    (∀ R : Value → Shared → Prop, R u s → wpAny (model prog w) A (eval value env) R E s) →
    (∀ (x : Str) (t : Tok) (h' : Heap) (tk : Nat), x.length + 100 ≤ sizeLine → (∀ b o, s.heap.get? b = some o → h'.get? b = some o) → Q (.str x t) { s with heap := h', toks := tk }) → wpAny (model prog w) A (eval (.FormattedValue value c none pos) env) Q E s
theorem Shows.field {prog : Program} {w : World} {h0 : Heap} {u : Value} (S : Shows prog w h0 u) : FShows 114 prog w h0 u := fun A E s value pos env Q hg hu hk hv q =>
  wpAny_FormattedValue_repr (hv _ (S A E s _ hg hu hk fun x t h' tk hz k => wpAny_formatField_str (q x t h' tk hz k) (q x _ h' _ hz k) (by omega)))
theorem field_none {prog : Program} {w : World} {h0 : Heap} : FShows (-1) prog w h0 .none := fun A E s value pos env Q hg hu hk hv q =>
  wpAny_FormattedValue_plain (hv _ (wpAny_formatField_none (q "None" _ s.heap _ (by rw [sizeLine_eq]; decide) fun _ _ e => e)))
theorem field_int {prog : Program} {w : World} {h0 : Heap} {i : Int} {t : Tok} (h1 : i.natAbs.log2 < 1920) (h2 : (toString i : Str).length + 100 ≤ sizeLine) : FShows (-1) prog w h0 (.int i t) := fun A E s value pos env Q hg hu hk hv q =>
  wpAny_FormattedValue_plain (hv _ (wpAny_formatField_int h1 (q _ _ s.heap _ h2 fun _ _ e => e)))
/-- f'{p!r} ..', f'.. {p!r}', f'{p!r}' -/
inductive JsForm (c : Int) (p : Str) : Expr → Prop where
  | a {m : Str} {j : Nat} {q1 q2 q3 q4 : Pos} (h : m.length ≤ 100) : JsForm c p (.JoinedStr [.FormattedValue (.Name p q1) c none q2, .Constant (.str m) j q3] q4)
  | b {m : Str} {j : Nat} {q1 q2 q3 q4 : Pos} (h : m.length ≤ 100) : JsForm c p (.JoinedStr [.Constant (.str m) j q3, .FormattedValue (.Name p q1) c none q2] q4)
  | c {q1 q2 q4 : Pos} : JsForm c p (.JoinedStr [.FormattedValue (.Name p q1) c none q2] q4)
section
variable {prog : Program} {w : World} {A : Around} {E : Value → Shared → Prop} {s : Shared} {env : Env} {h0 : Heap} {u : Value} {mL : Str → Option Value} {p : Str} {c : Int}
theorem fmt_run {q1 q2 : Pos} {Q : Value → Shared → Prop} (hk : env.scope.kind = .function) (hl : env.kindOf p = some .local) (hd : (p == ("__debug__" : Str)) = false) (hn : s.heap.Ns env.locals mL) (hv : mL p = some u) (S : FShows c prog w h0 u) (hg : A.guards = some []) (hu : A.units + 64 < cLine)
    (hkp : ∀ b o, h0.get? b = some o → s.heap.get? b = some o) (q : ∀ (x : Str) (t : Tok) (h' : Heap) (tk : Nat), x.length + 100 ≤ sizeLine → (∀ b o, s.heap.get? b = some o → h'.get? b = some o) → Q (.str x t) { s with heap := h', toks := tk }) :
    wpAny (model prog w) A (eval (.FormattedValue (.Name p q1) c none q2) env) Q E s := by
  exact S A E s (.Name p q1) q2 env Q hg hu hkp (fun R hR => wpAny_Name (wpAny_loadName_local hk hl hn hv hR) hd) q
theorem js_run {js : Expr} {Q : Value → Shared → Prop} (F : JsForm c p js) (hk : env.scope.kind = .function) (hl : env.kindOf p = some .local) (hd : (p == ("__debug__" : Str)) = false) (hn : s.heap.Ns env.locals mL) (hv : mL p = some u) (S : FShows c prog w h0 u) (hg : A.guards = some []) (hu : A.units + 64 < cLine)
    (hkp : ∀ b o, h0.get? b = some o → s.heap.get? b = some o) (q : ∀ (x : Str) (t : Tok) (h' : Heap) (tk : Nat), (∀ b o, s.heap.get? b = some o → h'.get? b = some o) → Q (.str x t) { s with heap := h', toks := tk }) :
    wpAny (model prog w) A (eval js env) Q E s := by
  cases F with
  | @a m j q1 q2 q3 q4 h =>
    refine wpAny_JoinedStr ?_
    rw [show evalEach [.FormattedValue (.Name p q1) c none q2, .Constant (.str m) j q3] env = [eval (.FormattedValue (.Name p q1) c none q2) env, eval (.Constant (.str m) j q3) env] by first | rfl | simp [evalEach]]
    refine fmt_run hk hl hd hn hv S hg hu hkp fun x t h' tk hz k => ?_
    refine ⟨x, t, rfl, by rw [Str.empty_append]; omega, Calls.Constant_str ⟨m, _, rfl, ?_, ?_⟩⟩
    · simp only [Str.length_append, Str.empty_append]; omega
    · refine ⟨by simp only [Str.length_append, Str.empty_append]; omega, q _ _ h' _ k⟩
  | @b m j q1 q2 q3 q4 h =>
    refine wpAny_JoinedStr ?_
    rw [show evalEach [.Constant (.str m) j q3, .FormattedValue (.Name p q1) c none q2] env = [eval (.Constant (.str m) j q3) env, eval (.FormattedValue (.Name p q1) c none q2) env] by first | rfl | simp [evalEach]]
    refine Calls.Constant_str ⟨m, _, rfl, by simp only [Str.length_append, Str.empty_append]; rw [sizeLine_eq]; omega, ?_⟩
    refine fmt_run hk hl hd (s := { s with toks := s.toks + 1 }) hn hv S hg hu hkp fun x t h' tk hz k => ?_
    refine ⟨x, t, rfl, by simp only [Str.length_append, Str.empty_append]; omega, ?_⟩
    exact ⟨by simp only [Str.length_append, Str.empty_append]; omega, q _ _ h' _ k⟩
  | c => exact wpAny_JoinedStr_one (fmt_run hk hl hd hn hv S hg hu hkp fun x t h' tk _ k => q x t h' tk k)
end
end DL
namespace DL
open PySem PySem.Spec PyProof.Rows L2 Builtin Builtin.ObjectAttr
variable [TabsCtx]
/-- what the base's __init__ must be, whoever made the object -/
structure InitF (cls initId : String) : Prop where
  slot : Slot cls "__init__" initId
  entry : entryFor table initId = some Builtin.«BaseException.__init__»
  kind : builtinKind initId = some .slot
  row : Manifest.signature? initId = some ⟨.positional, "*", cls, .self, [⟨"args", .varPos, false⟩]⟩
  star : (cls != "*") = true
theorem InitF.of {cls newId initId : String} (F : ExcCallFacts cls newId initId) : InitF cls initId := ⟨F.init, F.initEntry, F.initKind, F.initRow, F.noStar⟩
theorem initF_KeyError : InitF "KeyError" "KeyError.__init__" :=
  ⟨PyProof.Rows.excClass_KeyError.init, PyProof.Rows.excClass_KeyError.initEntry, by kernel_rfl, by kernel_rfl, by decide +kernel⟩
theorem kxs_KeyError : PySem.W.KxsFacts "KeyError" "KeyError.__init__" := ⟨by show builtinType _ = _; rw [builtinType_eq_fast]; kernel_rfl, by first | kernel_rfl | decide +kernel⟩
theorem store_KeyError : StoreFacts "KeyError" [.type "KeyError", .type "LookupError", .type "Exception", .type "BaseException", .type "object"] "object.__setattr__" "object" :=
  { PySem.F.store_LookupError with mro := by kernel_rfl, slot := .of (owner := "object") (n := "__setattr__") (by rw [typeLookup_type, builtinLookup_eq_fast]; kernel_rfl) (by decide +kernel) (by decide +kernel) (by decide +kernel) (by first | exact .inl (by decide +kernel) | exact .inr (by decide +kernel)) (by rw [isSubtype_type]; kernel_rfl) }
section
variable {M : Model} {A : Around} {E : Value → Shared → Prop} {h : Heap} {g : Array GenState} {d : Drawn} {t : Nat} {os : OsState}
variable {nm q : Str} {C N : Addr} {bs bm bmB : List Value} {hdct : Bool} {sn : List Str} {sub : List Value} {ab : Bool} {col : Option Bool} {dd : Option Addr} {k0 k1 k2 k3 k5 : Option Value} {B newId initId : String}
theorem InitF.check {cls : String} (F : InitF cls initId) {e : Addr} {ob : Obj} {more : List Value} {Q : Unit → Shared → Prop} (hC : h.get? C = some (excClassObj nm q C N bs bm hdct sn sub ab col dd k0 k1 k2 k3 k5 newId)) (he : h.get? e = some ob) (hc : ob.cls = .ref C) (fin : Q () ⟨h, g, d, t, os⟩) :
    wpAny M A (checkBoundCall initId ⟨.ref e :: more, []⟩) Q E ⟨h, g, d, t, os⟩ := by
  have st := F.star
  simp only [checkBoundCall, F.kind, F.row]
  repeat (first | (with_reducible refine wpAny_loadPart_at he ?_; rw [hc]) | with_reducible refine wpAny_loadPart_at hC ?_ | wp_step)
  have z : ∀ (a b : String) (n : Nat), Bind.check ⟨.positional, "*", cls, .self, [⟨"args", .varPos, false⟩]⟩ a b n (({ pos := Value.ref e :: more } : Args).kw.map fun x => x.fst) = pure () := fun a b n => check_star_args _ _ _ _ _ _
  refine wpAny_onRaise ?_; rw [z]; exact wpAny_pure fin
/-- what __new__ asks of the class's line -/
structure Line (B : String) (bm : List Value) : Prop where
  b : bm.contains (.type B) = true
  a : bm.contains (.type "AttributeError") = false
  n : bm.contains (.type "NameError") = false
theorem new_check (F : ExcBaseFacts B newId initId bmB) (L : Line B bm) {more : List Value} {Q : Unit → Shared → Prop} (hC : h.get? C = some (excClassObj nm q C N bs bm hdct sn sub ab col dd k0 k1 k2 k3 k5 newId)) (fin : Q () ⟨h, g, d, t, os⟩) :
    wpAny M A (checkBuiltinCall newId ⟨.ref C :: more, []⟩) Q E ⟨h, g, d, t, os⟩ := by
  have in_ : (Value.ref C :: bm).contains (.type B) = true := by simp only [List.contains_cons, L.b, Bool.or_true]
  have st := F.noStar
  simp only [checkBuiltinCall, F.newKind, F.newSplit, F.newRow]
  repeat (first | refine wpAny_loadPart_at hC ?_ | (refine wpAny_isSubtype_exc hC ?_; rw [in_]) | refine wpAny_staticBase_exc hC ?_ | refine wpAny_madeBy_exc hC ?_ | simp only [bne_self_eq_false, Bool.false_eq_true, if_false] | wp_step)
  exact fin
end
section
variable {prog : Program} {w : World} {A : Around} {E : Value → Shared → Prop} {R : Result → Shared → Prop} {h : Heap} {g : Array GenState} {d : Drawn} {t : Nat} {os : OsState}
variable {nm q : Str} {C N : Addr} {bs bm bmB : List Value} {hdct : Bool} {sn : List Str} {sub : List Value} {ab : Bool} {col : Option Bool} {dd : Option Addr} {k0 k1 k2 k3 k5 : Option Value} {B newId initId : String}
theorem new_run (F : ExcBaseFacts B newId initId bmB) (L : Line B bm) {more : List Value} (hC : h.get? C = some (excClassObj nm q C N bs bm hdct sn sub ab col dd k0 k1 k2 k3 k5 newId))
    (fin : R (.ok (.ret (.ref (h.objs.size + 1)))) ⟨(h.push (PySem.W.kdv_tup more)).push (HandSPX.excO C h.objs.size), g, d, t, os⟩) (hz : more.length ≤ sizeLine) :
    codeAny (model prog w) A (.builtin newId ⟨.ref C :: more, []⟩) R ⟨h, g, d, t, os⟩ := by
  have ends := F.ends
  have y1 : (Value.ref C :: bm).contains (.type B) = true := by simp only [List.contains_cons, L.b, Bool.or_true]
  have y2 : (Value.ref C :: bm).contains (.type "AttributeError") = false := by rw [List.contains_cons, L.a] <;> rfl
  have y3 : (Value.ref C :: bm).contains (.type "NameError") = false := by rw [List.contains_cons, L.n] <;> rfl
  refine codeAny_builtinAt F.entry ?_; unfold Builtin.«BaseException.__new__»
  refine PySem.wpAt_bind ?_; show PySem.wpAt _ _ _ (stack >>= _) _ _ _
  refine PySem.wpAt_bind (PySem.wpAt_stack fun p below => PySem.wpAt_of_wpAny ?_); wp_walk
  refine PySem.wpAt_of_wpAny ?_; rw [F.owner]
  repeat (first | with_reducible refine wpAny_madeHere_exc F.canon hC ?_ | with_reducible refine wpAny_loadPart_at hC ?_ | (with_reducible refine wpAny_isSubtype_exc hC ?_; first | rw [y1] | rw [y2] | rw [y3]) | wp_step)
  show R _ _; rw [Heap.size_push]; exact fin
theorem type_run (F : ExcBaseFacts B newId initId bmB) (L : Line B bm) {more : List Value} {fI : Addr} {Q : Fin → Shared → Prop} (hC : h.get? C = some (excClassObj nm q C N bs bm hdct sn sub ab col dd k0 k1 k2 k3 k5 newId))
    (hi : W.Looks (model prog w) h (typeLookup (.ref C) "__init__") (some (.ref fI))) (hb : ∀ self, W.Looks (model prog w) h (bindSpecial (.ref fI) self) (.ref fI, [self])) (hz : more.length ≤ sizeLine)
    (fin : codeAny (model prog w) A (.call (.ref fI) ⟨.ref (h.objs.size + 1) :: more, []⟩)
      (fun r s2 => match r with
        | .ok (.ret v) => v = .none ∧ Q (.done (.ret (.ref (h.objs.size + 1)))) s2
        | .ok _ => False
        | .error e => E e s2)
      ⟨(h.push (PySem.W.kdv_tup more)).push (HandSPX.excO C h.objs.size), g, d, t, os⟩) :
    wpAny (model prog w) A (Builtin.«type.__call__» ⟨.ref C :: more, []⟩) Q E ⟨h, g, d, t, os⟩ := by
  repeat (first | with_reducible refine wpAny_loadPart_at hC ?_ | with_reducible refine wpAny_madeBy_exc hC ?_ | wp_step)
  refine codeAny_call_builtin_code (Code.quiet_builtin _ F.quiet) (new_check F L hC ?_)
  refine new_run F L hC ?_ hz; show wpAny _ _ _ _ _ _
  have keep : ∀ b o, h.get? b = some o → ((h.push (PySem.W.kdv_tup more)).push (HandSPX.excO C h.objs.size)).get? b = some o := fun b o e => Heap.get?_push_of_some _ (Heap.get?_push_of_some _ e)
  have hC2 := keep _ _ hC
  have made : ((h.push (PySem.W.kdv_tup more)).push (HandSPX.excO C h.objs.size)).get? (h.objs.size + 1) = some (HandSPX.excO C h.objs.size) := by heap_get
  have self_ : (Value.ref C :: bm).contains (.ref C) = true := by simp
  have i2 := hi.keeps keep; have b2 := (hb (.ref (h.objs.size + 1))).keeps keep
  unfold isInstance
  repeat (first | with_reducible refine wpAny_loadPart_at made ?_ | (with_reducible refine wpAny_isSubtype_exc hC2 ?_; rw [self_]) | wp_step)
  show wpAny _ _ (typeLookup (.ref C) _) _ _ _; refine i2.at ?_
  refine wpAny_holding (wpAny_bind (b2.at ?_)); refine wpAny_bind (wpAny_call (codeAny_mono fin fun r s2 z => ?_))
  rcases r with e | (v | _ | _ | _) <;> first | exact z | exact z.elim | skip
  obtain ⟨rfl, z⟩ := z
  first
    | exact wpAny_pure (wpAny_pure z)
    | (wp_walk; exact z)
theorem cls_run (F : ExcBaseFacts B newId initId bmB) (L : Line B bm) {more : List Value} {fI : Addr} (hC : h.get? C = some (excClassObj nm q C N bs bm hdct sn sub ab col dd k0 k1 k2 k3 k5 newId))
    (hi : W.Looks (model prog w) h (typeLookup (.ref C) "__init__") (some (.ref fI))) (hb : ∀ self, W.Looks (model prog w) h (bindSpecial (.ref fI) self) (.ref fI, [self])) (hz : more.length ≤ sizeLine)
    (fin : codeAny (model prog w) (A.under (.builtin "type.__call__" ⟨.ref C :: more, []⟩)) (.call (.ref fI) ⟨.ref (h.objs.size + 1) :: more, []⟩) (W.InitBack (h.objs.size + 1) R) ⟨(h.push (PySem.W.kdv_tup more)).push (HandSPX.excO C h.objs.size), g, d, t, os⟩) :
    codeAny (model prog w) A (.call (.ref C) ⟨more, []⟩) R ⟨h, g, d, t, os⟩ := by
  have y1 := tc_lookup; have y2 := tc_bind (.ref C)
  have ty : (⟨h, g, d, t, os⟩ : Shared).TypeIs (.ref C) "type" := ⟨_, hC, rfl⟩
  refine codeAny_of_tree ?_; show wpAny _ _ (callAny (.ref C) _) _ _ _
  repeat (any_goals (first | assumption | with_reducible refine wpAny_loadPart_at hC ?_ | wp_step))
  refine ⟨rfl, ?_⟩
  refine codeAny_call_builtin_at (Code.quiet_builtin _ (by decide +kernel)) entry_typeCall (wpAny_check_type_call_sub hC (type_run F L hC hi hb hz ?_))
  refine codeAny_mono fin fun r s2 z => ?_
  rcases r with e | (v | _ | _ | _) <;> exact z
end
/-- super().__init__(js); self.fld = p -/
structure InitBody (c : Int) (body : List Stmt) (sf p fld : Str) : Prop where
  ex : ∃ (p0 p1 p2 p3 p4 p5 p6 p7 p8 : Pos) (js : Expr), JsForm c p js ∧ (p2.endLine == p3.line) = true ∧
    body = [.Expr (.Call (.Attribute (.Call (.Name "super" p0) [] [] p1) "__init__" p2) [js] [] p3) p4, .Assign [.Attribute (.Name sf p5) fld p6] (.Name p p7) p8]
/-- what the text says of such an __init__ -/
structure InitText (c : Int) (params : Arguments) (body : List Stmt) (scope : Scope) (sf p fld : Str) : Prop where
  frm : InitBody c body sf p fld
  bind : ∀ (q : Str) (kV doc pm : Value) (an : Option Addr) (cdv ct : Value) (cc : Addr) (s : Shared) (v u : Value), BindsTo s (PySem.W.ksFn "__init__" q params body scope .none kV doc pm an cdv ct cc) ⟨[v, u], []⟩ [(sf, v), (p, u)]
  first : ∃ ar : Arg, (params.posonlyargs ++ params.args).head? = some ar ∧ ar.arg = sf
  cell : ∀ x ∈ scope.names, x.2 ≠ .cell
  l1 : scope.names.lookup sf = some .local
  l2 : scope.names.lookup p = some .local
  ne : sf ≠ p
  co : scope.isCoroutine = false
  gen : scope.isGenerator = false
  kind : scope.kind = .function
  ks : scope.names.lookup ("super" : Str) = some .globalImplicit
  kc : scope.names.lookup ("__class__" : Str) = some .free
  d1 : (sf == ("__debug__" : Str)) = false
  d2 : (p == ("__debug__" : Str)) = false
/-- what the written part says of the class at C, whose __init__ stands at f -/
structure InitC (prog : Program) (K : PySem.W.Frag) (C f : Addr) (params : Arguments) (body : List Stmt) (scope : Scope) (fld : Str) (B newId initId : String) (bmB : List Value) : Prop where
  exc : PySem.W.excInitIn K C bmB newId = true
  over : PySem.W.excOver K C bmB = true
  keep : PySem.W.keepIn K (.ref C) = true
  init : PySem.W.findIn K (.ref C) "__init__" = some (some (.ref f))
  fn : PySem.W.typeIn K (.ref f) = some (.type "function")
  sa : PySem.W.findIn K (.ref C) "__setattr__" = some (some (.builtin "object.__setattr__"))
  tk : PySem.W.takerIn K C fld = some none
  hd : PySem.W.hasDictIn K C = true
  exC : PySem.W.subIn K (.ref C) (.type "BaseException") = some true
  exB : PySem.W.subIn K (.ref C) (.type B) = some true
  ty : PySem.W.typeIn K (.ref C) = some (.type "type")
  self : PySem.W.mroIn K C (.ref C) = some true
  sup : PySem.W.ks_superIn K C C "__init__" = some (some (.builtin initId))
  func : ∃ (qual : Str) (kV doc pm : Value) (an : Option Addr) (ct : Value) (cda cc : Addr) (oc : Value) (od : Option Addr) (osl : Array (Option Value)),
    K.lookup f = some ⟨oc, od, .func (PySem.W.ksFn "__init__" qual params body scope .none kV doc pm an (.ref cda) ct cc), osl⟩ ∧ PySem.W.codeIn K (.ref cda) qual = true ∧
      (∃ cl cld csl, K.lookup cc = some ⟨cl, cld, .cell (some (.ref C)), csl⟩) ∧ ∃ ccl cdd vs ccs file tf, K.lookup cda = some ⟨ccl, cdd, .fields vs, ccs⟩ ∧ vs[2]? = some (.str file tf) ∧ ((prog.main.file : Str) == file) = true
  opq : PySem.W.nsIn K cStatics "thirdparty.any" = some none
  top : (prog.main.scope.names.lookup ("super" : Str)).isSome = false
section
variable {prog : Program} {w : World} {K : PySem.W.Frag} {C f : Addr} {params : Arguments} {body : List Stmt} {scope : Scope} {fld sf p : Str} {B newId initId : String} {bmB : List Value}
/-- the base's __init__ bound to the exception, called -/
theorem mw_call {A : Around} {E : Value → Shared → Prop} {h : Heap} {g : Array GenState} {d : Drawn} {t : Nat} {os : OsState} {u e t0 : Addr} {rest : List Value} {Q : Value → Shared → Prop} (FB : InitF B initId) (X : K.In h) (q : PySem.W.excInitIn K C bmB newId = true)
    (hu : h.get? u = some (PySem.W.kxs_mw initId e)) (he : h.get? e = some (HandSPX.excO C t0)) (hz : rest.length ≤ sizeLine)
    (k : ∀ h' t1, (∀ b o, b ≠ e → h.get? b = some o → h'.get? b = some o) → h'.get? e = some (HandSPX.excO C t1) → Q .none ⟨h', g, d, t, os⟩) : wpAny (model prog w) A (call (.ref u) rest) Q E ⟨h, g, d, t, os⟩ := by
  obtain ⟨nm, N', qn, bs, bm, hdct, sn, sub, ab, col, dd, k0, k1, k2, k3, k5, hC, hT⟩ := PySem.W.excInit_of X q
  refine wpAny_call (codeAny_of_tree ?_)
  show wpAny _ A.in1 (callAny (.ref u) ⟨rest, []⟩) _ _ _
  simp only [callAny]
  refine wpAny_bind (wpAny_load hu ?_)
  simp only [PySem.W.kxs_mw, show (Value.type "method-wrapper" == Value.type "method" || Value.type "method-wrapper" == Value.type "builtin_function_or_method" || Value.type "method-wrapper" == Value.type "method-wrapper") = true by decide, if_true]
  refine PySem.W.KFB.if_so (by decide) ?_
  refine wpAny_bind (FB.check hC he rfl ?_)
  refine wpAny_bind (wpAny_pure (wpAny_pure ?_))
  refine ⟨plainId_quiet FB.slot.plain _, codeAny_builtin FB.entry ?_⟩
  exact PySem.W.exc_init_tree (cls := .ref C) (t0 := t0) (dv := none) (c2 := .none) (c3 := .none) (b4 := .bool false) he hz fun h' kk e' _ => k h' _ kk e'
/-- the first store into it -/
theorem exc_set {A : Around} {E : Value → Shared → Prop} {h : Heap} {g : Array GenState} {d : Drawn} {t : Nat} {os : OsState} {e t0 : Addr} {v : Value} {Q : Unit → Shared → Prop} (SF : StoreFacts B bmB "object.__setattr__" "object") (I : InitC prog K C f params body scope fld B newId initId bmB) (X : K.In h)
    (he : h.get? e = some (HandSPX.excO C t0))
    (k : ∀ h' t' dx, (∀ b o, b ≠ e → h.get? b = some o → h'.get? b = some o) → h.objs.size ≤ dx → h'.get? e = some ({ cls := .ref C, dict := some dx, data := .fields #[.ref t0, .none, .none, .none, .bool false, .none] } : Obj) →
      h'.Ns1 dx (fun y => if y = fld then some v else none) → Q () ⟨h', g, d, t', os⟩) : wpAny (model prog w) A (setAttr (.ref e) fld v) Q E ⟨h, g, d, t, os⟩ := by
  have IA : PySem.W.InstAt h e (HandSPX.excO C t0) C none := ⟨he, rfl, rfl, trivial⟩
  refine PySem.W.set_plain X IA I.sa (PySem.W.osa_openX (od := none) SF X IA I.over I.tk fun b => ?_)
  obtain ⟨cd, hc, hd'⟩ := PySem.W.any_some I.hd
  have hcls : PySem.W.Looks (model prog w) h (classData C) cd := PySem.W.looks_clsIn X hc
  have hxs : e ≠ h.objs.size := Nat.ne_of_lt (Heap.lt_size he)
  obtain ⟨nm, bs, mro, ns, qn, hd, sn, sb, ab, col, del⟩ := cd
  dsimp only at hd'
  subst hd'
  show wpAny _ _ (storeInOwnDict (.ref e) (.ref C) _ fld v b) _ _ _
  unfold storeInOwnDict ownDictForStores
  repeat (first | with_reducible refine HandSPX.store_in_new ?_ ?_ | with_reducible refine wpAny_loadPart_at he ?_ | with_reducible refine hcls.at ?_ | wp_step)
  · exact ⟨_, #[], _, (Heap.get?_update_ne _ _ _ _ hxs.symm).trans (Heap.get?_push_at rfl rfl), rfl, fun e he => absurd he (by simp), fun _ => rfl⟩
  · intro h' tk' hn' hs
    have hx₁ : (h.push { cls := .type "dict", data := .dict #[] }).get? e = some (HandSPX.excO C t0) := Heap.get?_push_of_some _ he
    refine k h' tk' h.objs.size (fun b o hb ho => ?_) (Nat.le_refl _) ?_ hn'
    · exact (hs.2 b (Nat.ne_of_lt (Heap.lt_size ho))).trans ((Heap.get?_update_ne _ _ _ _ hb).trans (Heap.get?_push_of_some _ ho))
    · exact (hs.2 e hxs).trans (Heap.get?_update_self _ hx₁ rfl)
end
end DL
namespace DL
open PySem PySem.Spec PyProof.Rows L2 Builtin Builtin.ObjectAttr
variable [TabsCtx]
section
variable {prog : Program} {w : World} {K : PySem.W.Frag} {C f : Addr} {params : Arguments} {body : List Stmt} {scope : Scope} {c : Int} {fld sf p : Str} {B newId initId : String} {bmB : List Value}
theorem look2 {sf p x : Str} {a u : Value} (ne : sf ≠ p) : ([(sf, a), (p, u)] : List (Str × Value)).reverse.lookup p = some u ∧ ([(sf, a), (p, u)] : List (Str × Value)).reverse.lookup sf = some a := by
  constructor
  · simp [List.lookup]
  · have e : (sf == p) = false := by simpa using ne
    simp [List.lookup, e]
/-- the function runs -/
theorem init_run {A : Around} {R : Result → Shared → Prop} {hp h0 : Heap} {g : Array GenState} {dr : Drawn} {tk : Nat} {os : OsState} {a t0 : Addr} {u : Value} {mg mb : Str → Option Value}
    (FB : InitF B initId) (KF : PySem.W.KxsFacts B initId) (SF : StoreFacts B bmB "object.__setattr__" "object") (T : InitText c params body scope sf p fld) (I : InitC prog K C f params body scope fld B newId initId bmB)
    (X : K.In hp) (hx : hp.get? a = some (HandSPX.excO C t0)) (N : hp.Ns mainGlobals mg) (hm : mg "super" = none) (Nb : hp.Ns builtinsNs mb) (hmb : mb "super" = some (.type "super")) (lim : hp.NoLimit)
    (X0 : K.In h0) (na : h0.get? a = none) (S : FShows c prog w h0 u) (hk0 : ∀ b o, h0.get? b = some o → hp.get? b = some o) (room : A.depth < recursionLimit) (hg : A.guards = some []) (hu : A.units + 100 < cLine)
    (q : ∀ hF tF dx t1, (∀ b o, b ≠ a → hp.get? b = some o → hF.get? b = some o) → hp.objs.size ≤ dx → hF.get? a = some ({ cls := .ref C, dict := some dx, data := .fields #[.ref t1, .none, .none, .none, .bool false, .none] } : Obj) →
      hF.Ns1 dx (fun y => if y = fld then some u else none) → R (.ok (.ret .none)) ⟨hF, g, dr, tF, os⟩) :
    codeAny (model prog w) A (.call (.ref f) ⟨[.ref a, u], []⟩) R ⟨hp, g, dr, tk, os⟩ := by
  obtain ⟨qual, kV, doc, pm, an, ct, cda, cc, oc, od, osl, lf, hcd, ⟨cl, cld, csl, lcc⟩, ccl, cdd, vs, ccs, file, tf, lcda, hvs, hfile⟩ := I.func
  obtain ⟨p0, p1, p2, p3, p4, p5, p6, p7, p8, js, J, hln, eb⟩ := T.frm.ex
  obtain ⟨ar, har, rfl⟩ := T.first
  obtain ⟨cd, hcl⟩ : ∃ cd, PySem.W.clsIn K C = some cd := by
    cases z : PySem.W.clsIn K C with
    | none => have y := I.self; unfold PySem.W.mroIn at y; rw [z] at y; cases y
    | some cd => exact ⟨cd, rfl⟩
  have hsup : PySem.W.alongIn K "__init__" ((cd.mro.dropWhile (· != .ref C)).drop 1) = some (some (.builtin initId)) := by
    have y := I.sup
    unfold PySem.W.ks_superIn at y
    rw [hcl] at y
    exact y
  obtain ⟨lp, ls⟩ := look2 (x := p) (a := Value.ref a) (u := u) T.ne
  have neC : a ≠ C := by
    intro z
    subst z
    unfold PySem.W.clsIn at hcl
    split at hcl
    · rename_i c d cd' sl ho
      have e := X _ _ ho
      rw [hx] at e
      cases e
    · cases hcl
  refine PySem.ks_codeAny_call_defAt (fd := PySem.W.ksFn "__init__" qual params body scope .none kV doc pm an (.ref cda) ct cc) (body := body) (binds := [(ar.arg, .ref a), (p, u)]) room (X _ _ lf) rfl lim (PySem.W.codeRec_of X hcd) rfl (T.bind _ _ _ _ _ _ _ _ _ _ _)
    T.cell (fun y hy => by
      rcases List.mem_cons.mp hy with z | z
      · rw [z]; exact T.l1
      · rw [List.mem_singleton.mp z]; exact T.l2) (fun h₁ hns hk₁ => ?_) T.co T.gen T.kind
  have X1 : K.In h₁ := X.keeps hk₁
  have hx1 := hk₁ _ _ hx
  show _root_.PySem.wpAt (model prog w) (A.deeper (PySem.W.ksEnv qual scope hp.objs.size f (.ref cda) cc)) (.func body (PySem.W.ksEnv qual scope hp.objs.size f (.ref cda) cc)) (execs body (PySem.W.ksEnv qual scope hp.objs.size f (.ref cda) cc)) _ _ _
  have hint : interactive (PySem.W.ksEnv qual scope hp.objs.size f (.ref cda) cc) = false := by unfold interactive; simp [T.kind]
  obtain ⟨env, henv⟩ : ∃ env, env = PySem.W.ksEnv qual scope hp.objs.size f (.ref cda) cc := ⟨_, rfl⟩
  have hsc : env.scope = scope := by rw [henv]
  have hlo : env.locals = hp.objs.size := by rw [henv]
  rw [← henv] at hint ⊢
  have hbody : execs body env = execs [.Expr (.Call (.Attribute (.Call (.Name "super" p0) [] [] p1) "__init__" p2) [js] [] p3) p4, .Assign [.Attribute (.Name ar.arg p5) fld p6] (.Name p p7) p8] env := by rw [eb]
  rw [hbody]
  obtain ⟨pl, he⟩ : ∃ pl, eval (.Call (.Attribute (.Call (.Name "super" p0) [] [] p1) "__init__" p2) [js] [] p3) env = (do
      let ov ← attributeBase (.Call (.Name "super" p0) [] [] p1) "__init__" env (eval (.Call (.Name "super" p0) [] [] p1) env)
      standAt p2.atName
      let (f, first) ← holding [ov] (getMethod ov "__init__" pl)
      callWith p3 f first (backTo p3 (starEach [js] env)) []) := by
    have e1 : ∀ (few : Bool) (o : Expr), methodCallPos few o env p2 p3 = pure p3 := fun few o => by unfold methodCallPos; rw [hln, Bool.or_true]; rfl
    cases J <;> (refine ⟨(do return (← importBound (.Call (.Name "super" p0) [] [] p1) env).getD true), ?_⟩; rw [show ∀ (o : Expr) (n : Str) (args : List Expr), eval (.Call (.Attribute o n p2) args [] p3) env = (do
      let ov ← attributeBase o n env (eval o env)
      standAt p2.atName
      methodCall o n p2 p3 env ov (args.length + ([] : List Keyword).length) (backTo p3 (starEach args env)) (backToKw p3 (keywordEach [] env))) from fun _ _ _ => by first | rfl | simp only [eval]]; unfold methodCall; simp only [e1, pure_bind]; rfl)
  refine ks_wpAt_execs_cons (ks_wpAt_Expr_any (ks_wpAt_MethodCall (pl := pl) ?_ he) hint (by cases J <;> rfl))
  refine ks_wpAt_super_base (of := ⟨oc, od, .func (PySem.W.ksFn "__init__" qual params body scope .none kV doc pm an (.ref cda) ct cc), osl⟩) (by rw [henv]; exact T.ks) (by rw [henv]; exact T.kc) (by decide) (by rw [henv]) (X1 _ _ lf) rfl har (by rw [henv]) (X1 _ _ lcda) rfl hvs hfile I.top ?_
  have hsf : env.scope.kind = .function := by rw [henv]; exact T.kind
  refine PySem.W.ks_loadName_global hsf (by rw [henv]; exact T.ks) (Calls.loadGlobal_builtin (mg := mg) (mb := mb) (by rw [henv]; exact N.keeps hk₁) hm (by rw [henv]; exact Nb.keeps hk₁) hmb ⟨rfl, ?_⟩)
  refine wpAny_loadName_free (c := cc) hsf (by rw [henv]; exact T.kc) (by rw [henv]; rfl) ⟨_, X1 _ _ lcc, rfl⟩ ?_
  have hns' : h₁.Ns env.locals fun y => ([(ar.arg, Value.ref a), (p, u)] : List (Str × Value)).reverse.lookup y := by rw [hlo]; exact hns
  refine wpAny_loadName_local hsf (by rw [henv]; exact T.l1) hns' ls ?_
  obtain ⟨oD, hD1, hD2⟩ : ∃ oD, h₁.get? C = some oD ∧ oD.data = .cls cd := by
    unfold PySem.W.clsIn at hcl
    split at hcl
    · rename_i c d cd' sl ho
      cases hcl
      exact ⟨_, X1 _ _ ho, rfl⟩
    · cases hcl
  refine ks_wpAny_isType_cls hD1 hD2 ⟨rfl, ?_⟩
  refine ks_wpAny_call_super hD1 hD2 hx1 rfl (fun c e => by cases e) (PySem.W.looks_mroIn X1 I.self) (fun h2 hso k2 => ?_)
  have X2 : K.In h2 := X1.keeps k2
  have hx2 := k2 _ _ hx1
  have IA : PySem.W.InstAt h2 a (HandSPX.excO C t0) C none := ⟨hx2, rfl, rfl, trivial⟩
  have gd : (A.deeper env).guards = some [] := hg
  have ud : (A.deeper env).units + 64 < cLine := by show A.units + 3 + 64 < _; omega
  refine PySem.W.kxs_getMethod KF hso (PySem.W.looks_opaque X2 I.opq) (fun A Q E s k q => wpAny_bind ((PySem.W.looks_clsIn X2 hcl) A _ E s k (wpAny_pure q))) rfl X2 hsup (IA.type.andThen (PySem.W.looks_subIn X2 I.exB)) neC (by decide) ?_
  have hst : starEach [js] env = (false, eval js env) :: starEach [] env := by cases J <;> rfl
  rw [hst]
  have k3 : ∀ b o, h2.get? b = some o → (h2.push (PySem.W.kxs_mw initId a)).get? b = some o := fun b o e => Heap.get?_push_of_some _ e
  have hmw : (h2.push (PySem.W.kxs_mw initId a)).get? h2.objs.size = some (PySem.W.kxs_mw initId a) := Heap.get?_push_size _ rfl
  have kp : ∀ b o, hp.get? b = some o → (h2.push (PySem.W.kxs_mw initId a)).get? b = some o := fun b o e => k3 _ _ (k2 _ _ (hk₁ _ _ e))
  have nsK : ∀ {h h' : Heap} {L : Addr} {m : Str → Option Value}, h.Ns L m → (∀ b o, b ≠ a → h.get? b = some o → h'.get? b = some o) → L ≠ a → h'.Ns L m := fun {h h' L m} ⟨o, es, ep, e, d, r⟩ k n => ⟨o, es, ep, k _ _ n e, d, r⟩
  have nL : env.locals ≠ a := by rw [hlo]; exact Nat.ne_of_gt (Heap.lt_size hx)
  have ns3 : (h2.push (PySem.W.kxs_mw initId a)).Ns env.locals fun y => ([(ar.arg, Value.ref a), (p, u)] : List (Str × Value)).reverse.lookup y := (hns'.keeps k2).keeps k3
  generalize h2.push (PySem.W.kxs_mw initId a) = h3 at hmw kp ns3
  refine PySem.W.kxs_callWith (i := initId) (x := a) (by rfl) (Calls.evalArgs_plain ?_)
  show wpAny _ _ (spliced ((false, eval js env) :: backTo p3 (starEach [] env))) _ _ _
  refine Calls.spliced_cons (js_run J (s := ⟨h3, g, dr, _, os⟩) hsf (by rw [henv]; exact T.l2) T.d2 ns3 lp S gd ud (fun b o e => kp _ _ (hk0 _ _ e)) fun x t h4 tk4 k4 => Calls.spliced_nil ⟨k4 _ _ hmw, ?_⟩)
  have X4 : K.In h4 := (X.keeps kp).keeps k4
  have hx4 := k4 _ _ (kp _ _ hx)
  refine mw_call FB X4 I.exc (k4 _ _ hmw) hx4 (by show 1 ≤ sizeLine; rw [sizeLine_eq]; omega) fun h5 t5 k5 e5 => ?_
  have ns5 := nsK (ns3.keeps k4) k5 nL
  have X5 : K.In h5 := fun b o e => by
    by_cases hb : b = a
    · subst hb
      have z := X0 _ _ e
      rw [na] at z
      cases z
    · exact k5 _ _ hb (X4 _ _ e)
  refine wpAt_of_wpAny (wpAny_execs_cons (plainObj_wpAny_Assign_Attribute (wpAny_Name (wpAny_loadName_local hsf (by rw [henv]; exact T.l2) ns5 lp (wpAny_Name (wpAny_loadName_local hsf (by rw [henv]; exact T.l1) ns5 ls ?_) T.d1)) T.d2) (by rfl)))
  refine exc_set SF I X5 e5 fun h6 t6 dx k6 s6 e6 n6 => wpAny_execs_nil ?_
  refine q h6 t6 dx t5 (fun b o hb e => k6 _ _ hb (k5 _ _ hb (k4 _ _ (kp _ _ e)))) ?_ e6 n6
  obtain ⟨oL, _, _, eL, _⟩ := ns5
  have lt := Heap.lt_size eL
  rw [hlo] at lt
  exact Nat.le_trans (Nat.le_of_lt lt) s6
/-- its text, in any later heap -/
def TShow (X : Cx) (c : Int) (H : Hp) (v : V) : Prop := ∀ (pins : List (Addr × Obj)) (σ : Sg) (s : Shared) (u : Value), Inv X pins σ H s → RelV v u → FShows c X.prog X.w s.heap u
/-- the class called with one value -/
theorem pmk_init {X : Cx} {x : Str} {pp pos : Pos} {e : Expr} {ta : TA} {Bn initN : String} {bmN : List Value} (FN : ExcBaseFacts Bn newId initN bmN) (LN : Line Bn bmB) (FB : InitF B initId) (KF : PySem.W.KxsFacts B initId) (SF : StoreFacts B bmB "object.__setattr__" "object") (T : InitText c params body scope sf p fld) (I : InitC X.prog X.K C f params body scope fld B newId initId bmB)
    (gx : X.mg x = some (.ref C)) (hsup : X.mg "super" = none) (hr : Room 1 X.A) (hgd : X.A.guards = some []) (he : PA X [e] ta) (hg : Gl X x := by rfl) (hdb : (x == ("__debug__" : Str)) = false := by decide)
    (hs : starEach [e] X.env = (false, eval e X.env) :: starEach [] X.env := by rfl) (hpl : (backTo pos (starEach [] X.env)).any (·.1) = false := by rfl) :
    PMk X (.Call (.Name x pp) [e] [] pos) (fun σ H Q => ta σ H fun vs H1 => ∃ v, vs = [v] ∧ TShow X c H1 v ∧ ∀ d, H1 d = none → Q (.ref C) (some d) (upd H1 d (.xd [(fld, v)]))) := by
  intro pins s σ H Q I0 h
  refine wpAny_Call_Name_kw (ld_glob I0 hg gx ?_ hdb)
  refine PySem.W.callWith_K (h₀ := X.base) I0.ok.mod.kin I.keep (thn (he.run pos pins s σ H _ I0 h) fun us s1 ⟨vs, H1, I1, r1, v, ev, ts, q1⟩ => ⟨I1.kIn, ?_⟩) hs hpl
  subst ev
  obtain ⟨u, rfl, ru⟩ := vals1 r1
  show wpAny _ _ (call (.ref C) [u]) _ _ _
  obtain ⟨hp, g, dr, tk, os⟩ := s1
  have S : FShows c X.prog X.w hp u := ts _ _ _ _ I1 ru
  obtain ⟨nm, N', qn, bs, bm, hdct, sn, sub, ab, col, dd, k0, k1, k2, k3, k5, hC, hT⟩ := PySem.W.excInit_of I1.kIn I.exc
  have kk : ∀ b o, hp.get? b = some o → ((hp.push (PySem.W.kdv_tup [u])).push (PySem.HandSPX.excO C hp.objs.size)).get? b = some o := fun b o e => Heap.get?_push_of_some _ (Heap.get?_push_of_some _ e)
  have hget : ((hp.push (PySem.W.kdv_tup [u])).push (PySem.HandSPX.excO C hp.objs.size)).get? (hp.objs.size + 1) = some (PySem.HandSPX.excO C hp.objs.size) := by heap_get
  have na : hp.get? (hp.objs.size + 1) = none := by
    cases z : hp.get? (hp.objs.size + 1) with
    | none => rfl
    | some o => exact absurd (Heap.lt_size z) (Nat.not_lt.mpr (Nat.le_succ _))
  have hr2 := hr.make C [u] []
  obtain ⟨mb, nb, hmb⟩ := I1.mod.blt
  have hu := hr.un
  have hdp := hr.dp
  refine wpAny_call (cls_run FN ⟨(hT _).trans LN.b, (hT _).trans LN.a, (hT _).trans LN.n⟩ hC (PySem.W.looks_findIn I1.kIn I.init) (fun self => PySem.W.bind_fn I1.kIn self I.fn) (small_line (n := 1) (by decide)) ?_)
  have X2 : X.K.In ((hp.push (PySem.W.kdv_tup [u])).push (PySem.HandSPX.excO C hp.objs.size)) := I1.kIn.keeps kk
  refine init_run (h0 := hp) (mg := X.mg) (mb := mb) FB KF SF T I X2 hget ((I1.mod.glob.keeps I1.bk).keeps kk) hsup ((nb.keeps I1.bk).keeps kk) ((hmb _ (by decide)).trans (by first | boot_by_name | rfl | kernel_rfl)) ((I1.mod.nolimit.keeps I1.bk).keeps kk) I1.kIn na S kk
    (by rw [make_depth]; omega) hgd (by rw [make_units]; omega) fun hF tF dx t1 kF sF eF nF => ?_
  refine ⟨rfl, ?_⟩
  obtain ⟨G, g1, g2⟩ := restrict hF fun b => decide (b ≠ hp.objs.size + 1)
  have gk : ∀ b, b ≠ hp.objs.size + 1 → G.get? b = hF.get? b := fun b hb => g1 b (decide_eq_true hb)
  have ge : G.get? (hp.objs.size + 1) = none := g2 _ (by simp)
  have nd : dx ≠ hp.objs.size + 1 := fun z => by
    obtain ⟨o, es, ep, e1, e2, _⟩ := nF
    rw [z, eF] at e1
    have z2 := Option.some.inj e1
    subst z2
    cases e2
  have kG : ∀ b o, hp.get? b = some o → G.get? b = some o := fun b o e => by
    have hb : b ≠ hp.objs.size + 1 := fun z => by rw [z, na] at e; cases e
    rw [gk b hb]
    exact kF b o hb (kk b o e)
  have sz : hp.objs.size ≤ dx := by
    have : hp.objs.size ≤ ((hp.push (PySem.W.kdv_tup [u])).push (PySem.HandSPX.excO C hp.objs.size)).objs.size := by rw [Heap.size_push, Heap.size_push]; omega
    exact Nat.le_trans this sF
  have hd1 : H1 dx = none := I1.hok.fresh sz
  have J : Inv X pins σ (upd H1 dx (.xd [(fld, v)])) ⟨G, g, dr, tF, os⟩ := I1.laid (a := dx) (o := .xd [(fld, v)]) kG sz ⟨_, nF.at fun o e => (gk dx nd).trans e, fun y => by
    by_cases hy : y = fld
    · rw [if_pos hy, hy]
      have e : ([(fld, v)] : List (Str × V)).lookup fld = some v := by simp [List.lookup]
      rw [e]
      exact ru
    · rw [if_neg hy]
      have e : (y == fld) = false := by simpa using hy
      simp only [List.lookup, e]
      exact trivial⟩
  refine ⟨hp.objs.size + 1, _, _, ⟨G, g, dr, tF, os⟩, _, .ref C, some dx, rfl, J, fun b o e => ?_, ge, eF, ⟨rfl, rfl⟩, rfl, rfl, ?_, rfl, I1.bare, raises_own I.exC I.ty, q1 dx hd1⟩
  · by_cases hb : b = hp.objs.size + 1
    · rw [hb, ge] at e; cases e
    · rw [← gk b hb]; exact e
  · rw [upd_ne (Ne.symm nd)]
    exact I1.hok.gone na
end
end DL
namespace DL
open PySem PySem.Spec PyProof.Rows L2
variable [TabsCtx]
section
variable {X : Cx} {W : WX} {pos : Pos} {e : Expr} {es : List Expr} {fa : Fa}
/-- an own class over ValueError without an __init__ -/
structure ExcC (K : PySem.W.Frag) (mg : Str → Option Value) (x : Str) : Prop where
  glo : mg x = some (.ref (He.ga K x))
  exc : PySem.W.excIn K (He.ga K x) He.veBase "ValueError.__new__" = true
  keep : PySem.W.keepIn K (.ref (He.ga K x)) = true
  exB : PySem.W.subIn K (.ref (He.ga K x)) (.type "BaseException") = some true
  ty : PySem.W.typeIn K (.ref (He.ga K x)) = some (.type "type")
def sRaise (x : Str) : Fs := fun ρ st => .exc (.str x 0) none ρ st
theorem ds_raise {x m : Str} {j : Nat} {p p2 p3 : Pos} (hx : XOk X W) (E : ExcC X.K X.mg x) (hg : Gl X x := by rfl) (hdb : (x == ("__debug__" : Str)) = false := by decide) :
    DS X W (.Raise (some (.Call (.Name x p) [.Constant (.str m) j p2] [] p3)) none pos) (sRaise x) := by
  refine ⟨_, ps_raise hx.calm hx.tk (pmk_own PySem.F.excBase_ValueError E.exc E.glo E.keep (raises_own E.exB E.ty) hg hdb), fun B σ H ρ st m En re rs h => ?_⟩
  exact ⟨.str x 0, rfl, h σ none H m .refl re rfl rs⟩
/-- the text of repr is not too long -/
def shownOk (st : Store) (d : D) : Bool := match toPyT st d with
  | some p => showD p && decide (p.shown.length + 100 ≤ sizeLine)
  | none => false
def sRaiseI (x fld : Str) (fa : Fa) : Fs := fun ρ st => (fa ρ st).thenS ρ fun ds s1 => match ds with
  | [d] => if shownOk s1 d = true then .exc (.str x 0) (some [(fld, d)]) ρ s1 else .fail
  | _ => .fail
theorem ds_raiseI {x fld sf p : Str} {p1 p3 : Pos} {params : Arguments} {body : List Stmt} {scope : Scope} {f : Addr} {B newId initId : String} {bmB : List Value} (hx : XOk X W) {Bn initN : String} {bmN : List Value} (FN : ExcBaseFacts Bn newId initN bmN) (LN : Line Bn bmB) (FB : InitF B initId) (KF : PySem.W.KxsFacts B initId) (SF : StoreFacts B bmB "object.__setattr__" "object") (T : InitText 114 params body scope sf p fld)
    (I : InitC X.prog X.K (He.ga X.K x) f params body scope fld B newId initId bmB) (gx : X.mg x = some (.ref (He.ga X.K x))) (hsup : X.mg "super" = none) (hr : Room 1 X.A) (ha : DA X W [e] fa) (hg : Gl X x := by rfl) (hdb : (x == ("__debug__" : Str)) = false := by decide)
    (hs : starEach [e] X.env = (false, eval e X.env) :: starEach [] X.env := by rfl) (hpl : (backTo p3 (starEach [] X.env)).any (·.1) = false := by rfl) :
    DS X W (.Raise (some (.Call (.Name x p1) [e] [] p3)) none pos) (sRaiseI x fld fa) := by
  obtain ⟨⟨t, pt, q⟩, _⟩ := ha
  refine ⟨_, ps_raise hx.calm hx.tk (pmk_init FN LN FB KF SF T I gx hsup hr hx.gd pt hg hdb hs hpl), fun B σ H ρ st m En re rs h => ?_⟩
  refine q B σ H ρ st m _ re rs (good_thenS re h fun ds s1 vs H1 m1 e1 r1 rs1 h1 => ?_)
  match ds, h1, r1 with
  | [d], h1, r1 =>
    obtain ⟨v, r, rfl, rd, r1⟩ := r1.inv_cons
    cases r1.inv_nil
    simp only at h1
    split at h1
    · rename_i hok
      unfold shownOk at hok
      cases hp : toPyT s1 d with
      | none => rw [hp] at hok; cases hok
      | some pd =>
        rw [hp] at hok
        simp only [Bool.and_eq_true, decide_eq_true_eq] at hok
        refine ⟨v, rfl, fun _ _ _ _ I1 ru => (shows_of I1 (toPyT_dp rs1 rd hp) ru hok.1 hok.2).field, fun dx hd => ?_⟩
        have g : Grow H1 (upd H1 dx (.xd [(fld, v)])) := Grow.upd hd
        exact ⟨.str x 0, rfl, h1 σ (some dx) _ m1 g.evo ((re.evo e1).evo g.evo) ⟨dx, [(fld, v)], rfl, upd_same, rs1.fresh hd, ⟨v, [], rfl, Rep.evo g.evo _ _ rd, rfl⟩⟩ (rs1.grow g)⟩
    · exact h1.elim
  | [], h1, _ => exact h1.elim
  | _ :: _ :: _, h1, _ => exact h1.elim
theorem de_gfn {x : Str} (hm : X.mg x = some (.ref (He.ga X.K x))) (hg : Gl X x := by rfl) (hd : (x == ("__debug__" : Str)) = false := by decide) : DE X W (.Name x pos) (xC (.fn x)) :=
  de_glob (v := .ref (He.ga X.K x)) hg hm rfl (fun _ _ _ => Rep.fn_iff.mpr rfl) hd
theorem FnG.mono {P : Program} {w : World} {K : PySem.W.Frag} {mg : Str → Option Value} {base : Heap} {j k : Nat} {f : Addr} {fd : FuncData} {ps : List Str} {sp : Sp} (F : FnG P w K mg base j f fd ps sp) (h : j ≤ k) : FnG P w K mg base k f fd ps sp :=
  ⟨F.len, fun A ou s H ar us vs Q E r g e b v q => F.run A ou s H ar us vs Q E (r.mono h) g e b v q⟩
/-- a def that may be called by its value -/
structure Held (X : Cx) (k : Nat) (y : Str) (n : Nat) (F : Fd) : Prop where
  ex : ∃ (fd : FuncData) (ps : List Str), FnG X.prog X.w X.K X.mg X.base k (He.ga X.K y) fd ps (spD X.K n F) ∧ PySem.W.keepIn X.K (.ref (He.ga X.K y)) = true ∧ Binds X.K fd ps []
def xCallV (tb : List (Str × Nat × Fd)) (i : Nat) (fa : Fa) : Fe := fun ρ st => match ρ[i]? with
  | some (some (.fn y)) => match tb.lookup y with
    | some (n, F) => (fa ρ st).bind fun ds s1 => if ds.length = n then F ds s1 else .fail
    | none => .fail
  | _ => .fail
theorem de_callV {tb : List (Str × Nat × Fd)} {k i : Nat} {x : Str} {p : Pos} (hx : XOk X W) (hr : Room k X.A) (hH : ∀ y n F, tb.lookup y = some (n, F) → Held X k y n F) (ha : DA X W (e :: es) fa) (hN : X.N[i]? = some x := by rfl)
    (hv : Vis X.env.scope x := by first | exact Or.inl rfl | exact Or.inr (Or.inl rfl) | exact Or.inr (Or.inr rfl)) (hd : (x == ("__debug__" : Str)) = false := by decide) (hcd : (x == ("__classdict__" : Str)) = false := by decide)
    (he : starEach (e :: es) X.env = (false, eval e X.env) :: starEach es X.env := by rfl) (hpl : (backTo pos (starEach es X.env)).any (·.1) = false := by rfl) : DE X W (.Call (.Name x p) (e :: es) [] pos) (xCallV tb i fa) := by
  obtain ⟨⟨t, pt, q⟩, hl⟩ := ha
  refine ⟨fun σ H Q => ∃ y n F, σ[i]? = some (some (.ref (He.ga X.K y))) ∧ tb.lookup y = some (n, F) ∧ t σ H fun vs H1 => spD X.K n F vs H1 Q fun c d H' => untag X.K W c d σ H', ⟨fun pins s σ H Q I h => ?_⟩, fun B σ H ρ st m Q re rs h => ?_⟩
  · obtain ⟨y, n, F, hs, hy, ht⟩ := h
    obtain ⟨fd, ps, G, hk, hb⟩ := (hH y n F hy).ex
    refine wpAny_Call_Name_kw (thn ((pe_var (pos := p) hN hv hd hcd).run pins s σ H (fun v H1 => v = .ref (He.ga X.K y) ∧ H1 = H) I ⟨.ref (He.ga X.K y), hs, rfl, rfl⟩) fun u s1 ⟨v, H1, I1, r1, q1⟩ => ?_)
    obtain ⟨ev, eH⟩ := q1
    subst ev eH
    cases (show u = Value.ref (He.ga X.K y) from r1)
    refine PySem.W.callWith_K (h₀ := X.base) I1.ok.mod.kin hk (thn (pt.run pos pins s1 σ _ _ I1 ht) fun us s2 ⟨vs, H2, I2, r2, q2⟩ => ⟨I2.kIn, ?_⟩) he hpl
    exact runG G hr hx hb I2 r2 q2
  · unfold xCallV at h
    cases hρ : ρ[i]? with
    | none => rw [hρ] at h; exact h.elim
    | some o =>
      cases o with
      | none => rw [hρ] at h; exact h.elim
      | some d =>
        rw [hρ] at h
        cases d with
        | fn y =>
          simp only at h
          cases hy : tb.lookup y with
          | none => rw [hy] at h; exact h.elim
          | some nF =>
            obtain ⟨n, F⟩ := nF
            rw [hy] at h
            obtain ⟨v, h1, h2⟩ := re.val i _ hρ
            cases Rep.fn_iff.mp h2
            refine ⟨y, n, F, h1, hy, ?_⟩
            refine q B σ H ρ st m _ re rs (good_bind h fun ds s1 vs H1 m1 e1 r1 rs1 h1 => ?_)
            split at h1
            · rename_i hn
              exact ⟨B, ds, s1, m1, hn, r1, rs1, GoodR.imp (r := F ds s1) h1 fun c d H' q => untag_of q⟩
            · exact h1.elim
        | _ => exact h.elim
mutual
theorem kRep_ok {K : PySem.W.Frag} : ∀ {d : D} {u : Value}, kRep K d u = true → ∃ v, RelV v u ∧ ∀ B H m, Rep ⟨K, B⟩ H m d v
  | .non, u, h => by cases u <;> simp [kRep] at h; exact ⟨.non, rfl, fun _ _ _ => Rep.non_iff.mpr rfl⟩
  | .bl b, u, h => by cases u <;> simp [kRep] at h; subst h; exact ⟨.bl b, rfl, fun _ _ _ => Rep.bl_iff.mpr rfl⟩
  | .int b, u, h => by cases u <;> simp [kRep] at h; subst h; exact ⟨.int b, ⟨_, rfl⟩, fun _ _ _ => Rep.int_iff.mpr rfl⟩
  | .str b, u, h => by cases u <;> simp [kRep] at h; subst h; exact ⟨.str b, ⟨_, rfl⟩, fun _ _ _ => Rep.str_iff.mpr rfl⟩
  | .tup ds, u, h => by
    cases u with
    | ref a =>
      unfold kRep at h
      split at h
      · rename_i c od its n sl hl
        simp only [Bool.and_eq_true, decide_eq_true_eq] at h
        obtain ⟨vs, hv, hr⟩ := kRepL_ok h.2.2
        exact ⟨.ref a, rfl, fun B H m => Rep.tup_iff.mpr ⟨a, vs, rfl, .inr ⟨_, its, n, hl, congrArg Value.type h.1, rfl, h.2.1, hv⟩, hr B H m⟩⟩
      · cases h
    | _ => simp [kRep] at h
  | .ty _, u, h => by cases u <;> simp [kRep] at h
  | .ob _, u, h => by cases u <;> simp [kRep] at h
  | .lst _, u, h => by cases u <;> simp [kRep] at h
  | .rol _, u, h => by cases u <;> simp [kRep] at h
  | .loc _, u, h => by cases u <;> simp [kRep] at h
  | .fn _, u, h => by cases u <;> simp [kRep] at h
  | .dct _ _, u, h => by cases u <;> simp [kRep] at h
  | .obj _ _, u, h => by cases u <;> simp [kRep] at h
  | .exo _ _ _, u, h => by cases u <;> simp [kRep] at h
theorem kRepL_ok {K : PySem.W.Frag} : ∀ {ds : List D} {us : List Value}, kRepL K ds us = true → ∃ vs, Vals vs us ∧ ∀ B H m, RepL ⟨K, B⟩ H m ds vs
  | [], us, h => by
    cases us with
    | nil => exact ⟨[], .nil, fun _ _ _ => .nil⟩
    | cons u us => simp [kRepL] at h
  | d :: ds, us, h => by
    cases us with
    | nil => simp [kRepL] at h
    | cons u us =>
      simp only [kRepL, Bool.and_eq_true] at h
      obtain ⟨v, r, a⟩ := kRep_ok h.1
      obtain ⟨vs, rs, as⟩ := kRepL_ok h.2
      exact ⟨v :: vs, .cons r rs, fun B H m => .cons (a B H m) (as B H m)⟩
end
/-- a module's constant of written data -/
theorem de_gdat {x : Str} {u : Value} {d : D} (hm : X.mg x = some u) (hk : kRep X.K d u = true) (hg : Gl X x := by rfl) (hd : (x == ("__debug__" : Str)) = false := by decide) : DE X W (.Name x pos) (xC d) := by
  obtain ⟨v, r, rd⟩ := kRep_ok hk
  exact de_glob (v := v) hg hm r rd hd
end
end DL
namespace DL
open PySem PySem.Spec PyProof.Rows L2
/-- a clause: its class, its name's slot, its suite's reading -/
structure Cl where
  c : Value
  nm : Option Nat
  ts : Addr → Value → Option Addr → TS
/-- behind a suite the clause's name is gone -/
def Ends.gone (D : Ends) (i : Nat) : Ends where
  nx := fun τ G => D.nx (τ.set i none) G
  rt := D.rt
  bk := fun τ G => D.bk (τ.set i none) G
  ct := fun τ G => D.ct (τ.set i none) G
def Cl.enter (k : Cl) (D : Ends) (a : Addr) (cls : Value) (d : Option Addr) (τ : Sg) (G : Hp) : Prop := match k.nm with
  | none => k.ts a cls d D τ G
  | some i => k.ts a cls d (Ends.gone D i) (τ.set i (some (.ref a))) G
def wCls (K : PySem.W.Frag) (D : Ends) : List Cl → WX
  | [] => fun _ _ _ _ => False
  | k :: r => fun cls d τ G => ∃ b, PySem.W.exmOne K cls k.c = some b ∧ (b = true → ∀ a, G a = none → k.enter D a cls d τ G) ∧ (b = false → wCls K D r cls d τ G)
inductive Clauses (X : Cx) : List ExceptHandler → List Cl → Prop where
  | nil : Clauses X [] []
  | anon {x : Str} {k : Cl} {b : Stmt} {bs : List Stmt} {np hp : Pos} {hds : List ExceptHandler} {l : List Cl} (e : k.nm = none) (nc : Names X x k.c)
      (su : ∀ (a : Addr) (ob : Obj) (cls : Value) (d : Option Addr) (pn : List (Addr × Obj)), Zc cls d ob → (∃ vs, ob.data = .fields vs) → PSs (X.suite a ((a, ob) :: pn)) (b :: bs) (k.ts a cls d)) (r : Clauses X hds l) :
      Clauses X (.ExceptHandler (some (.Name x np)) none (b :: bs) hp :: hds) (k :: l)
  | name {x n : Str} {i : Nat} {k : Cl} {b : Stmt} {bs : List Stmt} {np hp : Pos} {hds : List ExceptHandler} {l : List Cl} (e : k.nm = some i) (nc : Names X x k.c) (hi : X.N[i]? = some n) (hl : X.env.kindOf n = some .local)
      (su : ∀ (a : Addr) (ob : Obj) (cls : Value) (d : Option Addr) (pn : List (Addr × Obj)), Zc cls d ob → (∃ vs, ob.data = .fields vs) → PSs (X.suite a ((a, ob) :: pn)) (b :: bs) (k.ts a cls d)) (r : Clauses X hds l) :
      Clauses X (.ExceptHandler (some (.Name x np)) (some n) (b :: bs) hp :: hds) (k :: l)
section
variable {X : Cx}
/-- an exception on the ground meets the clauses -/
theorem clauses_run {hds : List ExceptHandler} {l : List Cl} (hc : Clauses X hds l) (nd : X.N.Nodup) (frm : X.env.frame = some X.env.locals) {a : Addr} {B : Heap} {sI : Shared} {pins : List (Addr × Obj)} {τ : Sg} {G : Hp} {cls : Value} {d : Option Addr} {D : Ends}
    (I : Inv X pins τ G sI) (nb : ∀ b o, sI.heap.get? b = some o → b ∉ frs X.stack → B.get? b = some o) (na : G a = none) :
    ∀ (s : Shared), s.os = sI.os → AllBare s.gens → sI.heap.UpToSlots s.heap → HandSPX.FlyingZ B (X.env :: X.outer) a (Zc cls d) s.heap → wCls X.K D l cls d τ G → wpAny (model X.prog X.w) X.A (handleBy (.ref a) X.env hds) (SP X pins D) X.xe s := by
  have off : ∀ {s : Shared} {o : Obj} {vs : Array Value}, HandSPX.FlyingZ B (X.env :: X.outer) a (Zc cls d) s.heap → s.heap.get? a = some o → o.data = .fields vs → a ∉ frs (X.env :: X.outer) := fun {s o vs} fl e dd z => by
    obtain ⟨_, u, q, w⟩ := fl.2.2.1.mem z
    cases e.symm.trans q
    exact w _ dd
  have loc : ∀ {s : Shared}, HandSPX.FlyingZ B (X.env :: X.outer) a (Zc cls d) s.heap → a ≠ X.env.locals ∧ a ∉ X.fs := fun {s} fl => by
    obtain ⟨o, vs, e, _, dd⟩ := fl.there
    have n := off fl e dd
    refine ⟨fun z => n (List.mem_filterMap.mpr ⟨X.env, List.mem_cons_self, by rw [frm, z]⟩), fun z => ?_⟩
    obtain ⟨en, h1, h2⟩ := List.mem_filterMap.mp z
    exact n (List.mem_filterMap.mpr ⟨en, List.mem_cons_of_mem _ h1, h2⟩)
  have land : ∀ {s : Shared}, HandSPX.FlyingZ B (X.env :: X.outer) a (Zc cls d) s.heap → sI.heap.UpToSlots s.heap → s.os = sI.os → AllBare s.gens → Inv X pins τ G s ∧ ∃ ob, Inv (X.suite a ((a, ob) :: (X.pn ++ pins))) [] τ G s ∧ Zc cls d ob ∧ (∃ vs, ob.data = .fields vs) ∧ s.heap.get? a = some ob := fun {s} fl up o b => by
    have J := I.landed nb fl.1 up o b
    obtain ⟨ob, vs, e, z, dd⟩ := fl.there
    obtain ⟨n1, n2⟩ := loc fl
    exact ⟨J, ob, J.suite e dd na n1 n2, z, ⟨vs, dd⟩, e⟩
  have ask : ∀ {x : Str} {c : Value} {ob : Obj} {np : Pos} {s : Shared} {Q : Value → Shared → Prop} {E : Value → Shared → Prop}, Names X x c → Inv (X.suite a ((a, ob) :: (X.pn ++ pins))) [] τ G s → Q c s → wpAny (model X.prog X.w) (X.A.mark (some (.ref a))) (eval (.Name x np) X.env) Q E s := fun {x c ob np s Q E} n S q => by
    obtain ⟨g, db, m | ⟨m, v, w⟩⟩ := n
    · exact ld_glob (X := X.suite a ((a, ob) :: (X.pn ++ pins))) S g m q db
    · exact ld_blt (X := X.suite a ((a, ob) :: (X.pn ++ pins))) S g m v q w db
  induction hc with
  | nil => exact fun _ _ _ _ _ w => w.elim
  | @anon x k b bs np hp hds l e nc su r ih =>
    intro s os ag up fl w
    obtain ⟨t, ht, yes, no⟩ := w
    obtain ⟨J, ob, S, z, dd, he⟩ := land fl up os ag
    refine wpAny_handleBy_cons (codeAny_handlers_test ?_) (by intro q; cases q)
    have LT : PySem.W.Looks (model X.prog X.w) s.heap (typeOf (.ref a)) cls := fun A Q E s k q => wpAny_typeOf_ref (k _ _ he) (by rw [z.1]; exact q)
    refine ask nc S ((PySem.W.exm_one (M := model X.prog X.w) J.kIn LT ht).here ?_)
    cases t with
    | false => exact ih s os ag up fl (no rfl)
    | true =>
      refine codeAny_handlers_suite (HandSPX.lands_againZ fl fun h2 fl2 up2 => ?_)
      obtain ⟨_, ob2, S2, z2, dd2, _⟩ := land (s := { s with heap := h2 }) fl2 (up.trans up2) os ag
      have en := yes rfl a na
      unfold Cl.enter at en
      rw [e] at en
      refine wpAny_mono ((su a ob2 cls d (X.pn ++ pins) z2 dd2).run [] _ _ G _ S2 en) (fun fw s3 q => ?_) fun _ _ q => q.elim
      match fw, q with
      | .next, ⟨τ3, G3, S3, q3⟩ => exact ⟨_, _, S3.unsuite I.ok, q3⟩
      | .brk, ⟨τ3, G3, S3, q3⟩ => exact ⟨_, _, S3.unsuite I.ok, q3⟩
      | .cont, ⟨τ3, G3, S3, q3⟩ => exact ⟨_, _, S3.unsuite I.ok, q3⟩
      | .ret u, ⟨v3, τ3, G3, S3, r3, q3⟩ => exact ⟨_, _, _, S3.unsuite I.ok, r3, q3⟩
  | @name x n i k b bs np hp hds l e nc hi hl su r ih =>
    intro s os ag up fl w
    obtain ⟨t, ht, yes, no⟩ := w
    obtain ⟨J, ob, S, z, dd, he⟩ := land fl up os ag
    refine wpAny_handleBy_cons (codeAny_handlers_test ?_) (by intro q; cases q)
    have LT : PySem.W.Looks (model X.prog X.w) s.heap (typeOf (.ref a)) cls := fun A Q E s k q => wpAny_typeOf_ref (k _ _ he) (by rw [z.1]; exact q)
    refine ask nc S ((PySem.W.exm_one (M := model X.prog X.w) J.kIn LT ht).here ?_)
    cases t with
    | false => exact ih s os ag up fl (no rfl)
    | true =>
      refine codeAny_handlers_suite_as (HandSPX.lands_againZ fl fun h2 fl2 up2 => ?_)
      obtain ⟨_, ob2, S2, z2, dd2, _⟩ := land (s := { s with heap := h2 }) fl2 (up.trans up2) os ag
      have en := yes rfl a na
      unfold Cl.enter at en
      rw [e] at en
      refine store_ok (X := X.suite a ((a, ob2) :: (X.pn ++ pins))) (v := .ref a) S2 nd hi (.inl hl) rfl (fun s4 S4 => ?_) (.inr hl)
      refine wpAny_mono ((su a ob2 cls d (X.pn ++ pins) z2 dd2).run [] s4 _ G _ S4 en) (fun fw s3 q => ?_) fun _ _ q => q.elim
      have fin : ∀ {τ3 : Sg} {G3 : Hp} {R : Shared → Prop}, Inv (X.suite a ((a, ob2) :: (X.pn ++ pins))) [] τ3 G3 s3 → (∀ s5, Inv X pins (τ3.set i none) G3 s5 → R s5) → wpAny (model X.prog X.w) X.A (do bindName X.env n .none; unbindBehindTheSuite X.env n hp) (fun _ s5 => R s5) X.xe s3 :=
        fun {τ3 G3 R} S3 k => gone_ok (S3.unsuite I.ok) nd hi hl k
      match fw, q with
      | .next, ⟨τ3, G3, S3, q3⟩ => exact fin S3 fun s5 J5 => ⟨_, _, J5, q3⟩
      | .brk, ⟨τ3, G3, S3, q3⟩ => exact fin S3 fun s5 J5 => ⟨_, _, J5, q3⟩
      | .cont, ⟨τ3, G3, S3, q3⟩ => exact fin S3 fun s5 J5 => ⟨_, _, J5, q3⟩
      | .ret u, ⟨v3, τ3, G3, S3, r3, q3⟩ => exact fin S3 fun s5 J5 => ⟨_, _, _, J5, r3, q3⟩
/-- try: body, its exceptions all met by the clauses -/
theorem ps_try_cls {body : List Stmt} {h0 : ExceptHandler} {hds : List ExceptHandler} {l : List Cl} {pos : Pos} {tb : WX → TS} (stk : X.stack = X.env :: X.outer) (frm : X.env.frame = some X.env.locals) (nd : X.N.Nodup) (hc : Clauses X (h0 :: hds) l)
    (hb : ∀ (W : WX) (pn : List (Addr × Obj)) (xe : Value → Shared → Prop), Takes (X.tr pn xe) W → PassesOwn (model X.prog X.w) X.A X.env xe → PSs (X.tr pn xe) body (tb W)) :
    PS X (.Try body (h0 :: hds) [] [] pos) (fun D τ G => tb (wCls X.K D l) D τ G) := by
  refine ⟨fun pins s τ G D I h => wpAny_Try_except ?_⟩
  have ok := I.ok
  have fr : X.A.frames = some (X.env :: X.outer) := by rw [ok.frames, stk]
  refine wpAny_mono ((hb (wCls X.K D l) (X.pn ++ pins) (fun e s₁ => wpAny (model X.prog X.w) X.A (noteFrame e X.env) (fun _ s₂ => wpAny (model X.prog X.w) X.A (setFlight e none) (fun _ s₃ =>
    wpAny (model X.prog X.w) X.A (handleBy e X.env (h0 :: hds)) (SP X pins D) X.xe s₃) X.xe s₂) X.xe s₁) (fun u s' q => ?_) PassesOwn.looking).run [] s τ G D (I.toTry _) h) (fun fw s1 q => ?_) fun _ _ q => q
  · obtain ⟨a, B, sI, ps, τ', G', cls, d, rfl, J, nb, up, sky, na, os, ag, w⟩ := q
    have sk : Sky B (X.env :: X.outer) a (Zc cls d) X.env.locals s'.heap := by rw [← stk]; exact sky
    refine Sky.land Zc.steady fr frm sk fun h3 fl3 up3 => ?_
    exact clauses_run hc nd frm (J.ofTry ok) nb na { s' with heap := h3 } os ag (up.trans up3) fl3 w
  · match fw, q with
    | .next, ⟨τ', G', J, q⟩ => exact wpAny_execs_nil ⟨τ', G', J.ofTry ok, q⟩
    | .brk, ⟨τ', G', J, q⟩ => exact ⟨τ', G', J.ofTry ok, q⟩
    | .cont, ⟨τ', G', J, q⟩ => exact ⟨τ', G', J.ofTry ok, q⟩
    | .ret u, ⟨v, τ', G', J, r, q⟩ => exact ⟨v, τ', G', J.ofTry ok, r, q⟩
end
end DL
namespace DL
open PySem PySem.Spec PyProof.Rows L2 LamX
variable [TabsCtx]
section
variable {X : Cx} {pins : List (Addr × Obj)} {σ : Sg} {H : Hp} {s : Shared}
/-- the lambda called, in the def that it was handed to -/
theorem act_pe {Eg : XK} {Ng : List Str} {qg : Str} {sg : Scope} {g f c' : Addr} {cdg pm ctv : Value} {params : Arguments} {body : Expr} {scope : Scope} {k : Nat} {a : Str} {pn : List (Addr × Obj)} {xe : Value → Shared → Prop} {W : WX} {E : XK} {tb : TE} {p1 p2 : Pos}
    (I : Inv X pins σ H s) (L : LamS X.env.scope scope) (hf : s.heap.get? f = some (PySem.W.kla_obj "<lambda>" (X.env.qual ++ "<lambda>") params body scope (cloFrom X.env.cells scope.names []) pm c' ctv)) (hfn : H f = none) (hfr : f ∉ frs X.stack) (gd : X.A.guards = some [])
    (bnd : bindArgs (PySem.W.kla_fn "<lambda>" (X.env.qual ++ "<lambda>") params body scope (cloFrom X.env.cells scope.names []) pm (.ref c') ctv) ⟨[], []⟩ = pure [])
    (tk : Takes ((cxOf (L2.CX X.prog X.w) X.prog X.w X.K X.mg X.base Ng qg sg g cdg X.A X.stack s H Eg).tr pn xe) W) (hW : ∀ cls d σ' H', σ'.length = Ng.length → E cls d H' → W cls d σ' H') (room : Room (k + 1) (X.A.deeper (envOfC qg sg s.heap.objs.size g cdg)))
    (hbody : ∀ (A : Around) (ou : List Env) (s : Shared) (H : Hp), A.guards = some [] → Room k (A.deeper (lamEnv X scope s.heap.objs.size f c')) → PE (lamCx X A ou s H E scope f c') body tb)
    (hN : Ng[0]? = some a) (hv : Vis sg a) (hd : (a == ("__debug__" : Str)) = false) (hcd : (a == ("__classdict__" : Str)) = false) :
    PE ((cxOf (L2.CX X.prog X.w) X.prog X.w X.K X.mg X.base Ng qg sg g cdg X.A X.stack s H Eg).tr pn xe) (.Call (.Name a p1) [] [] p2)
      (fun τ G Q => τ[0]? = some (some (.ref f)) ∧ G c' = some (CodeO c' (X.env.qual ++ "<lambda>")) ∧ tb σ G Q) := by
  refine ⟨fun pins2 s2 τ G Q J ⟨slot, cod, read⟩ => wpAny_Call_Name_kw ?_⟩
  refine thn ((pe_var (pos := p1) (i := 0) hN hv hd hcd).run pins2 s2 τ G (fun v G1 => v = .ref f ∧ G1 = G) J ⟨.ref f, slot, rfl, rfl⟩) fun u s3 ⟨v, G1, J3, rv, ev, eG⟩ => ?_
  subst ev eG
  cases (show u = Value.ref f from rv)
  have here : s3.heap.get? f = some (PySem.W.kla_obj "<lambda>" (X.env.qual ++ "<lambda>") params body scope (cloFrom X.env.cells scope.names []) pm c' ctv) := J3.base.keep f _ hf hfn hfr (fun z => (nomatch (show f ∈ ([] : List Addr) from z)))
  refine PySem.W.callWith_F0 ⟨_, _, _, _, here⟩ ?_
  obtain ⟨⟨oc, vs, t, e1, e2, e3⟩, _, _⟩ := J3.hok c' _ cod
  have run : codeAny (model X.prog X.w) (X.A.deeper (envOfC qg sg s.heap.objs.size g cdg)) (.call (.ref f) ⟨[], []⟩) (CR (L2.CX X.prog X.w) (envOfC qg sg s.heap.objs.size g cdg :: X.stack) X.prog X.w G1 s3 Q E) s3 := by
    refine PySem.W.kla_callFunE room.depth here rfl L.co L.gen rfl ⟨c', oc, vs, t, rfl, e1, e2, e3⟩ ?_
    rw [bnd]
    refine wpAny_pure (wpAny_newFunctionEnv (fun y hy => (L.own y hy).2) (fun y hy => absurd hy (by simp)) (fun h1 ns sb => ⟨J3.nolimit.fresh _ sb, ?_⟩) L.kind)
    show codeAny _ _ (.expr body (lamEnv X scope s3.heap.objs.size f c')) _ _
    have stays : ∀ b o, s3.heap.get? b = some o → h1.get? b = some o := fun b o e => sb.extBut b o (Nat.ne_of_lt (Heap.lt_size e)) (Heap.get?_push_of_some _ e)
    have start : Inv (lamCx X (X.A.deeper (envOfC qg sg s.heap.objs.size g cdg)) (envOfC qg sg s.heap.objs.size g cdg :: X.stack) s3 G1 E scope f c') [] σ G1 { s3 with heap := h1, toks := s3.toks + ([] : List (Str × Value)).length } :=
      lam_start2 I L J3.env0 room.hd J3.base ns stays
    refine PySem.W.kla_codeExpr (wpAny_mono ((hbody (X.A.deeper (envOfC qg sg s.heap.objs.size g cdg)) (envOfC qg sg s.heap.objs.size g cdg :: X.stack) s3 G1 gd (room.deeper _)).run [] _ _ G1 Q start read) (fun v s4 ⟨w', G4, J4, r4, q4⟩ => ⟨w', G4, J4.os, J4.bare, J4.base, J4.hok, r4, q4⟩) fun _ _ q => q)
  refine wpAny_call (codeAny_mono run fun r s4 q => ?_)
  match r, q with
  | .error e, q => exact tk e s4 (XE.of_call J3 (fun cls d G4 w => hW cls d τ G4 J3.len w) q)
  | .ok (.ret u), q => exact J3.after q
  | .ok .next, q => exact q.elim
  | .ok .brk, q => exact q.elim
  | .ok .cont, q => exact q.elim
end
inductive MH where
  | txt (t : Str)
  | fld (t f : Str)
abbrev MCs := List (Str × MH)
def metH (isA : Str → Str → Bool) : MCs → Str → Option (List (Str × D)) → Store → Res D
  | [], _, _, _ => .fail
  | (x, h) :: r, c, fs, s => if isA c x = true then (match h with
      | .txt t => .ok (.str t) s
      | .fld t f => if c = x then (match fs with
          | some l => match l.lookup f with
            | some d => match toPyT s d with
              | some p => if showD p = true ∧ t.length + p.shown.length ≤ sizeLine then .ok (.str (t ++ p.shown)) s else .fail
              | none => .fail
            | none => .fail
          | none => .fail)
        else .fail)
    else metH isA r c fs s
def xMet (known : List Str) (isA : Str → Str → Bool) (cl : MCs) (fin : Str) (fe : Fe) : Fe := fun ρ st => match fe ρ st with
  | .ok _ s => .ok (.str fin) s
  | .exc (.str c _) fs s => if known.contains c = true then metH isA cl c fs s else .fail
  | _ => .fail
/-- the clauses as they are written; n: the name of the exception -/
inductive HdShape (n : Str) : List ExceptHandler → MCs → Prop where
  | nil : HdShape n [] []
  | txt {x t : Str} {j : Nat} {np p5 p6 p7 : Pos} {hds : List ExceptHandler} {cl : MCs} (r : HdShape n hds cl) : HdShape n (.ExceptHandler (some (.Name x np)) none [.Return (some (.Constant (.str t) j p5)) p6] p7 :: hds) ((x, .txt t) :: cl)
  | fld {x t f : Str} {j : Nat} {np q1 q2 q3 q4 q5 q6 q7 p7 : Pos} {hds : List ExceptHandler} {cl : MCs} (r : HdShape n hds cl) :
      HdShape n (.ExceptHandler (some (.Name x np)) (some n) [.Return (some (.BinOp (.Constant (.str t) j q1) .Add (.Call (.Name "repr" q2) [.Attribute (.Name n q3) f q4] [] q5) q6)) q7] p7 :: hds) ((x, .fld t f) :: cl)
/-- the def: try: a() / except ..: / return fin -/
structure MetText (params : Arguments) (body : List Stmt) (scope : Scope) (a n fin : Str) (cl : MCs) : Prop where
  body : ∃ (p1 p2 p3 p4 p6 p5 : Pos) (j : Nat) (h0 : ExceptHandler) (hds : List ExceptHandler), body = [.Try [.Expr (.Call (.Name a p1) [] [] p2) p3] (h0 :: hds) [] [] p4, .Return (some (.Constant (.str fin) j p5)) p6] ∧ HdShape n (h0 :: hds) cl
  scp : FnScope [a, n] [a] scope
  la : scope.names.lookup a = some .local
  ln : scope.names.lookup n = some .local
  rep : scope.names.lookup ("repr" : Str) = some .globalImplicit
  cls : ∀ k ∈ cl, scope.names.lookup k.1 = some .globalImplicit ∧ (k.1 == ("__debug__" : Str)) = false
  d1 : (a == ("__debug__" : Str)) = false
  d2 : (a == ("__classdict__" : Str)) = false
  d3 : (n == ("__debug__" : Str)) = false
  d4 : (n == ("__classdict__" : Str)) = false
/-- what the written part says of the classes -/
structure MetCls (K : PySem.W.Frag) (mg : Str → Option Value) (known : List Str) (isA : Str → Str → Bool) (cl : MCs) : Prop where
  glo : ∀ k ∈ cl, mg k.1 = some (.ref (He.ga K k.1))
  exm : ∀ c ∈ known, ∀ k ∈ cl, PySem.W.exmOne K (.ref (He.ga K c)) (.ref (He.ga K k.1)) = some (isA c k.1)
  fld : ∀ k ∈ cl, ∀ t f, k.2 = .fld t f → XfC K (He.ga K k.1) ∧ PySem.W.findIn K (.ref (He.ga K k.1)) f = some none
  rep : mg "repr" = none
/-- a clause's reading -/
def mcl (K : PySem.W.Frag) (k : Str × MH) : Cl where
  c := .ref (He.ga K k.1)
  nm := match k.2 with
    | .txt _ => none
    | .fld _ _ => some 1
  ts := fun a cls d D τ G => match k.2 with
    | .txt t => D.rt (.str t) G
    | .fld t f => τ[1]? = some (some (.ref a)) ∧ cls = .ref (He.ga K k.1) ∧ ∃ dd fs v p, d = some dd ∧ G dd = some (.xd fs) ∧ fs.lookup f = some v ∧ Dp K G v p ∧ showD p = true ∧ t.length + p.shown.length ≤ sizeLine ∧ D.rt (.str (t ++ p.shown)) G
theorem pss_imp {X : Cx} {ss : List Stmt} {t t' : TS} (h : PSs X ss t) (i : ∀ D τ G, t' D τ G → t D τ G) : PSs X ss t' := ⟨fun pins s τ G D I q => h.run pins s τ G D I (i D τ G q)⟩
section
variable {X : Cx}
theorem met_clauses {n : Str} {hds : List ExceptHandler} {cl : MCs} (S : HdShape n hds cl) (hi : X.N[1]? = some n) (hl : X.env.kindOf n = some .local) (hr : X.env.kindOf "repr" = some .globalImplicit) (hc : ∀ k ∈ cl, X.env.kindOf k.1 = some .globalImplicit ∧ (k.1 == ("__debug__" : Str)) = false)
    (glo : ∀ k ∈ cl, X.mg k.1 = some (.ref (He.ga X.K k.1))) (fld : ∀ k ∈ cl, ∀ t f, k.2 = .fld t f → XfC X.K (He.ga X.K k.1) ∧ PySem.W.findIn X.K (.ref (He.ga X.K k.1)) f = some none) (rep : X.mg "repr" = none) (gd : X.A.guards = some []) (un : X.A.units + 64 < cLine)
    (d3 : (n == ("__debug__" : Str)) = false) (d4 : (n == ("__classdict__" : Str)) = false) : Clauses X hds (cl.map (mcl X.K)) := by
  induction S with
  | nil => exact .nil
  | @txt x t j np p5 p6 p7 hds cl r ih =>
    refine .anon rfl ⟨(hc _ List.mem_cons_self).1, (hc _ List.mem_cons_self).2, .inl (glo _ List.mem_cons_self)⟩ (fun a ob cls d pn _ _ => ?_) (ih (fun k hk => hc k (List.mem_cons_of_mem _ hk)) (fun k hk => glo k (List.mem_cons_of_mem _ hk)) fun k hk => fld k (List.mem_cons_of_mem _ hk))
    exact pss_imp (pss_one (ps_ret pe_str)) fun D τ G q => q
  | @fld x t f j np q1 q2 q3 q4 q5 q6 q7 p7 hds cl r ih =>
    obtain ⟨xf, nf⟩ := fld _ List.mem_cons_self t f rfl
    refine .name (i := 1) rfl ⟨(hc _ List.mem_cons_self).1, (hc _ List.mem_cons_self).2, .inl (glo _ List.mem_cons_self)⟩ hi hl (fun a ob cls d pn hz hf => ?_) (ih (fun k hk => hc k (List.mem_cons_of_mem _ hk)) (fun k hk => glo k (List.mem_cons_of_mem _ hk)) fun k hk => fld k (List.mem_cons_of_mem _ hk))
    refine pss_imp (pss_one (ps_ret (pe_op op_add_str pe_str (pe_callB (X := X.suite a ((a, ob) :: pn)) (call_reprD gd un) hr rep boot_repr (pa_cons (pe_xf (X := X) xf nf hz hf (pe_var (i := 1) hi (.inl hl) d3 d4)) pa_nil))))) fun D τ G q => ?_
    obtain ⟨h1, h2, dd, fs, v, p, e1, e2, e3, e4, e5, e6, e7⟩ := q
    exact ⟨.ref a, h1, rfl, h2, dd, fs, v, e1, e2, e3, v, p, rfl, e4, e5, t, p.shown, rfl, rfl, e6, e7⟩
end
end DL
namespace DL
open PySem PySem.Spec PyProof.Rows L2 LamX
variable [TabsCtx]
/-- a lambda was made: its code object may be new -/
theorem evo_lam {K : PySem.W.Frag} {B : List Addr} {H H1 : Hp} {m : List Addr} {st : Store} (rs : RepSt ⟨K, B⟩ H m st) (eN : ExtN H H1) (T1 : Tabs TabsCtx.T H1) : Evo H m H1 m := by
  have off : ∀ {a : Addr} {u : HO}, H1 a = some u → (∀ xs, u ≠ .lst xs) → (∀ xs, u ≠ .dK xs) → (∀ C d xs, u ≠ SlX.SlO a C d xs) → (∀ o xs, u ≠ .frz o (.dK xs)) → a ∉ m := fun {a u} h hu hd hi hf ha => by
    obtain ⟨l, hl, e⟩ := List.mem_iff_getElem.mp ha
    have hs : l < st.length := by rw [← rs.len]; exact hl
    obtain ⟨b, b1, b2⟩ := rs.cell l st[l] (by simp [hs])
    rw [List.getElem?_eq_getElem hl] at b1
    cases b1
    rw [e] at b2
    cases hc : st[l] with
    | lst ds => rw [hc] at b2; obtain ⟨vs, q, _⟩ := b2; have q := eN _ _ q (fun _ z => nomatch z); rw [h] at q; exact hu _ (Option.some.inj q)
    | dic ds => rw [hc] at b2; obtain ⟨vs, q, _⟩ := b2; have q := eN _ _ q (fun _ z => nomatch z); rw [h] at q; exact hd _ (Option.some.inj q)
    | dik ds => rw [hc] at b2; obtain ⟨o2, vs, q, _⟩ := b2; have q := eN _ _ q (fun _ z => nomatch z); rw [h] at q; exact hf _ _ (Option.some.inj q)
    | ins C fs => rw [hc] at b2; obtain ⟨dx, vs, q, _⟩ := b2; have q := eN _ _ q slO_tbl; rw [h] at q; exact hi _ _ _ (Option.some.inj q)
  have tb : ∀ p ∈ TabsCtx.T, TabM H1 m p.1 p.2 := fun p hp => by
    obtain ⟨ps, h1, h2, h3⟩ := T1 p hp
    refine ⟨ps, h1, off h1 (fun _ z => nomatch z) (fun _ z => nomatch z) (fun _ _ _ z => by unfold SlX.SlO at z; cases z) (fun _ _ z => nomatch z), h2, fun pos cv hc => ?_⟩
    obtain ⟨c, e1, e2⟩ := h3 pos cv hc
    exact ⟨c, e1, e2, off e2 codeO_lst codeO_dK (fun _ _ _ => codeO_slO) fun _ _ => codeO_frz _ _⟩
  exact ⟨⟨[], by simp⟩, fun a o q n z => ⟨eN a o q z, n⟩, fun p hp _ => tb p hp, fun a o u q => eN a _ q (fun _ z => nomatch z)⟩
theorem RepSt.evoN {K : PySem.W.Frag} {B : List Addr} {H H1 : Hp} {m : List Addr} {st : Store} (rs : RepSt ⟨K, B⟩ H m st) (eN : ExtN H H1) (T1 : Tabs TabsCtx.T H1) : RepSt ⟨K, B⟩ H1 m st := by
  have ev := evo_lam rs eN T1
  refine ⟨fun b hb => ?_, rs.len, rs.nd, fun l c q => ?_, fun p hp => ev.tabs p hp (rs.tabs p hp)⟩
  · obtain ⟨⟨o, q, z⟩, n⟩ := rs.ban b hb
    exact ⟨⟨o, eN _ _ q z, z⟩, n⟩
  · obtain ⟨a, h1, h2⟩ := rs.cell l c q
    refine ⟨a, h1, ?_⟩
    cases c with
    | lst ds => obtain ⟨vs, x, y⟩ := h2; exact ⟨vs, eN _ _ x (fun _ z => nomatch z), RepL.evo ev _ _ y⟩
    | dic kvs => obtain ⟨vs, x, y⟩ := h2; exact ⟨vs, eN _ _ x (fun _ z => nomatch z), RepP.evo ev _ _ y⟩
    | dik kvs => obtain ⟨o2, vs, x, y⟩ := h2; exact ⟨o2, vs, eN _ _ x (fun _ z => nomatch z), RepP.evo ev _ _ y⟩
    | ins C fs => obtain ⟨dx, vs, x, z, n, nb, y⟩ := h2; exact ⟨dx, vs, eN _ _ x slO_tbl, eN _ _ z (fun _ z => nomatch z), n, nb, RepO.evo ev _ _ y⟩
section
variable {X : Cx} {W : WX}
/-- what meets the exception -/
theorem met_good {K : PySem.W.Frag} {mg : Str → Option Value} {known : List Str} {isA : Str → Str → Bool} {cl0 : MCs} (C : MetCls K mg known isA cl0) {B : List Addr} {Q : VK} {W : WH} {Dn : Ends} (hD : Dn.rt = Q) {c : Str} (hc : c ∈ known) {fs : Option (List (Str × D))} {s : Store} :
    ∀ (cl : MCs), (∀ k ∈ cl, k ∈ cl0) → ∀ {H : Hp} {m : List Addr} {dx : Option Addr} {τ : Sg}, 2 ≤ τ.length → RepX ⟨K, B⟩ H m fs dx → RepSt ⟨K, B⟩ H m s → GoodR (Rep ⟨K, B⟩) (metH isA cl c fs s) Q W ⟨K, B⟩ H m → wCls K Dn (cl.map (mcl K)) (.ref (He.ga K c)) dx τ H
  | [], _, _, _, _, _, _, _, _, h => h.elim
  | (x, .txt t) :: cl, hk, H, m, dx, τ, hτ, rx, rs, h => by
    refine ⟨isA c x, C.exm c hc _ (hk _ List.mem_cons_self), fun hb a na => ?_, fun hb => ?_⟩
    · simp only [metH, hb, if_true] at h
      show Dn.rt (.str t) H
      rw [hD]
      exact good_ok h (Rep.str_iff.mpr rfl) rs
    · simp only [metH, hb, Bool.false_eq_true, if_false] at h
      exact met_good C hD hc cl (fun k hk' => hk k (List.mem_cons_of_mem _ hk')) hτ rx rs h
  | (x, .fld t f) :: cl, hk, H, m, dx, τ, hτ, rx, rs, h => by
    refine ⟨isA c x, C.exm c hc _ (hk _ List.mem_cons_self), fun hb a na => ?_, fun hb => ?_⟩
    · simp only [metH, hb, if_true] at h
      split at h
      · rename_i hcx
        subst hcx
        cases fs with
        | none => exact h.elim
        | some l =>
          simp only at h
          cases hl : l.lookup f with
          | none => rw [hl] at h; exact h.elim
          | some d =>
            rw [hl] at h
            simp only at h
            cases hp : toPyT s d with
            | none => rw [hp] at h; exact h.elim
            | some p =>
              rw [hp] at h
              simp only at h
              split at h
              · rename_i hz
                obtain ⟨dd, vs, e1, e2, e3, e4⟩ := rx
                have look : ∀ {l : List (Str × D)} {vs : List (Str × V)}, RepP ⟨K, B⟩ H m l vs → l.lookup f = some d → ∃ v, vs.lookup f = some v ∧ Rep ⟨K, B⟩ H m d v := by
                  intro l
                  induction l with
                  | nil => intro vs _ z; cases z
                  | cons kd r ih =>
                    obtain ⟨k, d'⟩ := kd
                    rintro vs ⟨v, r', rfl, a1, a2⟩ z
                    by_cases hkf : f = k
                    · subst hkf
                      have e0 : ∀ {γ : Type} (u : γ) (w : List (Str × γ)), List.lookup f ((f, u) :: w) = some u := fun u w => by simp [List.lookup]
                      rw [e0] at z
                      cases z
                      exact ⟨v, e0 _ _, a1⟩
                    · have e : (f == k) = false := by simpa using hkf
                      simp only [List.lookup, e] at z ⊢
                      exact ih a2 z
                obtain ⟨v, h1, h2⟩ := look e4 hl
                refine ⟨?_, rfl, dd, vs, v, p, e1, e2, h1, toPyT_dp rs h2 hp, hz.1, hz.2, ?_⟩
                · show (τ.set 1 (some (.ref a)))[1]? = _
                  rw [List.getElem?_set_self (by omega)]
                · show Dn.rt _ H
                  rw [hD]
                  exact good_ok h (Rep.str_iff.mpr rfl) rs
              · exact h.elim
      · exact h.elim
    · simp only [metH, hb, Bool.false_eq_true, if_false] at h
      exact met_good C hD hc cl (fun k hk' => hk k (List.mem_cons_of_mem _ hk')) hτ rx rs h
/-- met(lambda: body) -/
theorem de_met {x a n fin : Str} {params0 params : Arguments} {body0 : List Stmt} {scope0 scope : Scope} {fd : FuncData} {cl : MCs} {known : List Str} {isA : Str → Str → Bool} {c P : Addr} {body : Expr} {lpos p pos : Pos} {k : Nat} {fe : Fe} (hx : XOk X W) (hr : Room (k + 2) X.A)
    (Dm : FunD X.K x x params0 body0 scope0 [] [] (He.ga X.K x) fd) (T : MetText params0 body0 scope0 a n fin cl) (C : MetCls X.K X.mg known isA cl) (hm : X.mg x = some (.ref (He.ga X.K x))) (bnd : Binds X.K fd [a] [])
    (TB : TabB X.base X.mg c P) (hcode : X.env.code = .ref c) (hmT : (P, X.env.qual ++ "<lambda>") ∈ TabsCtx.T) (hu : ∀ p ∈ TabsCtx.T, p.1 = P → p.2 = X.env.qual ++ "<lambda>") (L : LamS X.env.scope scope)
    (hbody : ∀ (A : Around) (ou : List Env) (s : Shared) (H : Hp) (E : XK) (f c' : Addr), Room k (A.deeper (lamEnv X scope s.heap.objs.size f c')) → XOk (lamCx X A ou s H E scope f c') (fun c d _ H' => E (trK X.K c) d H') → DE (lamCx X A ou s H E scope f c') (fun c d _ H' => E (trK X.K c) d H') body fe)
    (hdef : defaultsOf params X.env = ([], []) := by rfl) (hbind : ∀ (q : Str) (cl : List (Str × Addr)) (pm cv ctv : Value), bindArgs (PySem.W.kla_fn "<lambda>" q params body scope cl pm cv ctv) ⟨[], []⟩ = pure [] := by intros; rfl)
    (hg : Gl X x := by rfl) (hdb : (x == ("__debug__" : Str)) = false := by decide) : DE X W (.Call (.Name x p) [.Lambda params body scope lpos] [] pos) (xMet known isA cl fin fe) := by
  refine ⟨tOf X.K W (xMet known isA cl fin fe), ⟨fun pins s σ H Q I ⟨B, ρ, st, m, re, rs, h⟩ => ?_⟩, fun B σ H ρ st m Q re rs h => ⟨B, ρ, st, m, re, rs, h⟩⟩
  obtain ⟨oc, od, dV, kV, doc, pm0, an, cd, ct, osl, rfl, hk, hc, _, _⟩ := Dm.ex
  obtain ⟨p1, p2, p3, p4, p6, p5, j, h0, hds, eb, S⟩ := T.body
  refine wpAny_Call_Name_kw (ld_glob I hg hm ?_ hdb)
  refine PySem.W.callWith_K (h₀ := X.base) I.ok.mod.kin Dm.kp ?_ (by rfl) (by rfl)
  show wpAny _ _ (spliced ((false, eval (.Lambda params body scope lpos) X.env) :: backTo pos (starEach [] X.env))) _ _ s
  refine Calls.spliced_cons (lam_make2 (T := TabsCtx.T) I TB hcode hmT hu (fun p hp => (rs.tabs p hp).tabS) hdef (L.has I.ok) fun f c' pm ctv H1 s1 I1 eN T1 hf hfn hfr hco => Calls.spliced_nil ⟨I1.kIn, ?_⟩)
  have ev : Evo H m H1 m := evo_lam rs eN T1
  have h := GoodR.evo h ev
  have re1 := re.evo ev
  have rs1 : RepSt ⟨X.K, B⟩ H1 m st := rs.evoN eN T1
  have run : codeAny (model X.prog X.w) X.A (.call (.ref (He.ga X.K x)) ⟨[.ref f], []⟩) (CR (L2.CX X.prog X.w) X.stack X.prog X.w H1 s1 Q (fun _ _ _ => False)) s1 := by
    refine run_ofS (N := [a, n]) (ps := [a]) (us := [.ref f]) (vs := [.ref f]) hk hc T.scp hr I1.env0 (bnd s1 [.ref f] I1.kIn rfl) (.cons rfl .nil) rfl fun room => ?_
    rw [eb]
    have cls := met_clauses (X := cxOf (L2.CX X.prog X.w) X.prog X.w X.K X.mg X.base [a, n] x scope0 (He.ga X.K x) cd X.A X.stack s1 H1 (fun _ _ _ => False)) S rfl T.ln T.rep T.cls C.glo C.fld C.rep hx.gd room.units T.d3 T.d4
    refine ⟨_, pss_cons (ps_try_cls (tb := fun W D τ G => ∃ E : XK, (∀ cls d τ' G', τ'.length = 2 → E cls d G' → W cls d τ' G') ∧ τ[0]? = some (some (.ref f)) ∧ G c' = some (CodeO c' (X.env.qual ++ "<lambda>")) ∧ ∃ (B : List Addr) (ρ : DEnv) (st : Store) (m : List Addr), RepE ⟨X.K, B⟩ G m ρ σ ∧ RepSt ⟨X.K, B⟩ G m st ∧
        GoodR (Rep ⟨X.K, B⟩) (fe ρ st) (fun _ G' => D.nx τ G') (fun c d G' => E (trK X.K c) d G') ⟨X.K, B⟩ G m) rfl rfl T.scp.nd cls (fun W' pn xe tk po => ?_)) (pss_one (ps_ret pe_str)), ?_⟩
    · refine ⟨fun pins2 s2 τ G D J ⟨E, hE, slot, cod, B, ρ, st, m, re, rs, g⟩ => ?_⟩
      have act := act_pe (Ng := [a, n]) (qg := x) (sg := scope0) (g := He.ga X.K x) (cdg := cd) (Eg := fun _ _ _ => False) (p1 := p1) (p2 := p2) (E := E) (tb := fun τ G Q => ∃ (B : List Addr) (ρ : DEnv) (st : Store) (m : List Addr), RepE ⟨X.K, B⟩ G m ρ τ ∧ RepSt ⟨X.K, B⟩ G m st ∧ GoodR (Rep ⟨X.K, B⟩) (fe ρ st) Q (fun c d G' => E (trK X.K c) d G') ⟨X.K, B⟩ G m)
        I1 L hf hfn hfr hx.gd (hbind _ _ _ _ _) tk hE room (fun A ou s H gd r => ?_) rfl (.inl T.la) T.d1 T.d2
      · exact (pss_one (ps_expr act)).run pins2 s2 τ G D J ⟨slot, cod, B, ρ, st, m, re, rs, g⟩
      · exact (hbody A ou s H E f c' r ⟨rfl, hx.nd, Takes.tag (takes_of rfl rfl rfl rfl), gd⟩).pe
    · refine ⟨fun cls d G => ∀ τ : Sg, τ.length = 2 → wCls X.K { nx := fun τ G => Q (.str fin) G, rt := Q } (cl.map (mcl X.K)) cls d τ G, fun cls d τ' G' z q => q τ' z, rfl, hco, B, ρ, st, m, re1, rs1, ?_⟩
      unfold xMet at h
      cases er : fe ρ st with
      | ok d s =>
        rw [er] at h
        exact fun v H' m' e r rs' => h (.str fin) H' m' e (Rep.str_iff.mpr rfl) rs'
      | fail => rw [er] at h; exact h.elim
      | exc cv fs s =>
        rw [er] at h
        cases cv with
        | str cn tk =>
          simp only at h
          split at h
          · rename_i hkn
            exact fun dx H' m' e rx rs' τ hτ => met_good C rfl (List.contains_iff_mem.mp hkn) cl (fun _ z => z) (by omega) rx rs' (GoodR.evo h e)
          · exact h.elim
        | _ => exact h.elim
  refine wpAny_call (codeAny_mono run fun r s2 q => ?_)
  match r, q with
  | .error e, q => exact (CX_false q).elim
  | .ok (.ret u), q => exact I1.after q
  | .ok .next, q => exact q.elim
  | .ok .brk, q => exact q.elim
  | .ok .cont, q => exact q.elim
end
end DL
namespace DL
open PySem PySem.Spec PyProof.Rows L2
theorem InitD.init {prog : Program} {file : Str} {K : PySem.W.Frag} {d : InitD} (hf : prog.main.file = file) (ht : (prog.main.scope.names.lookup ("super" : Str)).isSome = false) (o : d.obs K = d.val) (c : d.ok file K = true) :
    InitC prog K (He.ga K d.cls) (d.at_ K) d.params d.body d.scope d.fld d.base d.newId d.initId d.mro ∧ XfC K (He.ga K d.cls) ∧ PySem.W.findIn K (.ref (He.ga K d.cls)) d.fld = some none := by
  unfold InitD.ok at c
  simp only [Bool.and_eq_true, decide_eq_true_eq] at c
  obtain ⟨⟨⟨⟨⟨⟨c1, c2⟩, c3⟩, c4⟩, c5⟩, c6⟩, ⟨⟨⟨⟨⟨⟨c7, c8⟩, c9⟩, c10⟩, c11⟩, c12⟩, c13⟩, c14, ⟨c15, c16⟩, c17⟩ := c
  refine ⟨⟨c1, c2, c3, He.eqO_ok c4, c5, He.eqO_ok c6, c7, c8, c9, c10, c11, c12, c13, ?_, c15, ht⟩, xfB_ok c16, He.eqO_ok c17⟩
  unfold InitD.obs at o
  cases q : K.lookup (d.at_ K) with
  | none => rw [q] at c14; cases c14
  | some ob =>
    obtain ⟨oc, od, dt, osl⟩ := ob
    rw [q] at c14 o
    cases dt with
    | func fd =>
      obtain ⟨n1, n2, n3, n4, n5, n6, n7, n8, n9, n10, n11, n12, n13, n14, n15⟩ := fd
      have e2 : (some (n1, n3, n4, n5, n6, n7.map (·.1), n15) : InitV) = some (("__init__" : Str), d.params, FuncBody.stmts d.body, d.scope, mainGlobals, [("__class__" : Str)], builtinsNs) := o
      simp only [Option.some.injEq, Prod.mk.injEq] at e2
      obtain ⟨h1, h2, h3, h4, h5, h6, h7⟩ := e2
      subst h1 h2 h3 h4 h5 h7
      simp only [Bool.and_eq_true] at c14
      obtain ⟨⟨k0, k1⟩, k2, k3⟩ := c14
      cases n8 <;> first | (cases k0; done) | skip
      cases n7 with
      | nil => cases h6
      | cons pc r =>
        obtain ⟨nm, cc⟩ := pc
        cases r with
        | cons _ _ => simp at h6
        | nil =>
          simp only [List.map_cons, List.map_nil, List.cons.injEq, and_true] at h6
          subst h6
          simp only at k2
          cases q2 : K.lookup cc with
          | none => rw [q2] at k2; cases k2
          | some o2 =>
            obtain ⟨a1, a2, a3, a4⟩ := o2
            rw [q2] at k2
            cases a3 with
            | cell v =>
              cases v with
              | none => cases k2
              | some v =>
                cases v with
                | ref C =>
                  simp only [decide_eq_true_eq] at k2
                  subst k2
                  cases n13 with
                  | ref cda =>
                    simp only at k3
                    cases q3 : K.lookup cda with
                    | none => rw [q3] at k3; cases k3
                    | some o3 =>
                      obtain ⟨b1, b2, b3, b4⟩ := o3
                      rw [q3] at k3
                      cases b3 with
                      | fields vs =>
                        simp only at k3
                        cases q4 : (vs[2]? : Option Value) with
                        | none => rw [q4] at k3; cases k3
                        | some v2 =>
                          rw [q4] at k3
                          cases v2 with
                          | str fl tk => exact ⟨n2, n9, n10, n11, n12, n14, cda, cc, oc, od, osl, rfl, k1, ⟨_, _, _, q2⟩, _, _, vs, _, fl, tk, q3, q4, by rw [hf]; exact k3⟩
                          | _ => cases k3
                      | _ => cases k3
                  | _ => cases k3
                | _ => cases k2
            | _ => cases k2
    | _ => cases c14
theorem Look.says_of {L : Look} {h : Heap} (e : L.obs h.get? (L.frag h.get?) = L.val) : L.Says h (L.frag h.get?) := by
  have e1 := congrArg (fun z : AlL => z.1) e
  have e2 := congrArg (fun z : AlL => z.2.1) e
  have e3 := congrArg (fun z : AlL => z.2.2) e
  simp only [Look.obs, Look.val, Bool.and_eq_true] at e1 e2 e3
  obtain ⟨a1, a2, a3, a4, a5⟩ := e1
  have tab : ∀ p ∈ L.tf, PySem.W.codeHdIn (L.frag h.get?) (He.cT (L.frag h.get?) p).1 (He.cT (L.frag h.get?) p).2 = true ∧ ∃ o, h.get? (He.cT (L.frag h.get?) p).2 = some o ∧ He.emptyTab o = true := fun p hp => by
    have z := List.all_eq_true.mp a5 p hp
    simp only [Bool.and_eq_true] at z
    refine ⟨z.1, ?_⟩
    cases q : h.get? (He.cT (L.frag h.get?) p).2 with
    | none => rw [q] at z; cases z.2
    | some o => rw [q] at z; exact ⟨o, rfl, z.2⟩
  exact ⟨List.all_eq_true.mp a1, fun d hd => He.DefD.funD (map_eq_mem e2 d hd) (List.all_eq_true.mp a2 d hd), fun d hd => ⟨map_eq_mem e3 d hd, List.all_eq_true.mp a3 d hd⟩, a4, fun p hp => (tab p hp).1,
    fun p hp => let ⟨_, o, q, z⟩ := tab p hp; He.frT_none q z, fun p hp => let ⟨_, o, q, z⟩ := tab p hp; by rw [q, He.emptyTab_eq z]⟩
def Look.hook (L : Look) : PySem.W.Hook where
  α := AlL
  obs := fun s => L.obs s.heap.get? (L.frag s.heap.get?)
  val := fun _ => L.val
  says := fun _ h => ∃ K : PySem.W.Frag, K.In h ∧ L.Says h K
  of := fun _ _ e => ⟨_, He.frT_in, Look.says_of e⟩
  keeps := fun _ _ _ ⟨K, hK, c⟩ k => ⟨K, PySem.W.Frag.In.keeps hK k, ⟨c.fa, c.fn, c.ins, c.ex, c.hd, c.out, fun p hp => k _ _ (c.empty p hp)⟩⟩
theorem Look.obs_eq {L : Look} {g : Addr → Option Obj} {s : Shared} (h : ∀ a, g a = s.heap.get? a) : L.obs g (L.frag g) = L.hook.obs s := by
  have e : g = s.heap.get? := funext h
  rw [e] <;> rfl
end DL
namespace DL
open PySem PySem.Spec PyProof.Rows L2
theorem lawDT {l : PySem.W.OpenLaw} {n : Nat} {q : Program} {loose : List Str} {XP : (Str → Option Value) → Heap → Prop} {YP : World → Heap → Prop} {d : DefRec} {x : Str} (hn : l.most = some n) (hn2 : n ≤ sizeLine) (hdf : d.params.defaults = [])
    (hF : ∀ (w : World) (mg : Str → Option Value) (fa : Addr) (h : Heap), YP w h → h.Ns mainGlobals mg → mg d.name = some (.ref fa) →
      ∃ (K : PySem.W.Frag) (fd : FuncData) (k : Nat) (F : Fd) (cs : List (Addr × Addr × Str)), Room k callerA ∧ K.In h ∧ (∀ (s : Shared) (u : Value), BindsTo s fd ⟨[u], []⟩ [(x, u)]) ∧
        (∀ p ∈ cs, PySem.W.codeHdIn K p.1 p.2.1 = true ∧ K.lookup p.2.1 = none ∧ h.get? p.2.1 = some { cls := .none, data := .fields #[] }) ∧ (∀ ns : List Int, ns.length ≤ n → ∃ st, F [.rol (ns.map D.int)] [] = .ok (.bl true) st) ∧
        ∀ base : Heap, K.In base → base.Ns mainGlobals mg → (∀ p ∈ cs, LamX.TabB base mg p.1 p.2.1) → FnG l.prog w K mg base k fa fd [x] (@spD ⟨cs.map fun p => p.2⟩ K 1 F)) :
    PySem.W.WalkO q loose XP YP l.row.toRowW d [] (fun f vs => PySem.call f vs) := by
  refine Att.attach_call hn hdf fun w s0 s mg mb fa o pm cd doc a vs ns G Y ho hd hcd hmg sc hints hlen gens => ?_
  obtain ⟨K, fd, k, F, cs, room, inK, bind, tabs, tru, prom⟩ := hF w mg fa _ Y G.T.g hmg
  letI : TabsCtx := ⟨cs.map fun p => p.2⟩
  have rv := L2.vals_ints hints
  have lv := hints.length
  have zl : ns.length ≤ sizeLine := Nat.le_trans hlen hn2
  obtain ⟨ts, hts⟩ : ∃ ts : List Addr, ts = cs.map fun p => p.2.1 := ⟨_, rfl⟩
  have tmem : ∀ p ∈ cs, p.2.1 ∈ ts := fun p hp => by rw [hts]; exact List.mem_map.mpr ⟨p, hp, rfl⟩
  have tget : ∀ b ∈ ts, s.heap.get? b = some { cls := .none, data := .fields #[] } ∧ K.lookup b = none := fun b hb => by
    rw [hts] at hb
    obtain ⟨p, hp, rfl⟩ := List.mem_map.mp hb
    exact ⟨(tabs p hp).2.2, (tabs p hp).2.1⟩
  have aT : a ∉ ts := fun z => by
    have e := (tget a z).1
    rw [sc] at e
    have e2 := congrArg Obj.cls (Option.some.inj e)
    cases e2
  have key : ∀ H : Hp, (∀ b ∈ ts, H b = some (.tbl #[])) → (∀ b, H b = none ∨ b ∈ ts ∨ ∃ o xs, H b = some (.frz o (.lst xs))) → (∀ b, H b ≠ none → b = a ∨ b ∈ ts) → (H a ≠ none → K.lookup a = none) → HOk l.prog w H s.heap →
      (((∃ o, H a = some (.frz o (.lst (ns.map V.int)))) ∧ a ∉ ([] : List Addr) ∧ a ∉ ([] : List Addr)) ∨ LK K a (ns.map V.int)) →
      codeAny (model l.prog w) callerA (.call (.ref fa) ⟨[.ref a], []⟩) (fun r s' => r = .ok (.ret (.bool true)) ∧ OldK s.heap s'.heap ∧ s'.os = s.os ∧ AllBare s'.gens) s := by
    intro H hT hO only nk ok rep
    have free : ∀ {b : Addr} {u : Obj}, s.heap.get? b = some u → (∀ its j, u.data ≠ .seq its j) → u.data ≠ .fields #[] → H b = none := fun {b u} e h1 h2 => by
      cases hb : H b with
      | none => rfl
      | some z =>
        rcases only b (by rw [hb]; exact fun z => nomatch z) with y | y
        · rw [y, sc] at e; cases e; exact (h1 _ _ rfl).elim
        · rw [(tget b y).1] at e; cases e; exact (h2 rfl).elim
    have low : ∀ {b : Addr} {u : Obj}, s.heap.get? b = some u → (∀ its j, u.data ≠ .seq its j) → u.data ≠ .fields #[] → (hidT s.heap H).get? b = some u := fun e h1 h2 => hidT_get e (free e h1 h2)
    have nsB : ∀ {b : Addr} {m : Str → Option Value}, s.heap.Ns b m → (hidT s.heap H).Ns b m := fun {b m} ⟨u, es, ep, e, dd, r⟩ => ⟨u, es, ep, low e (fun _ _ z => by rw [dd] at z; cases z) (fun z => by rw [dd] at z; cases z), dd, r⟩
    have kin : K.In (hidT s.heap H) := fun b u e => hidT_get (inK b u e) (by
      cases hb : H b with
      | none => rfl
      | some z =>
        rcases only b (by rw [hb]; exact fun z => nomatch z) with y | y
        · rw [y] at e hb
          rw [nk (by rw [hb]; exact fun z => nomatch z)] at e
          cases e
        · rw [(tget b y).2] at e; cases e)
    have gl := nsB G.T.g
    have noG : ∀ b ∈ ts, mainGlobals ≠ b := fun b hb z => by
      obtain ⟨u, es, ep, e, dd, _⟩ := G.T.g
      rw [z, (tget b hb).1] at e
      cases e
      cases dd
    have env : Env0 l.prog w K mg (hidT s.heap H) callerA [] s H := { frames := rfl, mod := ⟨kin, gl, ⟨mb, nsB G.T.b, G.T.builtins⟩, let ⟨mc, l1, l2⟩ := G.T.nolimit; ⟨mc, nsB l1, l2⟩⟩, bs := fun b u e => of_hidT e, bsz := Nat.le_of_eq (hidT_size _ _), funs := trivial, frf := (fun b hb => (nomatch hb)), hok := ok, bare := AllBare.of_eq gens }
    have TB : ∀ p ∈ cs, LamX.TabB (hidT s.heap H) mg p.1 p.2.1 := fun p hp => by
      refine ⟨PySem.W.codeHd_of_K kin (tabs p hp).1, ?_, noG _ (tmem p hp)⟩
      obtain ⟨bm, ob, b1, b2, b3, b4, b5, b6⟩ := G.T.bmain
      refine ⟨bm, ob, b1, b2, fun z => ?_, fun z => ?_, low b3 (fun _ _ z => by rw [b6] at z; cases z) (fun z => by rw [b6] at z; cases z), b4, b5, b6⟩
      · obtain ⟨u, es, ep, e, dd, _⟩ := G.T.g
        rw [z, e] at b3
        cases b3
        rw [dd] at b6
        cases b6
      · rw [z, (tabs p hp).2.2] at b3
        cases b3
        cases b6
    obtain ⟨st, ht⟩ := tru ns hlen
    refine codeAny_mono ((prom _ kin gl TB).run callerA [] s H ⟨[.ref a], []⟩ [.ref a] [.ref a] (fun v _ => v = .bl true) (fun _ _ _ => False) room rfl env (bind s (.ref a)) (.cons rfl .nil)
      ⟨[], [.rol (ns.map D.int)], [], [], rfl, .cons (Rep.rol_iff.mpr ⟨a, _, rfl, rep, RepL.ints ns⟩) .nil, ⟨fun b hb => (nomatch hb), rfl, .nil, fun i c z => (nomatch z), fun p hp => ?_⟩, ?_⟩) fun r s' hr => ?_
    · obtain ⟨p', hp', rfl⟩ := List.mem_map.mp hp
      exact ⟨#[], hT _ (tmem p' hp'), by simp, True.intro, fun pos cv hc => by
        have z : codeAmong pos [] = some cv := hc
        simp [codeAmong] at z⟩
    · rw [ht]
      exact fun v H' m' _ r _ => Rep.bl_iff.mp r
    · match r, hr with
      | .error e, hr => exact (CX_false hr).elim
      | .ok .next, hr => exact hr.elim
      | .ok .brk, hr => exact hr.elim
      | .ok .cont, hr => exact hr.elim
      | .ok (.ret u), ⟨v, H', os, bare, un, ok', rel, tv⟩ =>
        cases tv
        cases (show u = Value.bool true from rel)
        have old : ∀ b u, b ∉ ts → s.heap.get? b = some u → s'.heap.get? b = some u := fun b u nb e => by
          rcases hO b with z | z | ⟨ob, xs, z⟩
          · exact un.keep b u e z (fun y => nomatch y) (fun y => nomatch y)
          · exact absurd z nb
          · obtain ⟨q1, _⟩ := ok b _ z
            obtain ⟨q2, _⟩ := ok' b _ (un.frzs b ob _ z)
            rw [e] at q1
            cases q1
            exact q2
        have grown : ∀ b ∈ ts, ∃ more : Array Value, s'.heap.get? b = some { cls := .none, data := .fields more } := fun b hb => by
          obtain ⟨more, z⟩ := un.tbls b #[] (hT b hb)
          exact ⟨_, ok' b _ z⟩
        refine ⟨rfl, ⟨fun b u e => ?_, fun b u e => ?_⟩, os, bare⟩
        · by_cases hb : b ∈ ts
          · obtain ⟨more, hm⟩ := grown b hb
            have hb2 := hb
            rw [hts] at hb2
            obtain ⟨p, hp, rfl⟩ := List.mem_map.mp hb2
            rw [(tabs p hp).2.2] at e
            cases e
            exact .inr (.inl ⟨((PySem.W.codeHd_of_K inK (tabs p hp).1).tab (tabs p hp).2.2).isCodeTable, rfl, #[], more, rfl, by rw [Array.empty_append]; exact hm⟩)
          · exact .inl (old b u hb e)
        · by_cases hb : b ∈ ts
          · obtain ⟨more, hm⟩ := grown b hb
            exact ⟨_, hm⟩
          · exact ⟨u, old b u hb e⟩
  have tok : ∀ {H : Hp}, (∀ b ∈ ts, H b = some (.tbl #[])) → ∀ b ∈ ts, ObjOk l.prog w H s.heap b (.tbl #[]) := fun _ b hb => (tget b hb).1
  cases hk : K.lookup a with
  | some o =>
    have q := inK a o hk
    rw [sc] at q
    cases q
    refine key (fun b => if b ∈ ts then some (.tbl #[]) else none) (fun b hb => if_pos hb) (fun b => ?_) (fun b z => ?_) (fun z => ?_) (fun b u z => ?_) (.inr ⟨_, vs.toArray, _, hk, rfl, rfl, rfl, by rw [List.size_toArray, lv]; exact zl, by simpa using rv⟩)
    · by_cases hb : b ∈ ts
      · exact .inr (.inl hb)
      · exact .inl (if_neg hb)
    · by_cases hb : b ∈ ts
      · exact .inr hb
      · exact absurd (if_neg hb) z
    · exact absurd (if_neg aT) z
    · by_cases hb : b ∈ ts
      · cases (if_pos hb).symm.trans z
        exact (tget b hb).1
      · cases (if_neg hb).symm.trans z
  | none =>
    refine key (fun b => if b = a then some (.frz { cls := .type "list", data := .seq vs.toArray } (.lst (ns.map V.int))) else if b ∈ ts then some (.tbl #[]) else none) (fun b hb => ?_) (fun b => ?_) (fun b z => ?_) (fun _ => hk) (fun b u z => ?_) (.inl ⟨⟨_, if_pos rfl⟩, fun z => (nomatch z), fun z => (nomatch z)⟩)
    · rw [if_neg (fun z => aT (by rw [← z]; exact hb)), if_pos hb]
    · by_cases e : b = a
      · exact .inr (.inr ⟨_, _, if_pos e⟩)
      · by_cases hb : b ∈ ts
        · exact .inr (.inl hb)
        · exact .inl (by rw [if_neg e, if_neg hb])
    · by_cases e : b = a
      · exact .inl e
      · by_cases hb : b ∈ ts
        · exact .inr hb
        · exact absurd (by rw [if_neg e, if_neg hb]) z
    · by_cases e : b = a
      · subst e
        cases (if_pos rfl).symm.trans z
        exact ⟨sc, by rw [List.length_map]; exact zl, vs, _, rv, sc⟩
      · have z1 := (if_neg e).symm.trans z
        by_cases hb : b ∈ ts
        · cases (if_pos hb).symm.trans z1
          exact (tget b hb).1
        · cases (if_neg hb).symm.trans z1
end DL
namespace DL
open PySem PySem.Spec PyProof.Rows L2
variable [TabsCtx]
theorem kdat_of {K : PySem.W.Frag} {h : Heap} {mg : Str → Option Value} {x : Str} {d : D} (X : K.In h) (G : h.Ns mainGlobals mg) (c : datB K x d = true) : ∃ u, mg x = some u ∧ kRep K d u = true := by
  unfold datB at c
  split at c
  · rename_i u e; exact ⟨u, PySem.W.mg_of X G e, c⟩
  · cases c
theorem excC_of {K : PySem.W.Frag} {h : Heap} {mg : Str → Option Value} {x : Str} (X : K.In h) (G : h.Ns mainGlobals mg) (g : (He.Fa.glo x).ok K = true) (c : (He.Fa.exc x).ok K = true) : ExcC K mg x :=
  let ⟨a, b, d, e⟩ := He.exc_ok c; ⟨He.glo_ok X G g, a, b, d, e⟩
theorem held_nil {X : Cx} {k : Nat} : ∀ p ∈ ([] : List (Str × Nat × Fd)), Held X k p.1 p.2.1 p.2.2 := fun _ h => by simp at h
theorem held_cons {X : Cx} {k n : Nat} {y : Str} {F : Fd} {tb : List (Str × Nat × Fd)} (h : Held X k y n F) (r : ∀ p ∈ tb, Held X k p.1 p.2.1 p.2.2) : ∀ p ∈ (y, n, F) :: tb, Held X k p.1 p.2.1 p.2.2 := fun p hp => by
  rcases List.mem_cons.mp hp with z | z
  · rw [z]; exact h
  · exact r p z
theorem held_of {X : Cx} {k : Nat} {tb : List (Str × Nat × Fd)} (h : ∀ p ∈ tb, Held X k p.1 p.2.1 p.2.2) : ∀ y n F, tb.lookup y = some (n, F) → Held X k y n F := fun y n F e => h (y, n, F) (PySem.mem_of_lookup e)
theorem all_at {l : List Bool} (h : l.all id = true) (i : Nat) {b : Bool} (e : l[i]? = some b) : b = true := List.all_eq_true.mp h b (List.mem_of_getElem? e)
theorem xfBB_ok {K : PySem.W.Frag} {x f : Str} (h : xfBB K x f = true) : XfC K (He.ga K x) ∧ PySem.W.findIn K (.ref (He.ga K x)) f = some none :=
  let ⟨a, b⟩ := Bool.and_eq_true_iff.mp h; ⟨xfB_ok a, He.eqO_ok b⟩
section
variable {X : Cx} {W : WX} {pos : Pos}
/-- a, b, c = x, y, z -/
def sPar3 (i j l : Nat) (fa : Fa) : Fs := fun ρ st => (fa ρ st).thenS ρ fun ds s1 => match ds with
  | [a, b, c] => .nx (((ρ.set i (some a)).set j (some b)).set l (some c)) s1
  | _ => .fail
@[simp] theorem ev_sPar3 {ρ : DEnv} {st : Store} (i j l : Nat) (fa : Fa) : sPar3 i j l fa ρ st = (fa ρ st).thenS ρ fun ds s1 => match ds with
  | [a, b, c] => .nx (((ρ.set i (some a)).set j (some b)).set l (some c)) s1
  | _ => .fail := id rfl
theorem ds_par3 {i j l : Nat} {x y z : Str} {a b c : Expr} {fa : Fa} {px py pz pt : Pos} {kt k2 pt2} (hx : XOk X W) (ha : DA X W [a, b, c] fa) (hi : X.N[i]? = some x := by rfl) (hj : X.N[j]? = some y := by rfl) (hl : X.N[l]? = some z := by rfl) (hij : i ≠ j := by decide) (hil : i ≠ l := by decide) (hjl : j ≠ l := by decide)
    (h1 : X.env.scope.names.lookup x = some .local := by rfl) (h2 : X.env.scope.names.lookup y = some .local := by rfl) (h3 : X.env.scope.names.lookup z = some .local := by rfl)
    (hw : swappedStores [.Tuple [.Name x px, .Name y py, .Name z pz] kt pt] (.Tuple [a, b, c] k2 pt2) X.env = pure (some [x, y, z]) := by rfl)
    (hs : swapsWithSole [.Tuple [.Name x px, .Name y py, .Name z pz] kt pt] (.Tuple [a, b, c] k2 pt2) pos.line X.env = pure false := by rfl) :
    DS X W (.Assign [.Tuple [.Name x px, .Name y py, .Name z pz] kt pt] (.Tuple [a, b, c] k2 pt2) pos) (sPar3 i j l fa) := by
  obtain ⟨⟨t, p, q⟩, _⟩ := ha
  refine ⟨_, ps_par3 hx.calm hx.nd hi hj hl hij hil hjl h1 h2 h3 p hw hs, fun B σ H ρ st m En re rs h => ?_⟩
  refine q B σ H ρ st m _ re rs (good_thenS re h fun ds s1 vs H1 m1 e1 r1 rs1 h1 => ?_)
  match ds, h1, r1 with
  | [a, b, c], h1, r1 =>
    obtain ⟨u, r, rfl, ra, r1⟩ := r1.inv_cons
    obtain ⟨v, r, rfl, rb, r1⟩ := r1.inv_cons
    obtain ⟨w, r, rfl, rc, r1⟩ := r1.inv_cons
    cases r1.inv_nil
    exact ⟨u, v, w, rfl, h1 _ H1 m1 .refl ((((re.evo e1).set i ra).set j rb).set l rc) rs1⟩
  | [], h1, _ => exact h1.elim
  | [_], h1, _ => exact h1.elim
  | [_, _], h1, _ => exact h1.elim
  | _ :: _ :: _ :: _ :: _, h1, _ => exact h1.elim
end
end DL
namespace DL
open PySem PySem.Spec PyProof.Rows L2
variable [TabsCtx]
def b_roll : Fs := (sSeq (sIf (tVal (xOp gGt (xOp gIx (xVar 0) (xC (.int 0))) (xC (.int 0)))) (sSeq (sSet 4 (xOp gMod (xOp gIx (xVar 0) (xC (.int 0))) (xVar 1))) (sSeq (sPut (xVar 0) (xC (.int 0)) (xOp gFdiv (xOp gIx (xVar 0) (xC (.int 0))) (xVar 1))) (sRet (xCall gInt (aCons (xVar 4) aNil))))) sPass) (sSeq (sPut (xVar 0) (xC (.int 2)) (xOp gAdd (xOp gIx (xVar 0) (xC (.int 2))) (xC (.int 1)))) (sSeq (sSet 2 (xOp gMod (xOp gAdd (xOp gIx (xVar 0) (xC (.int 1))) (xOp gMulT (xC (.int 49979687)) (xOp gIx (xVar 0) (xC (.int 2))))) (xC (.int 2305843009213693951)))) (sSeq (sSet 3 (xOp gAdd (xOp gMulT (xOp gMod (xOp gAdd (xOp gMulT (xVar 2) (xVar 2)) (xOp gMulT (xC (.int 131)) (xOp gIx (xVar 0) (xC (.int 2))))) (xC (.int 2305843009213693921))) (xC (.int 32452843))) (xVar 2))) (sRet (xOp gMod (xCall gInt (aCons (xOp gFdiv (xVar 3) (xC (.int 65587))) aNil)) (xVar 1)))))))
def F_roll : Fd := runP 5 b_roll
def b_pick : Fs := (sRet (xOp gIx (xVar 1) (xApply F_roll (aCons (xVar 0) (aCons (xCall gLen (aCons (xVar 1) aNil)) aNil)))))
def F_pick : Fd := runP 2 b_pick
def b_dice : Fs := (sSeq (sSet 2 (xIf (tVal (xOp gLt (xVar 1) (xCall gLen (aCons (xVar 0) aNil)))) (xCall gInt (aCons (xOp gIx (xVar 0) (xVar 1)) aNil)) (xOp gAdd (xOp gMulT (xC (.int 131)) (xVar 1)) (xC (.int 37))))) (sSeq (sSet 3 (xOp gMod (xCall gInt (aCons (xCall gAbs (aCons (xVar 2) aNil)) aNil)) (xOp gPow (xOp gPow (xC (.int 10)) (xC (.int 53))) (xC (.int 6))))) (sSeq (sSet 4 (xOp gAdd (xOp gAdd (xOp gAdd (xOp gMulT (xOp gMod (xVar 3) (xC (.int 2305843009213693907))) (xC (.int 73))) (xOp gMulT (xC (.int 619)) (xVar 1))) (xOp gMulT (xC (.int 41)) (xCall gInt (aCons (xOp gLt (xVar 2) (xC (.int 0))) aNil)))) (xC (.int 17)))) (sRet (xNew (aCons (xCall gMax (aCons (xC (.int 0)) (aCons (xOp gSub (xVar 3) (xOp gPow (xC (.int 10)) (xC (.int 16)))) aNil))) (aCons (xVar 4) (aCons (xC (.int 0)) aNil))))))))
def F_dice : Fd := runD 5 b_dice
theorem small_len {n : Nat} (h : n ≤ 1000) : n ≤ sizeLine := by rw [sizeLine_eq]; omega
theorem log_lt {x n : Nat} (h : x < 2 ^ n) (hn : 0 < n) : x.log2 < n := by
  by_cases e : x = 0
  · subst e; simpa using hn
  · exact (Nat.log2_lt e).mpr h
theorem two_pow_le {m n : Nat} (h : m ≤ n) : 2 ^ m ≤ 2 ^ n := Nat.pow_le_pow_right (by decide) h
theorem mul_room {a b : Int} {m n : Nat} (ha : a.natAbs < 2 ^ m) (hb : b.natAbs < 2 ^ n) (hm : 0 < m) (hn : 0 < n) (h : m + n < 1000000) : a.natAbs.log2 + b.natAbs.log2 < 1000000 := by
  have h1 := log_lt ha hm
  have h2 := log_lt hb hn
  omega
abbrev Tri := Int × Int × Int
def Dc (t : Tri) : Cell := .lst [.int t.1, .int t.2.1, .int t.2.2]
structure Gd (n : Nat) (t : Tri) : Prop where
  g0 : 0 ≤ t.1
  g1 : t.1 < 2 ^ 1100
  s0 : 0 ≤ t.2.1
  s1 : t.2.1 < 2 ^ 200
  c0 : 0 ≤ t.2.2
  c1 : t.2.2 ≤ n
theorem Gd.mono {m n : Nat} {t : Tri} (h : Gd m t) (hmn : m ≤ n) : Gd n t := ⟨h.g0, h.g1, h.s0, h.s1, h.c0, Int.le_trans h.c1 (by omega)⟩
structure Dst (st : Store) (l : Nat) : Prop where
  lt : l < st.length
  be : ∀ t m, Store.below m (st.set l (Dc t)) = true
theorem nat_lt {i : Int} {n : Nat} (h0 : 0 ≤ i) (h : i < 2 ^ n) : i.natAbs < 2 ^ n := by
  have e : ((2 ^ n : Nat) : Int) = 2 ^ n := by simp
  omega
theorem fmod_pos {a k : Int} (hk : 0 < k) : 0 ≤ a.fmod k ∧ a.fmod k < k := ⟨Int.fmod_nonneg_of_pos a hk, Int.fmod_lt_of_pos a hk⟩
theorem fdiv_bd {a k : Int} (ha : 0 ≤ a) (hk : 0 < k) : 0 ≤ a.fdiv k ∧ a.fdiv k ≤ a := by
  rw [Int.fdiv_eq_ediv_of_nonneg _ (by omega)]
  exact ⟨Int.ediv_nonneg ha (by omega), Int.ediv_le_self _ ha⟩
theorem roll_ok {st : Store} {l n : Nat} {t : Tri} {k : Int} (S : Dst st l) (G : Gd n t) (hn : n < 2 ^ 60) (hk : 0 < k) (hk2 : k < 2 ^ 60) :
    ∃ v t', F_roll [.loc l, .int k] (st.set l (Dc t)) = .ok (.int v) (st.set l (Dc t')) ∧ 0 ≤ v ∧ v < k ∧ Gd (n + 1) t' := by
  obtain ⟨g, s, c⟩ := t
  have hg0 : (0 : Int) ≤ g := G.g0
  have hs0 : (0 : Int) ≤ s := G.s0
  have hc0 : (0 : Int) ≤ c := G.c0
  have hc1 : c ≤ n := G.c1
  have hs1 : s < 2 ^ 200 := G.s1
  have hl : ∀ d : Cell, (st.set l d)[l]? = some d := fun d => by simp [S.lt]
  have ix : ∀ (d : Tri) (i : Nat) (x : D), ([D.int d.1, .int d.2.1, .int d.2.2])[i]? = some x → gIx (st.set l (Dc d)) (.loc l) (.int (i : Nat)) = some x := fun d i x h => gIx_loc (hl _) h
  have x0 : gIx (st.set l (Dc (g, s, c))) (.loc l) (.int 0) = some (.int g) := ix (g, s, c) 0 _ rfl
  have x2 : gIx (st.set l (Dc (g, s, c))) (.loc l) (.int 2) = some (.int c) := ix (g, s, c) 2 _ rfl
  have hk9 : k.natAbs.log2 < 9000 := log_lt (Nat.lt_trans (nat_lt (by omega) hk2) (by decide)) (by decide)
  have e0 : List.replicate (5 - (0 + 1 + 1)) (none : Option D) = [none, none, none] := rfl
  have put : ∀ (d d' : Tri) (i : Nat) (x : D), ([D.int d.1, .int d.2.1, .int d.2.2]).set i x = [.int d'.1, .int d'.2.1, .int d'.2.2] → i < 3 → putL (st.set l (Dc d)) (.loc l) (.int (i : Nat)) x = some (st.set l (Dc d')) := fun d d' i x h hi => by
    unfold putL
    simp only [hl, Dc]
    have e : ixN ([D.int d.1, .int d.2.1, .int d.2.2]).length (i : Nat) = some i := by
      unfold ixN
      rw [if_pos (by omega), if_pos (by simp; omega)]
      simp
    rw [e, Option.map_some, h, List.set_set]
  by_cases hg : g > 0
  · refine ⟨g.fmod k, (g.fdiv k, s, c), runP_below (s2 := []) ?_ (by simp) (by rw [List.length_set]; exact S.be _ _) (by simp), (fmod_pos hk).1, (fmod_pos hk).2, ?_⟩
    · have p1 : putL (st.set l (Dc (g, s, c))) (.loc l) (.int 0) (.int (g.fdiv k)) = some (st.set l (Dc (g.fdiv k, s, c))) := put (g, s, c) (g.fdiv k, s, c) 0 _ rfl (by decide)
      have m1 : gMod (st.set l (Dc (g, s, c))) (.int g) (.int k) = some (.int (g.fmod k)) := gMod_int (by omega)
      have m2 : gFdiv (st.set l (Dc (g, s, c))) (.int g) (.int k) = some (.int (g.fdiv k)) := gFdiv_int (by omega) hk9
      have dg : decide (g > 0) = true := decide_eq_true hg
      simp only [b_roll, DL.start]
      simp only [List.map_cons, List.map_nil, List.length_cons, List.length_nil, e0]
      simp only [List.cons_append, List.nil_append, ev_sSeq, ev_sIf, ev_tVal, ev_xOp, ev_xVar, List.getElem?_cons_zero, List.getElem?_cons_succ, Res.bind_ok, ev_xC, x0, lift_some, gGt_int, dg, ev_tB, liftB_some, Res.thenS_ok, if_true, ev_sSet, m1, List.set_cons_zero, List.set_cons_succ, seq_nx, ev_sPut, m2, p1, ev_sRet, ev_xCall, ev_aCons, ev_aNil, gInt_int, seq_ret, ofS_ret, List.append_nil]
    · obtain ⟨f0, f1⟩ := fdiv_bd hg0 hk
      exact ⟨f0, Int.lt_of_le_of_lt f1 G.g1, G.s0, G.s1, G.c0, by show c ≤ ((n + 1 : Nat) : Int); omega⟩
  · have dg : decide (g > 0) = false := decide_eq_false hg
    have x1 : gIx (st.set l (Dc (g, s, c + 1))) (.loc l) (.int 1) = some (.int s) := ix (g, s, c + 1) 1 _ rfl
    have x2' : gIx (st.set l (Dc (g, s, c + 1))) (.loc l) (.int 2) = some (.int (c + 1)) := ix (g, s, c + 1) 2 _ rfl
    have p1 : putL (st.set l (Dc (g, s, c))) (.loc l) (.int 2) (.int (c + 1)) = some (st.set l (Dc (g, s, c + 1))) := put (g, s, c) (g, s, c + 1) 2 _ rfl (by decide)
    have hcb : (c + 1).natAbs < 2 ^ 61 := by
      have : (2 : Int) ^ 60 = 1152921504606846976 := by decide
      have : (2 : Nat) ^ 60 = 1152921504606846976 := by decide
      have : (2 : Nat) ^ 61 = 2305843009213693952 := by decide
      omega
    have a1 : gMulT (st.set l (Dc (g, s, c + 1))) (.int 49979687) (.int (c + 1)) = some (.int (49979687 * (c + 1))) := gMul_int (mul_room (m := 64) (by decide) hcb (by decide) (by decide) (by decide))
    have a2 : gMod (st.set l (Dc (g, s, c + 1))) (.int (s + 49979687 * (c + 1))) (.int 2305843009213693951) = some (.int ((s + 49979687 * (c + 1)).fmod 2305843009213693951)) := gMod_int (by decide)
    generalize hone : (s + 49979687 * (c + 1)).fmod 2305843009213693951 = one at a2
    have ho := fmod_pos (a := s + 49979687 * (c + 1)) (k := 2305843009213693951) (by decide)
    rw [hone] at ho
    have hob : one.natAbs < 2 ^ 61 := by
      have : (2 : Nat) ^ 61 = 2305843009213693952 := by decide
      omega
    have a3 : gMulT (st.set l (Dc (g, s, c + 1))) (.int one) (.int one) = some (.int (one * one)) := gMul_int (mul_room hob hob (by decide) (by decide) (by decide))
    have a4 : gMulT (st.set l (Dc (g, s, c + 1))) (.int 131) (.int (c + 1)) = some (.int (131 * (c + 1))) := gMul_int (mul_room (m := 64) (by decide) hcb (by decide) (by decide) (by decide))
    have a5 : gMod (st.set l (Dc (g, s, c + 1))) (.int (one * one + 131 * (c + 1))) (.int 2305843009213693921) = some (.int ((one * one + 131 * (c + 1)).fmod 2305843009213693921)) := gMod_int (by decide)
    generalize htwo : (one * one + 131 * (c + 1)).fmod 2305843009213693921 = two at a5
    have ht := fmod_pos (a := one * one + 131 * (c + 1)) (k := 2305843009213693921) (by decide)
    rw [htwo] at ht
    have htb : two.natAbs < 2 ^ 61 := by
      have : (2 : Nat) ^ 61 = 2305843009213693952 := by decide
      omega
    have a6 : gMulT (st.set l (Dc (g, s, c + 1))) (.int two) (.int 32452843) = some (.int (two * 32452843)) := gMul_int (mul_room (n := 64) htb (by decide) (by decide) (by decide) (by decide))
    have a7 : gFdiv (st.set l (Dc (g, s, c + 1))) (.int (two * 32452843 + one)) (.int 65587) = some (.int ((two * 32452843 + one).fdiv 65587)) := gFdiv_int (by decide) (by decide)
    have a8 : gMod (st.set l (Dc (g, s, c + 1))) (.int ((two * 32452843 + one).fdiv 65587)) (.int k) = some (.int (((two * 32452843 + one).fdiv 65587).fmod k)) := gMod_int (by omega)
    refine ⟨((two * 32452843 + one).fdiv 65587).fmod k, (g, s, c + 1), runP_below (s2 := []) ?_ (by simp) (by rw [List.length_set]; exact S.be _ _) (by simp), (fmod_pos hk).1, (fmod_pos hk).2, ?_⟩
    · simp only [b_roll, DL.start]
      simp only [List.map_cons, List.map_nil, List.length_cons, List.length_nil, e0]
      simp only [List.cons_append, List.nil_append, ev_sSeq, ev_sIf, ev_tVal, ev_xOp, ev_xVar, List.getElem?_cons_zero, List.getElem?_cons_succ, Res.bind_ok, ev_xC, x0, lift_some, gGt_int, dg, ev_tB, liftB_some, Res.thenS_ok, Bool.false_eq_true, if_false, ev_sPass, seq_nx, ev_sPut, x2, gAdd_int, p1, ev_sSet, x1, x2', a1, a2, List.set_cons_zero, List.set_cons_succ, a3, a4, a5, a6, a7, a8,
        ev_sRet, ev_xCall, ev_aCons, ev_aNil, gInt_int, ofS_ret, List.append_nil]
    · exact ⟨G.g0, G.g1, G.s0, G.s1, by show 0 ≤ c + 1; omega, by show c + 1 ≤ ((n + 1 : Nat) : Int); omega⟩
theorem pick_ok {st : Store} {l n : Nat} {t : Tri} {items : List D} (S : Dst st l) (G : Gd n t) (hn : n < 2 ^ 60) (h0 : 0 < items.length) (h1 : items.length < 1000) (hu : ∀ x ∈ items, D.und st.length x = true) :
    ∃ x t', F_pick [.loc l, .lst items] (st.set l (Dc t)) = .ok x (st.set l (Dc t')) ∧ x ∈ items ∧ Gd (n + 1) t' := by
  obtain ⟨v, t', e, v0, v1, G'⟩ := roll_ok (k := (items.length : Nat)) S G hn (by omega) (by
    have : (2 : Int) ^ 60 = 1152921504606846976 := by decide
    omega)
  have hv : v.toNat < items.length := by omega
  have hx : items[v.toNat]? = some items[v.toNat] := List.getElem?_eq_getElem hv
  refine ⟨items[v.toNat], t', runP_below (s2 := []) ?_ (by simp) (by rw [List.length_set]; exact S.be _ _) (by rw [List.length_set]; exact hu _ (List.getElem_mem hv)), List.getElem_mem hv, G'⟩
  have ix : gIx (st.set l (Dc t')) (.lst items) (.int v) = some items[v.toNat] := by
    have := gIx_lst (st := st.set l (Dc t')) items hx
    rwa [Int.toNat_of_nonneg v0] at this
  have e0 : List.replicate (2 - (0 + 1 + 1)) (none : Option D) = [] := rfl
  simp only [b_pick, DL.start]
  simp only [List.map_cons, List.map_nil, List.length_cons, List.length_nil, e0]
  simp only [List.append_nil, ev_sRet, ev_xOp, ev_xVar, List.getElem?_cons_zero, List.getElem?_cons_succ, Res.bind_ok, ev_xApply, ev_aCons, ev_xCall, ev_aNil, gLen_lst, lift_some, e, ix, Res.thenS_ok, ofS_ret]
theorem pow_ev {i : Int} {j : Nat} (s : Store) (h : ((Builtin.Int.intBits i : Int) * (j : Nat) ≤ 2 ^ 27)) : gPow s (.int i) (.int (j : Nat)) = some (.int (i ^ j)) := by
  unfold gPow gII
  simp only
  rw [if_pos (by simpa using h)]
  rfl
theorem op_fe (g : G2) (a b : D) (ρ : DEnv) (s : Store) (d : D) (h : g s a b = some d) : xOp g (xC a) (xC b) ρ s = .ok d s := by
  rw [ev_xOp, ev_xC, Res.bind_ok, ev_xC, Res.bind_ok, h, lift_some]
theorem room30 : ((Builtin.Int.intBits 10 : Int) * (30 : Nat) ≤ 2 ^ 27) := by decide +kernel
set_option maxRecDepth 512 in
theorem pow30 (s : Store) : gPow s (.int 10) (.int 30) = some (.int (10 ^ 30)) := pow_ev (i := 10) (j := 30) _ room30
set_option maxRecDepth 512 in
theorem pow_fe (ρ : DEnv) (s : Store) : xOp gPow (xC (.int 10)) (xC (.int 30)) ρ s = .ok (.int (10 ^ 30)) s := op_fe gPow _ _ ρ s _ (pow30 s)
theorem fi_rng {g : List D → Option (List D × List Nat)} {fa : Fa} {ρ : DEnv} {s s' : Store} {ds : List D} {p : List D × List Nat} (h : fa ρ s = .ok ds s') (hr : g ds = some p) : iRng g fa ρ s = .ok p s' := by
  rw [ev_iRng, h, Res.bind_ok, hr, liftI_some]
theorem op_fes (g : G2) {fa fb : Fe} {a b : D} (ha : ∀ ρ s, fa ρ s = .ok a s) (hb : ∀ ρ s, fb ρ s = .ok b s) {d : D} (h : ∀ s, g s a b = some d) (ρ : DEnv) (s : Store) : xOp g fa fb ρ s = .ok d s := by
  rw [ev_xOp, ha, Res.bind_ok, hb, Res.bind_ok, h, lift_some]
theorem room53 : ((Builtin.Int.intBits 10 : Int) * (53 : Nat) ≤ 2 ^ 27) := by decide +kernel
theorem room16 : ((Builtin.Int.intBits 10 : Int) * (16 : Nat) ≤ 2 ^ 27) := by decide +kernel
theorem room6 : ((Builtin.Int.intBits (10 ^ 53) : Int) * (6 : Nat) ≤ 2 ^ 27) := by decide +kernel
set_option maxRecDepth 512 in
theorem pow53 (s : Store) : gPow s (.int 10) (.int 53) = some (.int (10 ^ 53)) := pow_ev (i := 10) (j := 53) _ room53
set_option maxRecDepth 512 in
theorem pow16 (s : Store) : gPow s (.int 10) (.int 16) = some (.int (10 ^ 16)) := pow_ev (i := 10) (j := 16) _ room16
set_option maxRecDepth 512 in
theorem pow6 (s : Store) : gPow s (.int (10 ^ 53)) (.int 6) = some (.int ((10 ^ 53) ^ 6)) := pow_ev (i := 10 ^ 53) (j := 6) _ room6
theorem fe53 : ∀ (ρ : DEnv) (s : Store), xOp gPow (xOp gPow (xC (.int 10)) (xC (.int 53))) (xC (.int 6)) ρ s = .ok (.int ((10 ^ 53) ^ 6)) s := op_fes gPow (op_fes gPow (fun _ _ => rfl) (fun _ _ => rfl) pow53) (fun _ _ => rfl) pow6
theorem fe16 : ∀ (ρ : DEnv) (s : Store), xOp gPow (xC (.int 10)) (xC (.int 16)) ρ s = .ok (.int (10 ^ 16)) s := op_fes gPow (fun _ _ => rfl) (fun _ _ => rfl) pow16
theorem dice_body {st : Store} {scr : D} {k : Nat} {cell M T : Int} {fc fM fT : Fe} (hk : k < 2 ^ 20) (hc : ∀ a b c, fc [some scr, some (.int (k : Nat)), a, b, c] st = .ok (.int cell) st) (hM : ∀ ρ s, fM ρ s = .ok (.int M) s) (hT : ∀ ρ s, fT ρ s = .ok (.int T) s) (h0 : 0 < M) (h1 : M < 2 ^ 1100) (hT0 : 0 ≤ T) :
    ∃ t, ofS (sSeq (sSet 2 fc) (sSeq (sSet 3 (xOp gMod (xCall gInt (aCons (xCall gAbs (aCons (xVar 2) aNil)) aNil)) fM)) (sSeq (sSet 4 (xOp gAdd (xOp gAdd (xOp gAdd (xOp gMulT (xOp gMod (xVar 3) (xC (.int 2305843009213693907))) (xC (.int 73))) (xOp gMulT (xC (.int 619)) (xVar 1))) (xOp gMulT (xC (.int 41)) (xCall gInt (aCons (xOp gLt (xVar 2) (xC (.int 0))) aNil)))) (xC (.int 17))))
      (sRet (xNew (aCons (xCall gMax (aCons (xC (.int 0)) (aCons (xOp gSub (xVar 3) fT) aNil))) (aCons (xVar 4) (aCons (xC (.int 0)) aNil)))))))
      [some scr, some (.int (k : Nat)), none, none, none] st) = .ok (.loc st.length) (st ++ [Dc t]) ∧ Gd 0 t := by
  have hg := fmod_pos (a := (cell.natAbs : Int)) h0
  generalize hgr : ((cell.natAbs : Nat) : Int).fmod M = great at hg
  have hs := fmod_pos (a := great) (k := 2305843009213693907) (by decide)
  have g1 : gMod st (.int (cell.natAbs : Nat)) (.int M) = some (.int great) := by rw [gMod_int (by omega), hgr]
  have g2 : gMod st (.int great) (.int 2305843009213693907) = some (.int (great.fmod 2305843009213693907)) := gMod_int (by decide)
  generalize great.fmod 2305843009213693907 = sd at hs g2
  have hsb : sd.natAbs < 2 ^ 61 := by
    have : (2 : Nat) ^ 61 = 2305843009213693952 := by decide
    omega
  have g3 : gMulT st (.int sd) (.int 73) = some (.int (sd * 73)) := gMul_int (mul_room (n := 64) hsb (by decide) (by decide) (by decide) (by decide))
  have hkb : ((k : Nat) : Int).natAbs < 2 ^ 20 := by simpa using hk
  have g4 : gMulT st (.int 619) (.int (k : Nat)) = some (.int (619 * (k : Nat))) := gMul_int (mul_room (m := 64) (by decide) hkb (by decide) (by decide) (by decide))
  have hb : ∀ b : Bool, (if b then (1 : Int) else 0).natAbs < 2 ^ 2 := by decide
  have g5 : ∀ b : Bool, gMulT st (.int 41) (.int (if b then 1 else 0)) = some (.int (41 * (if b then 1 else 0))) := fun b => gMul_int (mul_room (m := 64) (by decide) (hb b) (by decide) (by decide) (by decide))
  have hb2 : ∀ b : Bool, 0 ≤ (if b then (1 : Int) else 0) ∧ (if b then (1 : Int) else 0) ≤ 1 := by decide
  refine ⟨(if great - T > 0 then great - T else 0, sd * 73 + 619 * (k : Nat) + 41 * (if decide (cell < 0) then 1 else 0) + 17, 0), ?_, ?_⟩
  · simp only [ev_sSeq, ev_sSet, hc, Res.thenS_ok, List.set_cons_zero, List.set_cons_succ, seq_nx, ev_xOp, ev_xCall, ev_aCons, ev_aNil, ev_xVar, List.getElem?_cons_zero, List.getElem?_cons_succ, Res.bind_ok, gAbs_int, lift_some, gInt_int, hM, g1, ev_xC, g2, g3, g4, gAdd_int, gLt_int, gInt_bl, g5, ev_sRet, ev_xNew, hT, gSub_int, gMax_two, ofS_ret, Dc]
  · have hh := hb2 (decide (cell < 0))
    generalize (if decide (cell < 0) = true then (1 : Int) else 0) = bb at hh
    have k20 : (2 : Nat) ^ 20 = 1048576 := by decide
    refine ⟨?_, ?_, ?_, ?_, Int.le_refl _, Int.le_refl _⟩
    · show 0 ≤ (if great - T > 0 then great - T else 0)
      split <;> omega
    · show (if great - T > 0 then great - T else 0) < 2 ^ 1100
      refine Int.lt_of_le_of_lt ?_ h1
      split <;> omega
    · show 0 ≤ sd * 73 + 619 * (k : Nat) + 41 * bb + 17
      omega
    · show sd * 73 + 619 * (k : Nat) + 41 * bb + 17 < 2 ^ 200
      have h : sd * 73 + 619 * (k : Nat) + 41 * bb + 17 < 2 ^ 80 := by
        have : (2 : Int) ^ 80 = 1208925819614629174706176 := by decide
        omega
      have h2 : (2 : Int) ^ 80 ≤ 2 ^ 200 := by decide +kernel
      omega
theorem big53 : (0 : Int) < (10 ^ 53) ^ 6 := by decide +kernel
theorem big53b : ((10 : Int) ^ 53) ^ 6 < 2 ^ 1100 := by decide +kernel
theorem big16 : (0 : Int) ≤ 10 ^ 16 := by decide +kernel
theorem dice_ok {st : Store} {ns : List Int} {k : Nat} (hk : k < 2 ^ 20) : ∃ t, F_dice [.rol (ns.map D.int), .int (k : Nat)] st = .ok (.loc st.length) (st ++ [Dc t]) ∧ Gd 0 t := by
  have hkb : ((k : Nat) : Int).natAbs < 2 ^ 20 := by simpa using hk
  have g1 : gMulT st (.int 131) (.int (k : Nat)) = some (.int (131 * (k : Nat))) := gMul_int (mul_room (m := 64) (by decide) hkb (by decide) (by decide) (by decide))
  have hc : ∃ cell : Int, ∀ a b c, xIf (tVal (xOp gLt (xVar 1) (xCall gLen (aCons (xVar 0) aNil)))) (xCall gInt (aCons (xOp gIx (xVar 0) (xVar 1)) aNil)) (xOp gAdd (xOp gMulT (xC (.int 131)) (xVar 1)) (xC (.int 37))) [some (.rol (ns.map D.int)), some (.int (k : Nat)), a, b, c] st = .ok (.int cell) st := by
    by_cases h : k < ns.length
    · refine ⟨ns[k], fun a b c => ?_⟩
      have ix : gIx st (.rol (ns.map D.int)) (.int (k : Nat)) = some (.int ns[k]) := gIx_rol _ (by simp [h])
      have hd : decide (((k : Nat) : Int) < ((ns.map D.int).length : Nat)) = true := decide_eq_true (by simp; omega)
      simp only [ev_xIf, ev_tVal, ev_xOp, ev_xVar, List.getElem?_cons_zero, List.getElem?_cons_succ, Res.bind_ok, ev_xCall, ev_aCons, ev_aNil, gLen_rol, lift_some, gLt_int, hd, ev_tB, liftB_some, if_true, ix, gInt_int]
    · refine ⟨131 * (k : Nat) + 37, fun a b c => ?_⟩
      have hd : decide (((k : Nat) : Int) < ((ns.map D.int).length : Nat)) = false := decide_eq_false (by simp; omega)
      simp only [ev_xIf, ev_tVal, ev_xOp, ev_xVar, List.getElem?_cons_zero, List.getElem?_cons_succ, Res.bind_ok, ev_xCall, ev_aCons, ev_aNil, gLen_rol, lift_some, gLt_int, hd, ev_tB, liftB_some, Bool.false_eq_true, if_false, ev_xC, g1, gAdd_int]
  obtain ⟨cell, hc⟩ := hc
  obtain ⟨t, h, G⟩ := dice_body (st := st) (scr := .rol (ns.map D.int)) hk hc fe53 fe16 big53 big53b big16
  exact ⟨t, h, G⟩
end DL
namespace DL
open PySem PySem.Spec PyProof.Rows L2
variable [TabsCtx]
def b_one : Fs := (sSeq (sIf (tVal (xOp gGt (xApply F_roll (aCons (xVar 0) (aCons (xC (.int 3)) aNil))) (xC (.int 0)))) (sRet (xTup (aCons (xVar 1) (aCons (xC (.bl false)) aNil)))) sPass) (sRet (xTup (aCons (xApply F_pick (aCons (xVar 0) (aCons (xVar 2) aNil))) (aCons (xC (.bl true)) aNil)))))
def F_one : Fd := runP 3 b_one
def opts (right : D) (wrong : List D) : List (D × Bool) := (right, false) :: wrong.map fun d => (d, true)
theorem one_ok {st : Store} {l n : Nat} {t : Tri} {right : D} {wrong : List D} (S : Dst st l) (G : Gd n t) (hn : n + 1 < 2 ^ 60) (h0 : 0 < wrong.length) (h1 : wrong.length < 1000) (hr : D.und st.length right = true) (hu : ∀ x ∈ wrong, D.und st.length x = true) :
    ∃ p ∈ opts right wrong, ∃ t', F_one [.loc l, right, .lst wrong] (st.set l (Dc t)) = .ok (.tup [p.1, .bl p.2]) (st.set l (Dc t')) ∧ Gd (n + 2) t' := by
  obtain ⟨v, t1, e1, v0, v1, G1⟩ := roll_ok (k := 3) S G (by omega) (by decide) (by decide)
  have e0 : List.replicate (3 - (0 + 1 + 1 + 1)) (none : Option D) = [] := rfl
  have und2 : ∀ (x : D) (b : Bool), D.und st.length x = true → ∀ t' : Tri, D.und (st.set l (Dc t')).length (.tup [x, .bl b]) = true := fun x b h t' => by
    rw [List.length_set, und_tup]
    exact undL_all.mpr fun d hd => by
      simp only [List.mem_cons, List.not_mem_nil, or_false] at hd
      rcases hd with rfl | rfl
      · exact h
      · rfl
  by_cases hv : v > 0
  · refine ⟨(right, false), by simp [opts], t1, runP_below (s2 := []) ?_ (by simp) (by rw [List.length_set]; exact S.be _ _) (by have := und2 right false hr t; simpa using this), G1.mono (by omega)⟩
    have dg : decide (v > 0) = true := decide_eq_true hv
    simp only [b_one, DL.start, List.map_cons, List.map_nil, List.length_cons, List.length_nil, e0]
    simp only [List.append_nil, ev_sSeq, ev_sIf, ev_tVal, ev_xOp, ev_xApply, ev_aCons, ev_aNil, ev_xVar, List.getElem?_cons_zero, List.getElem?_cons_succ, Res.bind_ok, ev_xC, e1, gGt_int, dg, lift_some, ev_tB, liftB_some, Res.thenS_ok, if_true, ev_sRet, ev_xTup, seq_ret, ofS_ret]
  · obtain ⟨x, t2, e2, hx, G2⟩ := pick_ok (items := wrong) S G1 (by omega) h0 h1 hu
    refine ⟨(x, true), by simp [opts, hx], t2, runP_below (s2 := []) ?_ (by simp) (by rw [List.length_set]; exact S.be _ _) (by have := und2 x true (hu x hx) t; simpa using this), G2⟩
    have dg : decide (v > 0) = false := decide_eq_false hv
    simp only [b_one, DL.start, List.map_cons, List.map_nil, List.length_cons, List.length_nil, e0]
    simp only [List.append_nil, ev_sSeq, ev_sIf, ev_tVal, ev_xOp, ev_xApply, ev_aCons, ev_aNil, ev_xVar, List.getElem?_cons_zero, List.getElem?_cons_succ, Res.bind_ok, ev_xC, e1, gGt_int, dg, lift_some, ev_tB, liftB_some, Bool.false_eq_true, if_false, ev_sPass, seq_nx, Res.thenS_ok, e2, ev_sRet, ev_xTup, ofS_ret]
/-- what a call's end is told as -/
def tell (known : List Str) (isA : Str → Str → Bool) (cl : MCs) (fin : Str) (r : Res D) : Option Str := match r with
  | .ok _ _ => some fin
  | .exc (.str c _) fs _ => if known.contains c = true then (match metH isA cl c fs [] with
    | .ok (.str t) _ => some t
    | _ => none) else none
  | _ => none
theorem toPyT_up {d : D} {p : PyData} (h : toPyT [] d = some p) (s : Store) : toPyT s d = some p := by
  cases d with
  | loc l => simp [toPyT] at h
  | _ => exact h
theorem metH_up {isA : Str → Str → Bool} {c : Str} {fs : Option (List (Str × D))} {t : Str} : ∀ {cl : MCs}, metH isA cl c fs [] = .ok (.str t) [] → ∀ s : Store, metH isA cl c fs s = .ok (.str t) s
  | [], h, _ => nomatch h
  | (x, hd) :: r, h, s => by
    unfold metH at h ⊢
    split at h
    · rename_i hx
      rw [if_pos hx]
      cases hd with
      | txt u => simp only at h ⊢; cases h; rfl
      | fld u f =>
        simp only at h ⊢
        split at h
        · rename_i hc
          rw [if_pos hc]
          cases fs with
          | none => cases h
          | some l =>
            simp only at h ⊢
            cases hl : l.lookup f with
            | none => rw [hl] at h; cases h
            | some d =>
              rw [hl] at h
              simp only at h ⊢
              cases hp : toPyT [] d with
              | none => rw [hp] at h; cases h
              | some p =>
                rw [hp] at h
                rw [toPyT_up hp s]
                simp only at h ⊢
                split at h
                · rename_i hz; rw [if_pos hz]; cases h; rfl
                · cases h
        · cases h
    · rename_i hx
      rw [if_neg hx]
      exact metH_up h s
theorem metH_nil {isA : Str → Str → Bool} {c : Str} {fs : Option (List (Str × D))} {t : Str} : ∀ {cl : MCs} {s s' : Store}, metH isA cl c fs s = .ok (.str t) s' → s' = s
  | [], _, _, h => nomatch h
  | (x, hd) :: r, s, s', h => by
    unfold metH at h
    split at h
    · cases hd with
      | txt u => simp only at h; cases h; rfl
      | fld u f =>
        simp only at h
        split at h
        · cases fs with
          | none => cases h
          | some l =>
            simp only at h
            cases hl : l.lookup f with
            | none => rw [hl] at h; cases h
            | some d =>
              rw [hl] at h
              simp only at h
              cases hp : toPyT s d with
              | none => rw [hp] at h; cases h
              | some p =>
                rw [hp] at h
                simp only at h
                split at h
                · cases h; rfl
                · cases h
        · cases h
    · exact metH_nil h
theorem runZ_tell {known : List Str} {isA : Str → Str → Bool} {cl : MCs} {fin t : Str} {N : Nat} {b : Fs} {ds : List D} (h : tell known isA cl fin (runZ N b ds []) = some t) (s : Store) {fe : Fe} {ρ : DEnv} (hf : fe ρ s = runZ N b ds s) : xMet known isA cl fin fe ρ s = .ok (.str t) s := by
  unfold xMet
  rw [hf]
  unfold runZ at h ⊢
  split at h
  · rename_i hu
    rw [if_pos hu]
    cases hr : pure0 (runD N b ds []) with
    | ok d s' => rw [hr] at h; simp only [tell] at h ⊢; cases h; rfl
    | fail => rw [hr] at h; cases h
    | exc c fs s' =>
      rw [hr] at h
      simp only [tell] at h ⊢
      cases c with
      | str c k =>
        simp only at h ⊢
        split at h
        · rename_i hk
          rw [if_pos hk]
          cases hm : metH isA cl c fs [] with
          | ok d s2 =>
            rw [hm] at h
            cases d with
            | str u => cases h; have := metH_nil hm; subst this; exact metH_up hm s
            | _ => cases h
          | _ => rw [hm] at h; cases h
        · cases h
      | _ => cases h
  · cases h
/-- the first word that is wrong -/
def dueS : List (Str × Bool) → Str
  | [] => "fine"
  | (x, b) :: r => if b = true then x else dueS r
theorem toPyL_strs : ∀ xs : List Str, toPyL (xs.map D.str) = some (xs.map PyData.str)
  | [] => rfl
  | x :: xs => by simp [toPyL, toPy, toPyL_strs xs]
theorem lay_strs : ∀ xs : List Str, (∀ x ∈ xs, PyData.strOk x = true) → PyData.canLayAll0 (xs.map PyData.str) = true
  | [], _ => rfl
  | x :: xs, h => by simp [PyData.canLayAll0, PyData.canLay0, lay_strs xs fun y hy => h y (by simp [hy]), h x (by simp)]
theorem depth_strs : ∀ xs : List Str, PyData.depthAll (xs.map PyData.str) = 0
  | [] => rfl
  | x :: xs => by simp [PyData.depthAll, PyData.depth, depth_strs xs]
theorem eqv_strs : ∀ xs : List Str, PyData.eqvAll (xs.map PyData.str) (xs.map PyData.str) = true
  | [] => rfl
  | x :: xs => by simp [PyData.eqvAll, PyData.eqv, eqv_strs xs]
theorem pyOf_lstS {st : Store} (xs : List Str) (ok : ∀ x ∈ xs, PyData.strOk x = true) : pyOf st (.lst (xs.map D.str)) = some (.list (xs.map PyData.str)) := by
  simp [pyOf, toPyT, toPy, toPyL_strs, SeqAt.shaped, PyData.canLay0, PyData.depth, lay_strs xs ok, depth_strs]
theorem pyOf_locS {st : Store} {l : Nat} {xs : List Str} (ok : ∀ x ∈ xs, PyData.strOk x = true) (h : st[l]? = some (.lst (xs.map D.str))) : pyOf st (.loc l) = some (.list (xs.map PyData.str)) := by
  simp [pyOf, toPyT, h, toPyL_strs, SeqAt.shaped, PyData.canLay0, PyData.depth, lay_strs xs ok, depth_strs]
theorem gEq_loc_lstS {st : Store} {l : Nat} {xs : List Str} (ok : ∀ x ∈ xs, PyData.strOk x = true) (h : st[l]? = some (.lst (xs.map D.str))) : gEq st (.loc l) (.lst (xs.map D.str)) = some (.bl true) := by
  show ((pyOf st (.loc l)).bind fun p => (pyOf st (.lst (xs.map D.str))).map fun q => D.bl (PyData.eqv p q)) = _
  rw [pyOf_locS ok h, pyOf_lstS xs ok]
  simp [PyData.eqv, eqv_strs]
theorem rep_flat {α : Type} (x : α) : ∀ n : Nat, (List.replicate n [x]).flatten = List.replicate n x
  | 0 => rfl
  | n + 1 => by rw [List.replicate_succ, List.flatten_cons, rep_flat x n, List.replicate_succ]; rfl
theorem gMul_tup1 {st : Store} (x : D) {n : Nat} (h : n ≤ 1000) : gMulT st (.tup [x]) (.int (n : Nat)) = some (.tup (List.replicate n x)) := by
  by_cases e : n = 1
  · subst e; rfl
  · by_cases e0 : n = 0
    · subst e0; rfl
    · show (if ([x] : List D) = [] then none else if ((n : Nat) : Int) = 1 then some (D.tup [x]) else if ((n : Nat) : Int) ≤ 0 then (if -(2 ^ 63) ≤ ((n : Nat) : Int) then some (D.tup []) else none) else gMul st (.tup [x]) (.int (n : Nat))) = _
      rw [if_neg (by simp), if_neg (by omega), if_neg (by omega)]
      show (if 2 ≤ ((n : Nat) : Int) ∧ ((n : Nat) : Int) ≤ 1000 ∧ ([x] : List D) ≠ [] ∧ ([x] : List D).length ≤ 1000 then some (D.tup (List.replicate ((n : Nat) : Int).toNat [x]).flatten) else none) = _
      rw [if_pos ⟨by omega, by omega, by simp, by simp⟩, Int.toNat_natCast, rep_flat]
theorem gMul_lst1 {st : Store} (x : D) {n : Nat} (h : n ≤ 1000) : gMulT st (.lst [x]) (.int (n : Nat)) = some (.lst (List.replicate n x)) := by
  have c : (-(2 ^ 63) ≤ ((n : Nat) : Int) ∧ ((n : Nat) : Int) < 2 ^ 63 ∧ ([x] : List D).length * ((n : Nat) : Int).toNat ≤ sizeLine) := by
    refine ⟨by omega, by omega, ?_⟩
    rw [List.length_singleton, Int.toNat_natCast, Nat.one_mul]
    exact small_len h
  have e : lstM st (.lst [x]) = some [x] := id rfl
  have e2 : gMulT st (.lst [x]) (.int (n : Nat)) = gMul st (.lst [x]) (.int (n : Nat)) := id rfl
  have e3 : gMul st (.lst [x]) (.int (n : Nat)) = (lstM st (.lst [x])).bind fun x => if -(2 ^ 63) ≤ ((n : Nat) : Int) ∧ ((n : Nat) : Int) < 2 ^ 63 ∧ x.length * ((n : Nat) : Int).toNat ≤ sizeLine then some (.lst (List.replicate ((n : Nat) : Int).toNat x).flatten) else none := by rw [gMul]; intro i h; cases h; intro i h; cases h
  rw [e2, e3, e, Option.bind_some, if_pos c, Int.toNat_natCast, rep_flat]
theorem app_at {st : Store} {l : Nat} {ds : List D} {fo fe : Fe} {ρ : DEnv} {d : D} (ho : fo ρ st = .ok (.loc l) st) (h : st[l]? = some (.lst ds)) (he : fe ρ st = .ok d st) (hz : ds.length < 1000) : xApp fo fe ρ st = .ok .non (st.set l (.lst (ds ++ [d]))) := by
  rw [ev_xApp, ho, Res.bind_ok]
  simp only [h]
  rw [he, Res.bind_ok]
  simp only [h]
  rw [if_pos (Nat.lt_of_lt_of_le hz (small_len (Nat.le_refl _)))]
@[reducible] def tc0 : TabsCtx := ⟨[]⟩
end DL
namespace DL
open PySem PySem.Spec PyProof.Rows L2
variable [TabsCtx]
section
variable {X : Cx} {W : WX} {pos : Pos} {e : Expr} {f : Fe}
theorem get_list : PGet X (rIxL X.K) := by
  intro pins s σ H x y v u Q I rx ry h
  obtain ⟨p, xs, i, z, rfl, rfl, hq, he, q⟩ := h
  cases rx
  obtain ⟨t, rfl⟩ := ry
  obtain ⟨its, r, pl, hz⟩ := I.list hq
  obtain ⟨j, h1, h2, h3, h4, h5⟩ := atI_get he
  obtain ⟨w, ew, rw'⟩ := r.get h2
  have hl := r.length
  have hn := line63
  have fin : EP X pins σ Q w s := ⟨z, H, I, rw', q⟩
  by_cases h0 : 0 ≤ i
  · have hj : i.toNat = j := by
      rw [seqIndex_of h0 h5] at h1
      exact Option.some.inj h1
    exact wpAny_getItem_list pl.isList h0 (by omega) (by rw [hj]; simpa using ew) fin
  · have hj : (i + (its.toArray.size : Int)).toNat = j := by
      rw [seqIndex_neg (by omega) h4] at h1
      rw [List.size_toArray, ← hl]
      exact Option.some.inj h1
    exact wpAny_getItem_list_neg pl.isList (by omega) (by rw [List.size_toArray] <;> omega) (by omega) (by rw [hj]; simpa using ew) fin
/-- ints, in place -/
structure DIp (X : Cx) (op : Operator) (g : Int → Int → Int) : Prop where
  ip : PIp X op (ipI g)
theorem dip_add : DIp X .Add fun i j => i + j := ⟨ip_add⟩
theorem dip_sub : DIp X .Sub fun i j => i - j := ⟨ip_sub⟩
def sAug (i : Nat) (g : Int → Int → Int) (f : Fe) : Fs := fun ρ st => match ρ[i]? with
  | some (some (.int a)) => (f ρ st).thenS ρ fun d s1 => match d with
    | .int b => .nx (ρ.set i (some (.int (g a b)))) s1
    | _ => .fail
  | _ => .fail
theorem ds_aug {i : Nat} {x : Str} {op : Operator} {g : Int → Int → Int} {pos' : Pos} (hx : XOk X W) (o : DIp X op g) (he : DE X W e f) (hi : X.N[i]? = some x := by rfl) (hl : Loc X.env.scope x := by first | exact Or.inl rfl | exact Or.inr rfl)
    (hf : X.fn x = true ∨ X.env.scope.names.lookup x = some .local := by first | exact .inl rfl | exact .inr rfl) : DS X W (.AugAssign (.Name x pos') op e pos) (sAug i g f) := by
  obtain ⟨t, p, q⟩ := he
  refine ⟨_, ps_aug hx.nd hi hl p o.ip hf, fun B σ H ρ st m En re rs h => ?_⟩
  unfold sAug at h
  split at h
  · rename_i a ha
    obtain ⟨v, hv, rv⟩ := re.val i _ ha
    cases Rep.int_iff.mp rv
    refine ⟨.int a, hv, q B σ H ρ st m _ re rs (good_thenS re h fun d s1 u H1 m1 e1 r1 rs1 h1 => ?_)⟩
    cases d with
    | int b =>
      cases Rep.int_iff.mp r1
      exact ⟨a, b, rfl, rfl, h1 _ H1 m1 .refl ((re.evo e1).set i (Rep.int_iff.mpr rfl)) rs1⟩
    | _ => exact h1.elim
  · exact h.elim
def sAugS (g : Int → Int → Int) (fo fi fe : Fe) : Fs := fun ρ st => (fo ρ st).thenS ρ fun o s1 => (fi ρ s1).thenS ρ fun k s2 => match o, gIx s2 o k with
  | .loc l, some (.int a) => (fe ρ s2).thenS ρ fun d s3 => match d with
    | .int b => match putL s3 o k (.int (g a b)) with
      | some s4 => .nx ρ s4
      | none => .fail
    | _ => .fail
  | _, _ => .fail
theorem ds_augS {o i : Expr} {fo fi : Fe} {op : Operator} {g : Int → Int → Int} {tp : Pos} (og : DIp X op g) (ho : DE X W o fo) (hi : DE X W i fi) (he : DE X W e f)
    (ha : ∀ ov iv new, augStore i ov iv new = (do holding [new, ov, iv] (setItem ov iv new); release [new, ov, iv] []; pure .next) := by intros; rfl) : DS X W (.AugAssign (.Subscript o i tp) op e pos) (sAugS g fo fi f) := by
  obtain ⟨to, po, qo⟩ := ho
  obtain ⟨ti, pi, qi⟩ := hi
  obtain ⟨t, p, q⟩ := he
  refine ⟨_, ps_augS po pi get_list p og.ip set_list ha, fun B σ H ρ st m En re rs h => ?_⟩
  refine qo B σ H ρ st m _ re rs (good_thenS re h fun od s1 ov H1 m1 e1 r1 rs1 h1 => ?_)
  refine qi B σ H1 ρ s1 m1 _ (re.evo e1) rs1 (good_thenS (re.evo e1) h1 fun kd s2 kv H2 m2 e2 r2 rs2 h2 => ?_)
  split at h2
  · rename_i l a hg
    have kI : ∃ k : Int, kd = .int k := by
      cases kd with
      | int k => exact ⟨k, rfl⟩
      | _ => simp [gIx] at hg
    obtain ⟨k, rfl⟩ := kI
    cases Rep.int_iff.mp r2
    have r1' := Rep.evo e2 _ _ r1
    cases hq : s2[l]? with
    | none => simp [gIx, seqV, lstV, lstM, hq] at hg
    | some c =>
      cases c with
      | lst ds =>
        obtain ⟨b, vs, rfl, hm, hH, rl⟩ := loc_lst rs2 r1' hq
        have hg' : atI ds k = some (.int a) := by simpa [gIx, seqV, lstV, lstM, hq] using hg
        obtain ⟨w, h3, h4⟩ := atI_rep rl hg'
        cases Rep.int_iff.mp h4
        refine ⟨b, vs, k, .int a, rfl, rfl, .inl (Rd.of hH), h3, ?_⟩
        refine q B σ H2 ρ s2 m2 _ (re.evo (e1.trans e2)) rs2 (good_thenS (re.evo (e1.trans e2)) h2 fun d s3 v H3 m3 e3 r3 rs3 h3' => ?_)
        cases d with
        | int c =>
          cases Rep.int_iff.mp r3
          simp only at h3'
          refine ⟨a, c, rfl, rfl, ?_⟩
          cases hp : putL s3 (.loc l) (.int k) (.int (g a c)) with
          | none => rw [hp] at h3'; exact h3'.elim
          | some s4 =>
            rw [hp] at h3'
            simp only [putL] at hp
            cases hq3 : s3[l]? with
            | none => rw [hq3] at hp; cases hp
            | some c3 =>
              rw [hq3] at hp
              cases c3 with
              | lst ds3 =>
                obtain ⟨j, hj, rfl⟩ := Option.map_eq_some_iff.mp hp
                obtain ⟨b', vs3, hb', hm3, hH3, rl3⟩ := loc_lst rs3 (Rep.evo e3 _ _ r1') hq3
                cases hb'
                refine ⟨b, vs3, k, j, rfl, rfl, hH3, by rw [← rl3.length]; exact hj, ?_⟩
                have e4 : Evo H3 m3 (upd H3 b (.lst (vs3.set j (.int (g a c))))) m3 := .write hm3 (fun _ _ z => by rw [hH3] at z; cases z)
                refine h3' σ _ m3 e4 ((re.evo (e1.trans (e2.trans e3))).evo e4) (rs3.write hm3 (fun z => by rw [hH3] at z; cases z) (fun _ _ z => by rw [hH3] at z; cases z) ⟨_, upd_same, ?_⟩)
                exact RepL.evo e4 _ _ (rl3.set j (Rep.int_iff.mpr rfl))
              | dic _ => cases hp
              | dik _ => cases hp
              | ins _ _ => cases hp
        | _ => exact h3'.elim
      | dic _ => simp [gIx, seqV, lstV, lstM, hq] at hg
      | dik _ => simp [gIx, seqV, lstV, lstM, hq] at hg
      | ins _ _ => simp [gIx, seqV, lstV, lstM, hq] at hg
  · exact h2.elim
end
end DL
namespace DL
open PySem PySem.Spec PyProof.Rows L2
variable [TabsCtx]
section
variable {X : Cx} {W : WX} {tg : Expr} {pos : Pos}
def rngC (lo c : Int) (n : Nat) : List D := (List.range n).map fun i => D.int (lo + (i : Nat) * c)
theorem it_rngC {K : PySem.W.Frag} {B : List Addr} {H1 : Hp} {m1 : List Addr} {lo c : Int} {n : Nat} {s1 : Store} : ItRep K B (Itc lo c n) (rngC lo c n) [] s1 H1 m1 := by
  have hl : (rngC lo c n).length = n := by simp [rngC]
  refine ⟨fun B' i H m st hb hi e rs _ => by rw [hl] at hi; exact hi, fun B' H m st hb e rs _ => by rw [hl]; exact Nat.le_refl _, fun B' i d H m st x H' hb hi e rs _ y => ?_⟩
  obtain ⟨rfl, rfl⟩ := y
  have hi' : i < n := by
    have := (List.getElem?_eq_some_iff.mp hi).1
    rwa [hl] at this
  unfold rngC at hi
  rw [List.getElem?_map, List.getElem?_range hi'] at hi
  cases hi
  exact ⟨Grow.refl, Rep.int_iff.mpr rfl⟩
/-- range(i, j, -1) -/
def rng3 : List D → Option (List D × List Nat)
  | [.int i, .int j, .int c] => if c = -1 ∧ -(2 ^ 62) ≤ i ∧ i < 2 ^ 62 ∧ -(2 ^ 62) ≤ j ∧ j < 2 ^ 62 then some (rngC i (-1) (i - j).toNat, []) else none
  | _ => none
theorem rng3_inv {ds : List D} {p : List D × List Nat} (h : rng3 ds = some p) : ∃ i j : Int, ds = [.int i, .int j, .int (-1)] ∧ (-(2 ^ 62) ≤ i ∧ i < 2 ^ 62 ∧ -(2 ^ 62) ≤ j ∧ j < 2 ^ 62) ∧ p = (rngC i (-1) (i - j).toNat, []) := by
  unfold rng3 at h
  split at h
  · split at h
    · rename_i hc; obtain ⟨rfl, hc⟩ := hc; cases h; exact ⟨_, _, rfl, hc, rfl⟩
    · cases h
  · cases h
theorem di_rng3 {a b c : Expr} {fa : Fa} {p : Pos} (hm : X.mg "range" = none) (ha : DA X W [a, b, c] fa) (hg : Gl X "range" := by rfl) (hs : starEach [a, b, c] X.env = (false, eval a X.env) :: starEach [b, c] X.env := by rfl) (hpl : (backTo pos (starEach [b, c] X.env)).any (·.1) = false := by rfl) : DI X W tg (.Call (.Name "range" p) [a, b, c] [] pos) (iRng rng3 fa) := by
  obtain ⟨⟨t, p, q⟩, _⟩ := ha
  refine ⟨_, pi_range3 hg hm p hs hpl, fun B σ H ρ st m R re rs h => ?_⟩
  refine q B σ H ρ st m _ re rs (good_bindI h fun ds s1 vs H1 m1 e1 r1 rs1 h1 => ?_)
  cases hd : rng3 ds with
  | none => rw [hd] at h1; exact h1.elim
  | some p =>
    rw [hd] at h1
    obtain ⟨i, j, rfl, ⟨c1, c2, c3, c4⟩, rfl⟩ := rng3_inv hd
    obtain ⟨v, r, rfl, ra, r1⟩ := r1.inv_cons
    obtain ⟨w, r, rfl, rb, r1⟩ := r1.inv_cons
    obtain ⟨z, r, rfl, rc, r1⟩ := r1.inv_cons
    cases r1.inv_nil
    cases Rep.int_iff.mp ra
    cases Rep.int_iff.mp rb
    cases Rep.int_iff.mp rc
    exact ⟨i, j, -1, (i - j).toNat, rfl, RgC.neg c1 c2 c3 c4, h1 _ H1 m1 .refl rs1 it_rngC⟩
theorem cr_divmod : CallR X (.builtin "divmod") (fun xs H Q => ∃ i j, xs = [.int i, .int j] ∧ (j ≠ 0 ∧ Builtin.divisionGoesByPylong i j = false) ∧ ∀ p, H p = none → Q (.ref p) (upd H p (.tup [.int (i.fdiv j), .int (i.fmod j)]))) := by
  intro pins s σ H xs us Q I r h
  obtain ⟨i, j, rfl, ⟨h1, h2⟩, q⟩ := h
  obtain ⟨u, w', rfl, ⟨t, rfl⟩, ⟨t', rfl⟩⟩ := vals2 r
  refine divmod_int h1 ?_ (.inl h2)
  have hn : H s.heap.objs.size = none := I.hok.fresh (Nat.le_refl _)
  refine ⟨.ref s.heap.objs.size, _, ?_, rfl, q _ hn⟩
  refine I.laid (fun b o e => Heap.get?_push_of_some _ e) (Nat.le_refl _) ⟨by simp only [List.length_cons, List.length_nil]; rw [sizeLine_eq]; decide, [.int (i.fdiv j) s.toks, .int (i.fmod j) (s.toks + 1)], .cons ⟨_, rfl⟩ (.cons ⟨_, rfl⟩ .nil), ?_⟩
  exact ⟨_, Heap.get?_push_size s.heap rfl, rfl, 0, rfl⟩
def gDivmod : GL := fun st ds => match ds with
  | [.int i, .int j] => if j ≠ 0 ∧ Builtin.divisionGoesByPylong i j = false then some (.tup [.int (i.fdiv j), .int (i.fmod j)]) else none
  | _ => none
theorem dc_divmod : DCall X (.builtin "divmod") gDivmod := ⟨_, cr_divmod, fun B xs H m st ds d Q rs r h q => by
  unfold gDivmod at h
  split at h
  · split at h
    · rename_i i j hc
      cases h
      obtain ⟨v, w, rfl, r1, r2⟩ := two_inv r
      cases Rep.int_iff.mp r1
      cases Rep.int_iff.mp r2
      exact ⟨i, j, rfl, hc, fun p hp => q _ _ (Grow.upd hp) (Rep.newT rs hp (.cons (Rep.int_iff.mpr rfl) (.cons (Rep.int_iff.mpr rfl) .nil)))⟩
    · cases h
  · cases h⟩
def tV : V → Option Bool
  | .bl b => some b
  | .int i => some (i != 0)
  | _ => none
def tVs : List V → Option (List Bool)
  | [] => some []
  | v :: vs => (tV v).bind fun b => (tVs vs).map (b :: ·)
theorem tVs_get : ∀ {vs : List V} {bs : List Bool} {i : Nat} {v : V}, tVs vs = some bs → vs[i]? = some v → tV v = some (bs.getD i false)
  | [], _, _, _, _, h => by simp at h
  | w :: vs, bs, i, v, h, hv => by
    unfold tVs at h
    obtain ⟨b, h1, h2⟩ := Option.bind_eq_some_iff.mp h
    obtain ⟨cs, h3, rfl⟩ := Option.map_eq_some_iff.mp h2
    cases i with
    | zero => simp at hv; subst hv; simpa using h1
    | succ i => simpa using tVs_get h3 (by simpa using hv)
theorem tVs_length : ∀ {vs : List V} {bs : List Bool}, tVs vs = some bs → bs.length = vs.length
  | [], _, h => by cases h; rfl
  | w :: vs, bs, h => by
    unfold tVs at h
    obtain ⟨b, h1, h2⟩ := Option.bind_eq_some_iff.mp h
    obtain ⟨cs, h3, rfl⟩ := Option.map_eq_some_iff.mp h2
    simp [tVs_length h3]
theorem vals_getV : ∀ {xs : List V} {us : List Value} {i : Nat} {u : Value}, Vals xs us → us[i]? = some u → ∃ x, xs[i]? = some x ∧ RelV x u
  | [], us, i, u, r, h => by cases r; simp at h
  | x :: xs, us, i, u, r, h => by
    cases r with
    | cons r t =>
      cases i with
      | zero => simp at h; subst h; exact ⟨x, rfl, r⟩
      | succ i => simpa using vals_getV t (by simpa using h)
theorem truth_mix {prog : Program} {w : World} {A : Around} {vs : List V} {bs : List Bool} {its : List Value} (r : Vals vs its) (e : tVs vs = some bs) :
    TruthOf prog w A (fun i v => its.toArray[i]? = some v) (fun i => bs.getD i false) := fun i v s Q E hv hq => by
  have hv' : its[i]? = some v := by simpa using hv
  obtain ⟨x, hx, rx⟩ := vals_getV r hv'
  have ht := tVs_get e hx
  have hq' : Q (bs.getD i false) s := hq
  cases x with
  | bl b =>
    cases rx
    simp only [tV, Option.some.injEq] at ht
    exact wpAny_truthy_bool (by rw [ht]; exact hq')
  | int k =>
    obtain ⟨t, rfl⟩ := rx
    simp only [tV, Option.some.injEq] at ht
    exact PySem.P.truthy_int (by rw [ht]; exact hq')
  | _ => cases ht
theorem cr_anyM (hc : X.calm = true) : CallR X (.builtin "any") (fun xs H Q => ∃ (a : Addr) (vs : List V) (bs : List Bool), xs = [V.ref a] ∧ SqL X.K H a vs ∧ tVs vs = some bs ∧ Q (.bl (bs.any id)) H) := by
  intro pins s σ H vs us Q I r h
  obtain ⟨a, xs, bs, rfl, hs, hb, q⟩ := h
  obtain ⟨its, rv, hl, _⟩ := I.list hs
  rw [Vals.ref1 r]
  have hlen := rv.length
  have hbl := tVs_length hb
  refine call_any_walk (iter_any hl.isList fun s₂ e2 st hne => ?_)
  subst e2
  refine ⟨_, _, _, _, _, _, _, rfl, Walks.list (A := X.A.in1) (I.ok.hd hc) _ a hne its.toArray, st, truth_mix rv hb, fun h' tk hk => ?_⟩
  refine ⟨.bl _, H, I.kept fun b o eo => hk b o (fun hmem => ?_) (Heap.get?_push_of_some _ eo), ?_, q⟩
  · rcases List.mem_cons.mp hmem with e1 | hmem
    · exact absurd (e1 ▸ Heap.lt_size eo) (Nat.lt_irrefl _)
    · cases hmem
  · show Value.bool _ = Value.bool _
    rw [← L2.any_range, List.size_toArray, ← hlen, hbl]
def tD : D → Option Bool
  | .bl b => some b
  | .int i => some (i != 0)
  | _ => none
def tDs : List D → Option (List Bool)
  | [] => some []
  | d :: ds => (tD d).bind fun b => (tDs ds).map (b :: ·)
theorem tDs_rep {K : KB} {H : Hp} {m : List Addr} : ∀ {ds : List D} {vs : List V} {bs : List Bool}, RepL K H m ds vs → tDs ds = some bs → tVs vs = some bs
  | [], _, _, r, h => by cases r.inv_nil; exact h
  | d :: ds, _, bs, r, h => by
    obtain ⟨v, vr, rfl, r1, r2⟩ := r.inv_cons
    unfold tDs at h
    obtain ⟨b, h1, h2⟩ := Option.bind_eq_some_iff.mp h
    obtain ⟨cs, h3, rfl⟩ := Option.map_eq_some_iff.mp h2
    unfold tVs
    rw [tDs_rep r2 h3]
    have : tV v = some b := by
      cases d with
      | bl c => cases Rep.bl_iff.mp r1; exact h1
      | int c => cases Rep.int_iff.mp r1; exact h1
      | _ => cases h1
    rw [this]; rfl
def gAnyM : GL := fun st ds => match ds with
  | [d] => (lstV st d).bind fun xs => (tDs xs).map fun bs => .bl (bs.any id)
  | _ => none
theorem dc_anyM (hc : X.calm = true) : DCall X (.builtin "any") gAnyM := ⟨_, cr_anyM hc, fun B xs H m st ds d Q rs r h q => by
  unfold gAnyM at h
  split at h
  · obtain ⟨v, rfl, r1⟩ := one_inv r
    obtain ⟨ys, h1, h⟩ := Option.bind_eq_some_iff.mp h
    obtain ⟨bs, h2, rfl⟩ := Option.map_eq_some_iff.mp h
    obtain ⟨a, vs, rfl, hs, rl⟩ := lstV_rep rs r1 h1
    exact ⟨a, vs, bs, rfl, hs, tDs_rep rl h2, q _ H Grow.refl (Rep.bl_iff.mpr rfl)⟩
  · cases h⟩
end
end DL
namespace DL
open PySem PySem.Spec PyProof.Rows L2
variable [TabsCtx]
section
variable {X : Cx} {W : WX} {pos : Pos}
def gTL (n : Nat) (gs : Fgs) : Fg := fun d ρ => match d with
  | .lst ds => if ds.length = n then gs ds ρ else none
  | _ => none
theorem dg_lst {es : List Expr} {k n : Nat} {is : List Nat} {gs : Fgs} (hc : X.calm = true) (h : DGs X es is gs) (hn : (assignEach es X.env).length = n := by rfl) (hst : (assignEach es X.env).findIdx? (·.1) = none := by rfl) : DG X (.Tuple es k pos) is (gTL n gs) := by
  obtain ⟨t, p, q⟩ := h
  refine ⟨_, pg_unl hc p hn hst, fun B v σ H ρ ρ' m d Q re r h k => ?_⟩
  cases d with
  | lst ds =>
    simp only [gTL] at h
    split at h
    · rename_i hl
      obtain ⟨a, vs, rfl, ⟨h1, _, _⟩, r2⟩ := Rep.lst_iff.mp r
      exact ⟨a, vs, rfl, .inl (Rd.of h1), by rw [← r2.length]; exact hl, q B vs σ H ρ ρ' m ds _ re r2 h k⟩
    · cases h
  | _ => cases h
@[simp] theorem ev_gTL (n : Nat) (gs : Fgs) (ds : List D) (ρ : DEnv) : gTL n gs (.lst ds) ρ = if ds.length = n then gs ds ρ else none := id rfl
def gListL (st : Store) (ds : List D) : Option (List D) := match ds with
  | [d] => seqV st d
  | _ => none
theorem dl_list : DCallL X (.type "list") gListL := ⟨_, call_list_of, fun B xs H m st ds es Q rs r h q => by
  unfold gListL at h
  split at h
  · obtain ⟨v, rfl, r1⟩ := one_inv r
    obtain ⟨a, vs, rfl, hs, rl⟩ := seqV_rep rs r1 h
    exact ⟨a, vs, rfl, hs, fun l hl => q _ _ hl rl⟩
  · cases h⟩
end
end DL
namespace DL
open PySem PySem.Spec PyProof.Rows L2
variable [TabsCtx]
theorem dc_get {st : Store} {l : Nat} (S : Dst st l) (d : Cell) : (st.set l d)[l]? = some d := by simp [S.lt]
theorem dc_ix {st : Store} {l : Nat} (S : Dst st l) (d : Tri) (i : Nat) (x : D) (h : ([D.int d.1, .int d.2.1, .int d.2.2])[i]? = some x) : gIx (st.set l (Dc d)) (.loc l) (.int (i : Nat)) = some x := gIx_loc (dc_get S _) h
theorem dc_put {st : Store} {l : Nat} (S : Dst st l) (d d' : Tri) (i : Nat) (x : D) (h : ([D.int d.1, .int d.2.1, .int d.2.2]).set i x = [.int d'.1, .int d'.2.1, .int d'.2.2]) (hi : i < 3) : putL (st.set l (Dc d)) (.loc l) (.int (i : Nat)) x = some (st.set l (Dc d')) := by
  unfold putL
  simp only [dc_get S, Dc]
  have e : ixN ([D.int d.1, .int d.2.1, .int d.2.2]).length (i : Nat) = some i := by
    unfold ixN
    rw [if_pos (by omega), if_pos (by simp; omega)]
    simp
  rw [e, Option.map_some, h, List.set_set]
theorem roll_u {n : Nat} {t : Tri} {k : Int} (G : Gd n t) (hn : n < 2 ^ 60) (hk : 0 < k) (hk2 : k < 2 ^ 60) :
    ∃ v t', 0 ≤ v ∧ v < k ∧ Gd (n + 1) t' ∧ ∀ {st : Store} {l : Nat}, Dst st l → F_roll [.loc l, .int k] (st.set l (Dc t)) = .ok (.int v) (st.set l (Dc t')) := by
  obtain ⟨g, s, c⟩ := t
  have hg0 : (0 : Int) ≤ g := G.g0
  have hs0 : (0 : Int) ≤ s := G.s0
  have hc0 : (0 : Int) ≤ c := G.c0
  have hc1 : c ≤ n := G.c1
  have hs1 : s < 2 ^ 200 := G.s1
  have hk9 : k.natAbs.log2 < 9000 := log_lt (Nat.lt_trans (nat_lt (by omega) hk2) (by decide)) (by decide)
  have e0 : List.replicate (5 - (0 + 1 + 1)) (none : Option D) = [none, none, none] := rfl
  by_cases hg : g > 0
  · refine ⟨g.fmod k, (g.fdiv k, s, c), (fmod_pos hk).1, (fmod_pos hk).2, ?_, fun {st l} S => runP_below (s2 := []) ?_ (by simp) (by rw [List.length_set]; exact S.be _ _) (by simp)⟩
    · obtain ⟨f0, f1⟩ := fdiv_bd hg0 hk
      exact ⟨f0, Int.lt_of_le_of_lt f1 G.g1, G.s0, G.s1, G.c0, by show c ≤ ((n + 1 : Nat) : Int); omega⟩
    · have x0 : gIx (st.set l (Dc (g, s, c))) (.loc l) (.int 0) = some (.int g) := dc_ix S (g, s, c) 0 _ rfl
      have p1 : putL (st.set l (Dc (g, s, c))) (.loc l) (.int 0) (.int (g.fdiv k)) = some (st.set l (Dc (g.fdiv k, s, c))) := dc_put S (g, s, c) (g.fdiv k, s, c) 0 _ rfl (by decide)
      have m1 : gMod (st.set l (Dc (g, s, c))) (.int g) (.int k) = some (.int (g.fmod k)) := gMod_int (by omega)
      have m2 : gFdiv (st.set l (Dc (g, s, c))) (.int g) (.int k) = some (.int (g.fdiv k)) := gFdiv_int (by omega) hk9
      have dg : decide (g > 0) = true := decide_eq_true hg
      simp only [b_roll, DL.start]
      simp only [List.map_cons, List.map_nil, List.length_cons, List.length_nil, e0]
      simp only [List.cons_append, List.nil_append, ev_sSeq, ev_sIf, ev_tVal, ev_xOp, ev_xVar, List.getElem?_cons_zero, List.getElem?_cons_succ, Res.bind_ok, ev_xC, x0, lift_some, gGt_int, dg, ev_tB, liftB_some, Res.thenS_ok, if_true, ev_sSet, m1, List.set_cons_zero, List.set_cons_succ, seq_nx, ev_sPut, m2, p1, ev_sRet, ev_xCall, ev_aCons, ev_aNil, gInt_int, seq_ret, ofS_ret, List.append_nil]
  · have dg : decide (g > 0) = false := decide_eq_false hg
    have hcb : (c + 1).natAbs < 2 ^ 61 := by
      have : (2 : Int) ^ 60 = 1152921504606846976 := by decide
      have : (2 : Nat) ^ 60 = 1152921504606846976 := by decide
      have : (2 : Nat) ^ 61 = 2305843009213693952 := by decide
      omega
    have a1 : ∀ st, gMulT st (.int 49979687) (.int (c + 1)) = some (.int (49979687 * (c + 1))) := fun st => gMul_int (mul_room (m := 64) (by decide) hcb (by decide) (by decide) (by decide))
    have a2 : ∀ st, gMod st (.int (s + 49979687 * (c + 1))) (.int 2305843009213693951) = some (.int ((s + 49979687 * (c + 1)).fmod 2305843009213693951)) := fun st => gMod_int (by decide)
    generalize hone : (s + 49979687 * (c + 1)).fmod 2305843009213693951 = one at a2
    have ho := fmod_pos (a := s + 49979687 * (c + 1)) (k := 2305843009213693951) (by decide)
    rw [hone] at ho
    have hob : one.natAbs < 2 ^ 61 := by
      have : (2 : Nat) ^ 61 = 2305843009213693952 := by decide
      omega
    have a3 : ∀ st, gMulT st (.int one) (.int one) = some (.int (one * one)) := fun st => gMul_int (mul_room hob hob (by decide) (by decide) (by decide))
    have a4 : ∀ st, gMulT st (.int 131) (.int (c + 1)) = some (.int (131 * (c + 1))) := fun st => gMul_int (mul_room (m := 64) (by decide) hcb (by decide) (by decide) (by decide))
    have a5 : ∀ st, gMod st (.int (one * one + 131 * (c + 1))) (.int 2305843009213693921) = some (.int ((one * one + 131 * (c + 1)).fmod 2305843009213693921)) := fun st => gMod_int (by decide)
    generalize htwo : (one * one + 131 * (c + 1)).fmod 2305843009213693921 = two at a5
    have ht := fmod_pos (a := one * one + 131 * (c + 1)) (k := 2305843009213693921) (by decide)
    rw [htwo] at ht
    have htb : two.natAbs < 2 ^ 61 := by
      have : (2 : Nat) ^ 61 = 2305843009213693952 := by decide
      omega
    have a6 : ∀ st, gMulT st (.int two) (.int 32452843) = some (.int (two * 32452843)) := fun st => gMul_int (mul_room (n := 64) htb (by decide) (by decide) (by decide) (by decide))
    have a7 : ∀ st, gFdiv st (.int (two * 32452843 + one)) (.int 65587) = some (.int ((two * 32452843 + one).fdiv 65587)) := fun st => gFdiv_int (by decide) (by decide)
    have a8 : ∀ st, gMod st (.int ((two * 32452843 + one).fdiv 65587)) (.int k) = some (.int (((two * 32452843 + one).fdiv 65587).fmod k)) := fun st => gMod_int (by omega)
    refine ⟨((two * 32452843 + one).fdiv 65587).fmod k, (g, s, c + 1), (fmod_pos hk).1, (fmod_pos hk).2, ⟨G.g0, G.g1, G.s0, G.s1, by show 0 ≤ c + 1; omega, by show c + 1 ≤ ((n + 1 : Nat) : Int); omega⟩, fun {st l} S => runP_below (s2 := []) ?_ (by simp) (by rw [List.length_set]; exact S.be _ _) (by simp)⟩
    have x0 : gIx (st.set l (Dc (g, s, c))) (.loc l) (.int 0) = some (.int g) := dc_ix S (g, s, c) 0 _ rfl
    have x2 : gIx (st.set l (Dc (g, s, c))) (.loc l) (.int 2) = some (.int c) := dc_ix S (g, s, c) 2 _ rfl
    have x1 : gIx (st.set l (Dc (g, s, c + 1))) (.loc l) (.int 1) = some (.int s) := dc_ix S (g, s, c + 1) 1 _ rfl
    have x2' : gIx (st.set l (Dc (g, s, c + 1))) (.loc l) (.int 2) = some (.int (c + 1)) := dc_ix S (g, s, c + 1) 2 _ rfl
    have p1 : putL (st.set l (Dc (g, s, c))) (.loc l) (.int 2) (.int (c + 1)) = some (st.set l (Dc (g, s, c + 1))) := dc_put S (g, s, c) (g, s, c + 1) 2 _ rfl (by decide)
    simp only [b_roll, DL.start]
    simp only [List.map_cons, List.map_nil, List.length_cons, List.length_nil, e0]
    simp only [List.cons_append, List.nil_append, ev_sSeq, ev_sIf, ev_tVal, ev_xOp, ev_xVar, List.getElem?_cons_zero, List.getElem?_cons_succ, Res.bind_ok, ev_xC, x0, lift_some, gGt_int, dg, ev_tB, liftB_some, Res.thenS_ok, Bool.false_eq_true, if_false, ev_sPass, seq_nx, ev_sPut, x2, gAdd_int, p1, ev_sSet, x1, x2', a1, a2, List.set_cons_zero, List.set_cons_succ, a3, a4, a5, a6, a7, a8,
      ev_sRet, ev_xCall, ev_aCons, ev_aNil, gInt_int, ofS_ret, List.append_nil]
theorem pick_u {n : Nat} {t : Tri} {items : List D} (G : Gd n t) (hn : n < 2 ^ 60) (h0 : 0 < items.length) (h1 : items.length < 1000) (hu : ∀ m, items.all (D.und m) = true) :
    ∃ x ∈ items, ∃ t', Gd (n + 1) t' ∧ ∀ {st : Store} {l : Nat}, Dst st l → F_pick [.loc l, .lst items] (st.set l (Dc t)) = .ok x (st.set l (Dc t')) := by
  obtain ⟨v, t', v0, v1, G', e⟩ := roll_u (k := (items.length : Nat)) G hn (by omega) (by
    have : (2 : Int) ^ 60 = 1152921504606846976 := by decide
    omega)
  have hv : v.toNat < items.length := by omega
  have hx : items[v.toNat]? = some items[v.toNat] := List.getElem?_eq_getElem hv
  refine ⟨items[v.toNat], List.getElem_mem hv, t', G', fun {st l} S => runP_below (s2 := []) ?_ (by simp) (by rw [List.length_set]; exact S.be _ _) (by rw [List.length_set]; exact List.all_eq_true.mp (hu _) _ (List.getElem_mem hv))⟩
  have ix : gIx (st.set l (Dc t')) (.lst items) (.int v) = some items[v.toNat] := by
    have := gIx_lst (st := st.set l (Dc t')) items hx
    rwa [Int.toNat_of_nonneg v0] at this
  have e0 : List.replicate (2 - (0 + 1 + 1)) (none : Option D) = [] := rfl
  have e := e S
  simp only [b_pick, DL.start]
  simp only [List.map_cons, List.map_nil, List.length_cons, List.length_nil, e0]
  simp only [List.append_nil, ev_sRet, ev_xOp, ev_xVar, List.getElem?_cons_zero, List.getElem?_cons_succ, Res.bind_ok, ev_xApply, ev_aCons, ev_xCall, ev_aNil, gLen_lst, lift_some, e, ix, Res.thenS_ok, ofS_ret]
theorem one_u {n : Nat} {t : Tri} {right : D} {wrong : List D} (G : Gd n t) (hn : n + 1 < 2 ^ 60) (h0 : 0 < wrong.length) (h1 : wrong.length < 1000) (hu : ∀ m, ((opts right wrong).all fun p => D.und m p.1) = true) :
    ∃ p ∈ opts right wrong, ∃ t', Gd (n + 2) t' ∧ ∀ {st : Store} {l : Nat}, Dst st l → F_one [.loc l, right, .lst wrong] (st.set l (Dc t)) = .ok (.tup [p.1, .bl p.2]) (st.set l (Dc t')) := by
  obtain ⟨v, t1, v0, v1, G1, e1⟩ := roll_u (k := 3) G (by omega) (by decide) (by decide)
  have e0 : List.replicate (3 - (0 + 1 + 1 + 1)) (none : Option D) = [] := rfl
  have hr : ∀ m, D.und m right = true := fun m => List.all_eq_true.mp (hu m) (right, false) (by simp [opts])
  have hw : ∀ m, wrong.all (D.und m) = true := fun m => List.all_eq_true.mpr fun x hx => List.all_eq_true.mp (hu m) (x, true) (by simp [opts, hx])
  have und2 : ∀ (x : D) (b : Bool) (m : Nat), D.und m x = true → D.und m (.tup [x, .bl b]) = true := fun x b m h => by
    rw [und_tup]
    exact undL_all.mpr fun d hd => by
      simp only [List.mem_cons, List.not_mem_nil, or_false] at hd
      rcases hd with rfl | rfl
      · exact h
      · rfl
  by_cases hv : v > 0
  · refine ⟨(right, false), by simp [opts], t1, G1.mono (by omega), fun {st l} S => runP_below (s2 := []) ?_ (by simp) (by rw [List.length_set]; exact S.be _ _) (und2 _ _ _ (hr _))⟩
    have dg : decide (v > 0) = true := decide_eq_true hv
    have e1 := e1 S
    simp only [b_one, DL.start, List.map_cons, List.map_nil, List.length_cons, List.length_nil, e0]
    simp only [List.append_nil, ev_sSeq, ev_sIf, ev_tVal, ev_xOp, ev_xApply, ev_aCons, ev_aNil, ev_xVar, List.getElem?_cons_zero, List.getElem?_cons_succ, Res.bind_ok, ev_xC, e1, gGt_int, dg, lift_some, ev_tB, liftB_some, Res.thenS_ok, if_true, ev_sRet, ev_xTup, seq_ret, ofS_ret]
  · obtain ⟨x, hx, t2, G2, e2⟩ := pick_u (items := wrong) G1 (by omega) h0 h1 hw
    refine ⟨(x, true), by simp [opts, hx], t2, G2, fun {st l} S => runP_below (s2 := []) ?_ (by simp) (by rw [List.length_set]; exact S.be _ _) (und2 _ _ _ (List.all_eq_true.mp (hw _) _ hx))⟩
    have dg : decide (v > 0) = false := decide_eq_false hv
    have e1 := e1 S
    have e2 := e2 S
    simp only [b_one, DL.start, List.map_cons, List.map_nil, List.length_cons, List.length_nil, e0]
    simp only [List.append_nil, ev_sSeq, ev_sIf, ev_tVal, ev_xOp, ev_xApply, ev_aCons, ev_aNil, ev_xVar, List.getElem?_cons_zero, List.getElem?_cons_succ, Res.bind_ok, ev_xC, e1, gGt_int, dg, lift_some, ev_tB, liftB_some, Bool.false_eq_true, if_false, ev_sPass, seq_nx, Res.thenS_ok, e2, ev_sRet, ev_xTup, ofS_ret]
end DL
namespace DL
open PySem PySem.Spec PyProof.Rows L2
variable [TabsCtx]
def strC (cs : List (List Str)) : Store := cs.map fun x => Cell.lst (x.map D.str)
def SC (st : Store) (l : Nat) (t : Tri) (cs : List (List Str)) : Store := st.set l (Dc t) ++ strC cs
theorem undL_strs (n : Nat) : ∀ xs : List Str, D.undL n (xs.map D.str) = true
  | [] => rfl
  | x :: xs => by
    show (D.und n (.str x) && D.undL n (xs.map D.str)) = true
    rw [undL_strs n xs]; rfl
theorem below_app (m : Nat) : ∀ a b : Store, Store.below m (a ++ b) = (Store.below m a && Store.below m b)
  | [], b => by simp [Store.below]
  | c :: a, b => by
    show (Cell.below m c && Store.below m (a ++ b)) = ((Cell.below m c && Store.below m a) && Store.below m b)
    rw [below_app m a b, Bool.and_assoc]
theorem below_strC (m : Nat) : ∀ cs : List (List Str), Store.below m (strC cs) = true
  | [] => rfl
  | x :: cs => by
    show (D.undL m (x.map D.str) && Store.below m (strC cs)) = true
    rw [below_strC m cs, undL_strs]; rfl
section
variable {st : Store} {l : Nat} {t t' : Tri}
theorem SC_nil : SC st l t [] = st.set l (Dc t) := by simp [SC, strC]
theorem SC_eq (S : Dst st l) (cs : List (List Str)) (t : Tri) : (st ++ strC cs).set l (Dc t) = SC st l t cs := by
  unfold SC
  rw [List.set_append_left _ _ S.lt]
theorem SC_dst (S : Dst st l) (cs : List (List Str)) : Dst (st ++ strC cs) l := ⟨by have := S.lt; simp; omega, fun t m => by
  rw [SC_eq S]
  unfold SC
  rw [below_app, S.be, below_strC]; rfl⟩
theorem SC_dice (S : Dst st l) {F : Fd} {ds : List D} {v : D} (e : ∀ {st : Store} {l : Nat}, Dst st l → F (.loc l :: ds) (st.set l (Dc t)) = .ok v (st.set l (Dc t'))) (cs : List (List Str)) : F (.loc l :: ds) (SC st l t cs) = .ok v (SC st l t' cs) := by
  have h := e (SC_dst S cs)
  rwa [SC_eq S, SC_eq S] at h
theorem SC_len (cs : List (List Str)) : (SC st l t cs).length = st.length + cs.length := by simp [SC, strC]
theorem SC_len0 : (SC st l t []).length = st.length := by simp [SC, strC]
theorem SC_len1 {a} : (SC st l t [a]).length = st.length + 1 := by simp [SC, strC]
theorem SC_len2 {a b} : (SC st l t [a, b]).length = st.length + 2 := by simp [SC, strC]
theorem SC_len3 {a b c} : (SC st l t [a, b, c]).length = st.length + 3 := by simp [SC, strC]
theorem SC_get {cs : List (List Str)} {j : Nat} {x : List Str} (h : cs[j]? = some x) : (SC st l t cs)[st.length + j]? = some (.lst (x.map D.str)) := by
  unfold SC
  rw [List.getElem?_append_right (by simp)]
  simp [strC, h]
theorem SC_get0 {x : List Str} {cs : List (List Str)} : (SC st l t (x :: cs))[st.length]? = some (.lst (x.map D.str)) := SC_get (j := 0) rfl
theorem SC_get1 {a x : List Str} {cs : List (List Str)} : (SC st l t (a :: x :: cs))[st.length + 1]? = some (.lst (x.map D.str)) := SC_get (j := 1) rfl
theorem SC_get2 {a b x : List Str} {cs : List (List Str)} : (SC st l t (a :: b :: x :: cs))[st.length + 2]? = some (.lst (x.map D.str)) := SC_get (j := 2) rfl
theorem SC_get3 {a b c x : List Str} {cs : List (List Str)} : (SC st l t (a :: b :: c :: x :: cs))[st.length + 3]? = some (.lst (x.map D.str)) := SC_get (j := 3) rfl
theorem SC_set {cs : List (List Str)} {j : Nat} {x : List Str} {y : Str} : (SC st l t cs).set (st.length + j) (.lst (x.map D.str ++ [.str y])) = SC st l t (cs.set j (x ++ [y])) := by
  unfold SC
  rw [List.set_append_right _ _ (by simp)]
  simp [strC, List.map_set]
theorem SC_set0 {x : List Str} {y : Str} {cs : List (List Str)} : (SC st l t (x :: cs)).set st.length (.lst (x.map D.str ++ [.str y])) = SC st l t ((x ++ [y]) :: cs) := SC_set (j := 0)
theorem SC_set1 {a x : List Str} {y : Str} {cs : List (List Str)} : (SC st l t (a :: x :: cs)).set (st.length + 1) (.lst (x.map D.str ++ [.str y])) = SC st l t (a :: (x ++ [y]) :: cs) := SC_set (j := 1)
theorem SC_set2 {a b x : List Str} {y : Str} {cs : List (List Str)} : (SC st l t (a :: b :: x :: cs)).set (st.length + 2) (.lst (x.map D.str ++ [.str y])) = SC st l t (a :: b :: (x ++ [y]) :: cs) := SC_set (j := 2)
theorem SC_set3 {a b c x : List Str} {y : Str} {cs : List (List Str)} : (SC st l t (a :: b :: c :: x :: cs)).set (st.length + 3) (.lst (x.map D.str ++ [.str y])) = SC st l t (a :: b :: c :: (x ++ [y]) :: cs) := SC_set (j := 3)
theorem SC_new0 {cs : List (List Str)} : SC st l t cs ++ [.lst []] = SC st l t (cs ++ [[]]) := by simp [SC, strC]
theorem SC_new1 {cs : List (List Str)} {x : Str} : SC st l t cs ++ [.lst [.str x]] = SC st l t (cs ++ [[x]]) := by simp [SC, strC]
theorem SC_newS {cs : List (List Str)} {xs : List Str} : SC st l t cs ++ [.lst (xs.map D.str)] = SC st l t (cs ++ [xs]) := by simp [SC, strC]
theorem app_lt {x : List Str} (h : x.length < 1000) : ((x.map D.str).length < sizeLine) = True := by
  rw [List.length_map]
  exact eq_true (Nat.lt_of_lt_of_le h (small_len (Nat.le_refl _)))
theorem gAddL_two {s : Store} {k : Nat} {xs : List Str} {a b : Str} (h : s[k]? = some (.lst (xs.map D.str))) (hz : xs.length ≤ 900) : gAddL s (.loc k) (.lst [.str a, .str b]) = some ((xs ++ [a, b]).map D.str) := by
  unfold gAddL
  have e : lstM s (.loc k) = some (xs.map D.str) := by unfold lstM; simp [h]
  have e2 : lstM s (.lst [.str a, .str b]) = some [.str a, .str b] := id rfl
  rw [e, Option.bind_some, e2, Option.bind_some, if_pos (by
    have : (xs.map D.str).length + [D.str a, D.str b].length ≤ 1000 := by simp; omega
    exact small_len this)]
  simp
theorem gAddL_SC1 {a x : List Str} {cs : List (List Str)} {p q : Str} (hz : x.length ≤ 900) : gAddL (SC st l t (a :: x :: cs)) (.loc (st.length + 1)) (.lst [.str p, .str q]) = some ((x ++ [p, q]).map D.str) := gAddL_two SC_get1 hz
theorem gMul_str2 {s : Store} (x : Str) : gMulT s (.lst [.str x]) (.int 2) = some (.lst [.str x, .str x]) := gMul_lst1 (n := 2) (.str x) (by decide)
theorem gEq_locs {s : Store} {i j : Nat} {xs : List Str} (ok : ∀ x ∈ xs, PyData.strOk x = true) (h1 : s[i]? = some (.lst (xs.map D.str))) (h2 : s[j]? = some (.lst (xs.map D.str))) : gEq s (.loc i) (.loc j) = some (.bl true) := by
  show ((pyOf s (.loc i)).bind fun p => (pyOf s (.loc j)).map fun q => D.bl (PyData.eqv p q)) = _
  rw [pyOf_locS ok h1, pyOf_locS ok h2]
  simp [PyData.eqv, eqv_strs]
end
/-- what a met call's end is told as, at any store -/
def metR (known : List Str) (isA : Str → Str → Bool) (cl : MCs) (fin : Str) (r : Res D) : Res D := match r with
  | .ok _ s => .ok (.str fin) s
  | .exc (.str c _) fs s => if known.contains c = true then metH isA cl c fs s else .fail
  | _ => .fail
theorem ev_met (known : List Str) (isA : Str → Str → Bool) (cl : MCs) (fin : Str) (fe : Fe) (ρ : DEnv) (s : Store) : xMet known isA cl fin fe ρ s = metR known isA cl fin (fe ρ s) := id rfl
theorem metR_tell {known : List Str} {isA : Str → Str → Bool} {cl : MCs} {fin t : Str} {N : Nat} {b : Fs} {ds : List D} (h : tell known isA cl fin (runZ N b ds []) = some t) (s : Store) : metR known isA cl fin (runZ N b ds s) = .ok (.str t) s :=
  runZ_tell h s (fe := fun _ s => runZ N b ds s) (ρ := []) rfl
theorem ev_iOf' (fe : Fe) (ρ : DEnv) (s : Store) (d : D) (s' : Store) (ds : List D) (h : fe ρ s = .ok (.tup ds) s') : iOf fe ρ s = .ok (ds, []) s' := by
  rw [ev_iOf, h, Res.bind_ok, sq_tup, liftI_some]
theorem forD_nil' (g : Fg) (b : Fs) (ws : List Nat) (s0 : Store) (ρ : DEnv) (s : Store) : forD g b ws s0 [] ρ s = .nx ρ s := id rfl
theorem forD_step {g : Fg} {b : Fs} {ws : List Nat} {s0 s s2 : Store} {d : D} {ds : List D} {ρ ρ2 : DEnv} {i : Nat} (h : b (ρ.set i (some d)) s = .nx ρ2 s2) : forD (gN i) b [] s0 (d :: ds) ρ s = forD (gN i) b [] s0 ds ρ2 s2 :=
  forD_cons_nx rfl h (sameAt_nil ..)
def forK (g : Fg) (b : Fs) (s0 : Store) (ds : List D) (r : SRes) : SRes := match r with
  | .nx ρ s => forD g b [] s0 ds ρ s
  | .ret d s => .ret d s
  | _ => .fail
end DL
namespace DL
open PySem PySem.Spec PyProof.Rows L2
variable [TabsCtx]
theorem ev_sAug (i : Nat) (g : Int → Int → Int) (f : Fe) (ρ : DEnv) (st : Store) : sAug i g f ρ st = match ρ[i]? with
  | some (some (.int a)) => (f ρ st).thenS ρ fun d s1 => match d with
    | .int b => .nx (ρ.set i (some (.int (g a b)))) s1
    | _ => .fail
  | _ => .fail := id rfl
theorem ev_sAugS (g : Int → Int → Int) (fo fi fe : Fe) (ρ : DEnv) (st : Store) : sAugS g fo fi fe ρ st = (fo ρ st).thenS ρ fun o s1 => (fi ρ s1).thenS ρ fun k s2 => match o, gIx s2 o k with
  | .loc l, some (.int a) => (fe ρ s2).thenS ρ fun d s3 => match d with
    | .int b => match putL s3 o k (.int (g a b)) with
      | some s4 => .nx ρ s4
      | none => .fail
    | _ => .fail
  | _, _ => .fail := id rfl
/-- a list of ints at the place 0, alone -/
theorem put_one {ns : List Int} {i : Nat} {v : Int} (h : i < ns.length) : putL [Cell.lst (ns.map D.int)] (.loc 0) (.int (i : Nat)) (.int v) = some [Cell.lst ((ns.set i v).map D.int)] := by
  unfold putL
  have e : ixN (ns.map D.int).length (i : Nat) = some i := by
    unfold ixN
    rw [if_pos (by omega), if_pos (by simp; omega)]
    simp
  simp only [List.getElem?_cons_zero, e, Option.map_some, List.set_cons_zero, List.map_set]
theorem ix_one {ns : List Int} {i : Nat} (h : i < ns.length) : gIx [Cell.lst (ns.map D.int)] (.loc 0) (.int (i : Nat)) = some (.int ns[i]) := gIx_loc (ds := ns.map D.int) rfl (by simp [h])
/-- a comprehension that keeps nothing, whose condition changes the store -/
theorem lcD_skip {g : Fg} {t : Ft} {f : Fe} {s0 : Store} {ρ : DEnv} (I : Nat → Store → Prop) : ∀ (items : List D) (i : Nat) (s : Store), I i s →
    (∀ (j : Nat) (d : D) (s : Store), items[j]? = some d → I (i + j) s → ∃ ρ1 s2, g d ρ = some ρ1 ∧ t ρ1 s = .ok false s2 ∧ I (i + j + 1) s2) → ∃ s2, lcD g t f [] s0 ρ items s = .ok [] s2 ∧ I (i + items.length) s2
  | [], i, s, h, _ => ⟨s, rfl, h⟩
  | d :: ds, i, s, h, hs => by
    obtain ⟨ρ1, s2, h1, h2, h3⟩ := hs 0 d s rfl h
    obtain ⟨s3, e, hI⟩ := lcD_skip (f := f) (s0 := s0) I ds (i + 1) s2 h3 fun j d' s hj hI => by
      have e : i + 1 + j = i + (j + 1) := by omega
      rw [e] at hI
      obtain ⟨a, b, q1, q2, q3⟩ := hs (j + 1) d' s (by simpa using hj) hI
      exact ⟨a, b, q1, q2, by rw [e]; exact q3⟩
    refine ⟨s3, ?_, by simpa [Nat.add_assoc, Nat.add_comm 1] using hI⟩
    unfold lcD
    rw [h1]
    simp only [h2, sameAt_nil, if_true, e]
theorem below_dc : ∀ (ts : List Tri) (m : Nat), Store.below m (ts.map Dc) = true
  | [], _ => rfl
  | t :: ts, m => by
    show (Cell.below m (Dc t) && Store.below m (ts.map Dc)) = true
    rw [below_dc ts m, Bool.and_true]
    rfl
theorem dst_dc (ts : List Tri) (t0 : Tri) : Dst ((ts ++ [t0]).map Dc) ts.length := ⟨by simp, fun t m => by
  have e : ((ts ++ [t0]).map Dc).set ts.length (Dc t) = (ts ++ [t]).map Dc := by simp
  rw [e]; exact below_dc _ _⟩
theorem set_dc (ts : List Tri) (t0 t : Tri) : ((ts ++ [t0]).map Dc).set ts.length (Dc t) = (ts ++ [t]).map Dc := by simp
theorem hu_rol (ns : List Int) : D.undL 0 [.rol (ns.map D.int)] = true := undL_all.mpr fun d hd => by
  rw [List.mem_singleton.mp hd]
  show D.undL 0 (ns.map D.int) = true
  exact undL_all.mpr fun d hd => by
    obtain ⟨i, _, rfl⟩ := List.mem_map.mp hd
    rfl
/-- the number of spots: max(1, min(k, len)) -/
theorem spots_ok (ns : List Int) (k : Nat) (hk : 1 ≤ k) (hk9 : k ≤ 1000) : ∃ m : Nat, m ≤ k ∧ (if (if ((ns.map D.int).length : Int) < (k : Int) then ((ns.map D.int).length : Int) else (k : Int)) > 1 then (if ((ns.map D.int).length : Int) < (k : Int) then ((ns.map D.int).length : Int) else (k : Int)) else 1) = (m : Nat) ∧ rng1 [.int (m : Nat)] = some (rngI 0 m, []) := by
  refine ⟨(if (if ((ns.map D.int).length : Int) < (k : Int) then ((ns.map D.int).length : Int) else (k : Int)) > 1 then (if ((ns.map D.int).length : Int) < (k : Int) then ((ns.map D.int).length : Int) else (k : Int)) else 1).toNat, ?_, ?_, ?_⟩
  · split <;> (try split) <;> omega
  · split <;> (try split) <;> omega
  · generalize hq : (if (if ((ns.map D.int).length : Int) < (k : Int) then ((ns.map D.int).length : Int) else (k : Int)) > 1 then (if ((ns.map D.int).length : Int) < (k : Int) then ((ns.map D.int).length : Int) else (k : Int)) else 1).toNat = q
    have hq6 : q ≤ k := by rw [← hq]; split <;> (try split) <;> omega
    unfold rng1
    simp only
    rw [if_pos (by
      have : (2 : Int) ^ 62 = 4611686018427387904 := by decide
      omega)]
    simp
end DL
namespace DL
open PySem PySem.Spec PyProof.Rows L2
variable [TabsCtx]
def slotIx (T : SlTab) (c f : Str) : Option Nat := (T.find? fun p => decide (p.1 = c)).bind fun p => p.2.findIdx? fun g => decide (g = f)
structure ClsOk (K : PySem.W.Frag) (T : SlTab) : Prop where
  sc : ∀ p ∈ T, SlX.SCls K (He.ga K p.1)
  si : ∀ p ∈ T, SlX.SIsi K (He.ga K p.1)
  slot : ∀ p ∈ T, ∀ i f, p.2[i]? = some f → ∃ q, SlX.Slot1 K (He.ga K p.1) f q i
  toB : ∀ p ∈ T, ∀ n ∈ btys, PySem.W.kitOne K (.ref (He.ga K p.1)) (.type n) = some false
  ofB : ∀ p ∈ T, ∀ n ∈ btys, PySem.W.kitOne K (.type n) (.ref (He.ga K p.1)) = some false
  own : ∀ p ∈ T, ∀ q ∈ T, PySem.W.kitOne K (.ref (He.ga K p.1)) (.ref (He.ga K q.1)) = some (decide (p.1 = q.1))
theorem slotB_ok {K : PySem.W.Frag} {c f : Str} {i : Nat} (h : slotB K c f i = true) : ∃ q, SlX.Slot1 K (He.ga K c) f q i := by
  unfold slotB at h
  split at h
  · rename_i p hp
    simp only [Bool.and_eq_true, decide_eq_true_eq] at h
    exact ⟨p, hp, h.1, h.2.1, h.2.2.1, h.2.2.2.1, h.2.2.2.2⟩
  · cases h
theorem clsB_ok {K : PySem.W.Frag} {T : SlTab} (h : clsB K T = true) : ClsOk K T := by
  have h := List.all_eq_true.mp h
  simp only [Bool.and_eq_true, decide_eq_true_eq, List.all_eq_true] at h
  refine ⟨fun p hp => ?_, fun p hp => ?_, fun p hp i f hf => ?_, fun p hp n hn => ?_, fun p hp n hn => ?_, fun p hp q hq => ?_⟩
  · have z := (h p hp).1; exact ⟨z.1, z.2.1, z.2.2.1, z.2.2.2⟩
  · have z := (h p hp).2.1; exact ⟨z.1, z.2.1, z.2.2.1, z.2.2.2⟩
  · have z := (h p hp).2.2.1 (f, i) (by
      rw [List.mk_mem_zipIdx_iff_getElem?]
      exact hf)
    exact slotB_ok z
  · exact ((h p hp).2.2.2.1 n hn).1
  · exact ((h p hp).2.2.2.1 n hn).2
  · exact (h p hp).2.2.2.2 q hq
theorem slotIx_inv {T : SlTab} {c f : Str} {i : Nat} (h : slotIx T c f = some i) : ∃ p ∈ T, p.1 = c ∧ p.2[i]? = some f := by
  obtain ⟨p, hp, h⟩ := Option.bind_eq_some_iff.mp h
  refine ⟨p, List.mem_of_find?_eq_some hp, by simpa using List.find?_some hp, ?_⟩
  obtain ⟨hl, h1, _⟩ := List.findIdx?_eq_some_iff_getElem.mp h
  simp only [decide_eq_true_eq] at h1
  rw [List.getElem?_eq_getElem hl, h1]
theorem ClsOk.at_ {K : PySem.W.Frag} {T : SlTab} (C : ClsOk K T) {c f : Str} {i : Nat} (h : slotIx T c f = some i) : SlX.SCls K (He.ga K c) ∧ ∃ q, SlX.Slot1 K (He.ga K c) f q i := by
  obtain ⟨p, hp, rfl, hf⟩ := slotIx_inv h
  exact ⟨C.sc p hp, C.slot p hp i f hf⟩
section
variable {K : KB} {H H' : Hp} {m : List Addr}
theorem RepO.get : ∀ {fs : List (Option D)} {vs : List (Option V)} {i : Nat} {d : D}, RepO K H m fs vs → fs[i]? = some (some d) → ∃ v, vs[i]? = some (some v) ∧ Rep K H m d v
  | [], _, _, _, _, q => by simp at q
  | none :: ds, _, 0, _, _, q => by simp at q
  | some d :: ds, _, 0, _, ⟨v, r, e, h1, _⟩, q => by simp at q; subst q; exact ⟨v, by rw [e]; rfl, h1⟩
  | none :: ds, _, i + 1, _, ⟨r, e, h2⟩, q => by rw [e]; simpa using RepO.get h2 (by simpa using q)
  | some d :: ds, _, i + 1, _, ⟨v, r, e, _, h2⟩, q => by rw [e]; simpa using RepO.get h2 (by simpa using q)
theorem RepO.length : ∀ {fs : List (Option D)} {vs : List (Option V)}, RepO K H m fs vs → fs.length = vs.length
  | [], _, h => by cases (show _ = [] from h); rfl
  | none :: ds, _, ⟨r, e, h2⟩ => by rw [e]; simp [RepO.length h2]
  | some d :: ds, _, ⟨v, r, e, _, h2⟩ => by rw [e]; simp [RepO.length h2]
theorem RepO.set {d : D} {v : V} (r : Rep K H m d v) : ∀ {fs : List (Option D)} {vs : List (Option V)} (i : Nat), RepO K H m fs vs → RepO K H m (fs.set i (some d)) (vs.set i (some v))
  | [], _, _, h => by cases (show _ = [] from h); exact rfl
  | none :: ds, _, 0, ⟨t, e, h2⟩ => by rw [e]; exact ⟨v, t, rfl, r, h2⟩
  | some d0 :: ds, _, 0, ⟨v0, t, e, _, h2⟩ => by rw [e]; exact ⟨v, t, rfl, r, h2⟩
  | none :: ds, _, i + 1, ⟨t, e, h2⟩ => by rw [e]; exact ⟨_, rfl, RepO.set r i h2⟩
  | some d0 :: ds, _, i + 1, ⟨v0, t, e, h1, h2⟩ => by rw [e]; exact ⟨v0, _, rfl, h1, RepO.set r i h2⟩
theorem RepO.app_none : ∀ {fs : List (Option D)} {vs : List (Option V)} (n : Nat), RepO K H m fs vs → RepO K H m (fs ++ List.replicate n none) (vs ++ List.replicate n none)
  | [], _, n, h => by
    cases (show _ = [] from h)
    induction n with
    | zero => exact rfl
    | succ n ih => exact ⟨_, rfl, ih⟩
  | none :: ds, _, n, ⟨t, e, h2⟩ => by rw [e]; exact ⟨_, rfl, RepO.app_none n h2⟩
  | some d0 :: ds, _, n, ⟨v0, t, e, h1, h2⟩ => by rw [e]; exact ⟨v0, _, rfl, h1, RepO.app_none n h2⟩
def putO (i : Nat) (d : D) (fs : List (Option D)) : List (Option D) := (fs ++ List.replicate (i + 1 - fs.length) none).set i (some d)
theorem RepO.put {d : D} {v : V} (r : Rep K H m d v) (i : Nat) {fs : List (Option D)} {vs : List (Option V)} (h : RepO K H m fs vs) : RepO K H m (putO i d fs) (SlX.putS i v vs) := by
  unfold putO SlX.putS
  rw [← h.length]
  exact (h.app_none _).set r i
/-- an attribute -/
def getA (T : SlTab) (f : Str) : G1 := fun st d => match d with
  | .obj c ds => (slotIx T c f).bind fun i => ds[i]?
  | .loc l => match st[l]? with
    | some (.ins c fs) => (slotIx T c f).bind fun i => (fs[i]?).join
    | _ => none
  | _ => none
theorem getA_rep {T : SlTab} (C : ClsOk K.K T) {f : Str} {st : Store} (rs : RepSt K H m st) {d e : D} {v : V} (r : Rep K H m d v) (h : getA T f st d = some e) :
    ∃ a c dx p vs i w, v = .ref a ∧ SlX.Slt H a (He.ga K.K c) dx vs ∧ SlX.SCls K.K (He.ga K.K c) ∧ SlX.Slot1 K.K (He.ga K.K c) f p i ∧ vs[i]? = some (some w) ∧ Rep K H m e w := by
  cases d with
  | obj c ds =>
    obtain ⟨i, h1, h2⟩ := Option.bind_eq_some_iff.mp h
    obtain ⟨c1, p, c2⟩ := C.at_ h1
    obtain ⟨a, dx, vs, rfl, ⟨q1, q2, _⟩, rl⟩ := Rep.obj_iff.mp r
    obtain ⟨w, h3, h4⟩ := rl.get h2
    exact ⟨a, c, dx, p, _, i, w, rfl, .inr ⟨q1, q2⟩, c1, c2, by rw [List.getElem?_map, h3]; rfl, h4⟩
  | loc l =>
    simp only [getA] at h
    cases hq : st[l]? with
    | none => rw [hq] at h; cases h
    | some cl =>
      rw [hq] at h
      cases cl with
      | ins c fs =>
        obtain ⟨i, h1, h2⟩ := Option.bind_eq_some_iff.mp h
        obtain ⟨c1, p, c2⟩ := C.at_ h1
        obtain ⟨a, rfl, hm⟩ := Rep.loc_iff.mp r
        obtain ⟨b, hb, dx, vs, q1, q2, _, _, q3⟩ := rs.cell l _ hq
        rw [hm] at hb; cases hb
        have h2 : fs[i]? = some (some e) := by
          cases e2 : fs[i]? with
          | none => rw [e2] at h2; cases h2
          | some o => rw [e2] at h2; rw [show o = some e from h2]
        obtain ⟨w, h3, h4⟩ := q3.get h2
        exact ⟨a, c, dx, p, vs, i, w, rfl, .inr ⟨q1, q2⟩, c1, c2, h3, h4⟩
      | lst _ => cases h
      | dic _ => cases h
      | dik _ => cases h
  | _ => cases h
/-- an attribute stored -/
def setA (T : SlTab) (f : Str) (st : Store) (o d : D) : Option Store := match o with
  | .loc l => match st[l]? with
    | some (.ins c fs) => (slotIx T c f).map fun i => st.set l (.ins c (putO i d fs))
    | _ => none
  | _ => none
theorem slH_eq {a C dx : Addr} {vs : List (Option V)} (h : H dx = some (.xd [])) : SlX.slH H a C dx vs = upd H a (SlX.SlO a C dx vs) := by
  unfold SlX.slH
  have e : upd H dx (.xd []) = H := by
    funext b
    by_cases z : b = dx
    · rw [z, upd_same, h]
    · rw [upd_ne z]
  rw [e]
theorem setA_rep {T : SlTab} (C : ClsOk K.K T) {f : Str} {st st' : Store} (rs : RepSt K H m st) {o d : D} {v w : V} (r : Rep K H m o v) (rd : Rep K H m d w) (h : setA T f st o d = some st') :
    ∃ a c dx p vs i, v = .ref a ∧ SlX.Slt H a (He.ga K.K c) dx vs ∧ SlX.SCls K.K (He.ga K.K c) ∧ SlX.Slot1 K.K (He.ga K.K c) f p i ∧ Evo H m (SlX.slH H a (He.ga K.K c) dx (SlX.putS i w vs)) m ∧ RepSt K (SlX.slH H a (He.ga K.K c) dx (SlX.putS i w vs)) m st' := by
  cases o with
  | loc l =>
    simp only [setA] at h
    cases hq : st[l]? with
    | none => rw [hq] at h; cases h
    | some cl =>
      rw [hq] at h
      cases cl with
      | ins c fs =>
        obtain ⟨i, h1, rfl⟩ := Option.map_eq_some_iff.mp h
        obtain ⟨c1, p, c2⟩ := C.at_ h1
        obtain ⟨a, rfl, hm⟩ := Rep.loc_iff.mp r
        obtain ⟨b, hb, dx, vs, q1, q2, q4, q5, q3⟩ := rs.cell l _ hq
        rw [hm] at hb; cases hb
        refine ⟨a, c, dx, p, vs, i, rfl, .inr ⟨q1, q2⟩, c1, c2, ?_⟩
        rw [slH_eq q2]
        have hfz : ∀ x u, H a ≠ some (.frz x u) := fun x u z => by
          rw [q1] at z
          have z := Option.some.inj z
          unfold SlX.SlO at z
          cases z
        have ev : Evo H m (upd H a (SlX.SlO a (He.ga K.K c) dx (SlX.putS i w vs))) m := .write hm hfz
        refine ⟨ev, rs.write hm (fun z => by rw [q1] at z; exact SlX.slO_not (Option.some.inj z)) hfz ⟨dx, _, upd_same, ?_, q4, q5, RepO.evo ev _ _ (q3.put rd i)⟩⟩
        rw [upd_ne (fun z => by rw [z, q1] at q2; exact SlX.slO_not (Option.some.inj q2))]
        exact q2
      | lst _ => cases h
      | dic _ => cases h
      | dik _ => cases h
  | _ => cases h
end
section
variable {X : Cx} {W : WX} {pos : Pos} {e o : Expr} {fe fo : Fe}
def xAtt (T : SlTab) (f : Str) (fo : Fe) : Fe := xUn (getA T f) fo
theorem de_att {T : SlTab} {f : Str} (C : ClsOk X.K T) (ho : DE X W o fo) (hb : attributeBase o f X.env (eval o X.env) = eval o X.env := by rfl) : DE X W (.Attribute o f pos) (xAtt T f fo) := by
  obtain ⟨t, p, q⟩ := ho
  refine ⟨_, SlX.pe_sl p hb, fun B σ H ρ st m Q re rs h => ?_⟩
  refine q B σ H ρ st m _ re rs (good_bind h fun d s1 v H1 m1 e1 r1 rs1 h1 => ?_)
  obtain ⟨d2, hd, k⟩ := good_lift h1
  obtain ⟨a, c, dx, p2, vs, i, w, rfl, z1, z2, z3, z4, z5⟩ := getA_rep C rs1 r1 hd
  exact ⟨a, _, dx, p2, vs, i, w, rfl, z1, z2, z3, z4, k w H1 .refl rs1 z5⟩
abbrev Fh := D → DEnv → Store → Option (DEnv × Store)
structure DH (X : Cx) (W : WX) (tg : Expr) (g : Fh) : Prop where
  ex : ∃ t : TG, PG X tg t ∧ ∀ (B : List Addr) (v : V) (σ : Sg) (H : Hp) (ρ ρ' : DEnv) (st st' : Store) (m : List Addr) (d : D) (Q : Sg → Hp → Prop), RepE ⟨X.K, B⟩ H m ρ σ → RepSt ⟨X.K, B⟩ H m st → Rep ⟨X.K, B⟩ H m d v → g d ρ st = some (ρ', st') →
    (∀ σ' H' m', Evo H m H' m' → RepE ⟨X.K, B⟩ H' m' ρ' σ' → RepSt ⟨X.K, B⟩ H' m' st' → Q σ' H') → t v σ H Q
abbrev Fhs := List D → DEnv → Store → Option (DEnv × Store)
structure DHs (X : Cx) (W : WX) (tgs : List Expr) (g : Fhs) : Prop where
  ex : ∃ t : TGs, PGs X tgs t ∧ ∀ (B : List Addr) (vs : List V) (σ : Sg) (H : Hp) (ρ ρ' : DEnv) (st st' : Store) (m : List Addr) (ds : List D) (Q : Sg → Hp → Prop), RepE ⟨X.K, B⟩ H m ρ σ → RepSt ⟨X.K, B⟩ H m st → RepL ⟨X.K, B⟩ H m ds vs → g ds ρ st = some (ρ', st') →
    (∀ σ' H' m', Evo H m H' m' → RepE ⟨X.K, B⟩ H' m' ρ' σ' → RepSt ⟨X.K, B⟩ H' m' st' → Q σ' H') → t vs σ H Q
def hN (i : Nat) : Fh := fun d ρ st => some (ρ.set i (some d), st)
theorem dh_name {i : Nat} {x : Str} (hN' : X.N.Nodup) (hi : X.N[i]? = some x := by rfl) (hl : Loc X.env.scope x := by first | exact Or.inl rfl | exact Or.inr rfl)
    (hf : X.fn x = true ∨ X.env.scope.names.lookup x = some .local := by first | exact .inl rfl | exact .inr rfl) : DH X W (.Name x pos) (hN i) := by
  refine ⟨_, pg_name hN' hi hl hf, fun B v σ H ρ ρ' st st' m d Q re rs r h q => ?_⟩
  cases h
  exact q _ H m .refl (re.set i r) rs
def hsNil : Fhs := fun ds ρ st => match ds with
  | [] => some (ρ, st)
  | _ => none
def hsCons (g : Fh) (gs : Fhs) : Fhs := fun ds ρ st => match ds with
  | d :: r => (g d ρ st).bind fun p => gs r p.1 p.2
  | [] => none
theorem dhs_nil : DHs X W [] hsNil := by
  refine ⟨_, pgs_nil, fun B vs σ H ρ ρ' st st' m ds Q re rs r h q => ?_⟩
  cases ds with
  | nil =>
    cases h
    exact ⟨r.inv_nil, q σ H m .refl re rs⟩
  | cons _ _ => cases h
theorem dhs_cons {tg : Expr} {tgs : List Expr} {g : Fh} {gs : Fhs} (h1 : DH X W tg g) (h2 : DHs X W tgs gs)
    (hs : (assignEach (tg :: tgs) X.env).map (·.2) = assign tg X.env :: (assignEach tgs X.env).map (·.2) := by rfl) : DHs X W (tg :: tgs) (hsCons g gs) := by
  obtain ⟨t, p, q⟩ := h1
  obtain ⟨t', p', q'⟩ := h2
  refine ⟨_, pgs_cons p p' hs, fun B vs σ H ρ ρ' st st' m ds Q re rs r h k => ?_⟩
  cases ds with
  | nil => cases h
  | cons d ds =>
    obtain ⟨v, vr, rfl, r1, r2⟩ := r.inv_cons
    obtain ⟨⟨ρ1, s1⟩, e1, e2⟩ := Option.bind_eq_some_iff.mp h
    refine ⟨v, vr, rfl, q B v σ H ρ ρ1 st s1 m d _ re rs r1 e1 fun σ1 H1 m1 ev1 re1 rs1 => ?_⟩
    exact q' B vr σ1 H1 ρ1 ρ' s1 st' m1 ds _ re1 rs1 (RepL.evo ev1 _ _ r2) e2 fun σ2 H2 m2 ev2 re2 rs2 => k σ2 H2 m2 (ev1.trans ev2) re2 rs2
def hT (n : Nat) (gs : Fhs) : Fh := fun d ρ st => match d with
  | .tup ds => if ds.length = n then gs ds ρ st else none
  | _ => none
theorem dh_tup {es : List Expr} {k n : Nat} {gs : Fhs} (hc : X.calm = true) (h : DHs X W es gs) (hn : (assignEach es X.env).length = n := by rfl) (hst : (assignEach es X.env).findIdx? (·.1) = none := by rfl) : DH X W (.Tuple es k pos) (hT n gs) := by
  obtain ⟨t, p, q⟩ := h
  refine ⟨_, pg_tup hc p hn hst, fun B v σ H ρ ρ' st st' m d Q re rs r h k => ?_⟩
  cases d with
  | tup ds =>
    simp only [hT] at h
    split at h
    · rename_i hl
      obtain ⟨a, vs, rfl, hq, r2⟩ := r.tup_sq
      exact ⟨a, vs, rfl, hq, by rw [← r2.length]; exact hl, q B vs σ H ρ ρ' st st' m ds _ re rs r2 h k⟩
    · cases h
  | _ => cases h
def sAsgH (f : Fe) (g : Fh) : Fs := fun ρ st => (f ρ st).thenS ρ fun d s1 => match g d ρ s1 with
  | some p => .nx p.1 p.2
  | none => .fail
theorem ds_asgH {tg : Expr} {g : Fh} (he : DE X W e fe) (hg : DH X W tg g) (hs : swapsWithSole [tg] e pos.line X.env = pure false := by rfl) (hw : swappedStores [tg] e X.env = pure none := by rfl)
    (h1 : (assignEach [tg] X.env).map (·.2) = [assign tg X.env] := by rfl) : DS X W (.Assign [tg] e pos) (sAsgH fe g) := by
  obtain ⟨t, p, q⟩ := he
  obtain ⟨t', p', q'⟩ := hg
  refine ⟨_, ps_asg p p' hs hw h1, fun B σ H ρ st m En re rs h => ?_⟩
  refine q B σ H ρ st m _ re rs (good_thenS re h fun d s1 v H1 m1 e1 r1 rs1 h1 => ?_)
  cases hd : g d ρ s1 with
  | none => rw [hd] at h1; exact h1.elim
  | some p =>
    obtain ⟨ρ', s2⟩ := p
    rw [hd] at h1
    exact q' B v σ H1 ρ ρ' s1 s2 m1 d _ (re.evo e1) rs1 r1 hd fun σ' H' m' ev re' rs' => h1 σ' H' m' ev re' rs'
/-- o.f = .. -/
def gAttr (K : PySem.W.Frag) (ta : TE) (f : Str) : TG := fun y σ H Q => ta σ H fun x H2 => ∃ a C dx p vs i, x = .ref a ∧ SlX.Slt H2 a C dx vs ∧ SlX.SCls K C ∧ SlX.Slot1 K C f p i ∧ Q σ (SlX.slH H2 a C dx (SlX.putS i y vs))
theorem pg_att {f : Str} {ta : TE} (ha : PE X o ta) (hq : ∀ v, assign (.Attribute o f pos) X.env v = (do
      let ov ← holding [v] (eval o X.env)
      standAt pos.atName
      holding [v, ov] (setAttr ov f v)
      release [v, ov] []) := by intro _; rfl) : PG X (.Attribute o f pos) (gAttr X.K ta f) := by
  refine ⟨fun pins s σ H y u Q I r h => ?_⟩
  rw [hq]
  refine wpAny_bind (wpAny_holding (thn (ha.run pins s σ H _ I h) fun ov s1 ⟨x, H1, I1, r1, a, C, dx, p, vs, i, ex, hsl, c, t, q2⟩ => ?_))
  subst ex
  obtain rfl : ov = Value.ref a := r1
  refine wpAny_bind (wpAny_standAt (wpAny_bind (wpAny_holding (SlX.setslot_ok I1 hsl c t r fun s2 I2 => ?_))))
  exact wpAny_release ⟨σ, _, I2, q2⟩
def hA (T : SlTab) (f : Str) (fo : Fe) : Fh := fun d ρ st => match fo ρ st with
  | .ok od s1 => (setA T f s1 od d).map fun s2 => (ρ, s2)
  | _ => none
theorem dh_att {T : SlTab} {f : Str} (C : ClsOk X.K T) (ho : DE X W o fo) (hq : ∀ v, assign (.Attribute o f pos) X.env v = (do
      let ov ← holding [v] (eval o X.env)
      standAt pos.atName
      holding [v, ov] (setAttr ov f v)
      release [v, ov] []) := by intro _; rfl) : DH X W (.Attribute o f pos) (hA T f fo) := by
  obtain ⟨t, p, q⟩ := ho
  refine ⟨_, pg_att p hq, fun B v σ H ρ ρ' st st' m d Q re rs r h k => ?_⟩
  unfold hA at h
  cases ho : fo ρ st with
  | ok od s1 =>
    rw [ho] at h
    obtain ⟨s2, h1, h2⟩ := Option.map_eq_some_iff.mp h
    cases h2
    refine q B σ H ρ st m _ re rs ?_
    rw [ho]
    intro ov H1 m1 e1 r1 rs1
    obtain ⟨a, c, dx, p2, vs, i, rfl, z1, z2, z3, z4, z5⟩ := setA_rep C rs1 r1 (Rep.evo e1 _ _ r) h1
    exact ⟨a, _, dx, p2, vs, i, rfl, z1, z2, z3, k σ _ m1 (e1.trans z4) ((re.evo e1).evo z4) z5⟩
  | exc _ _ _ => rw [ho] at h; cases h
  | fail => rw [ho] at h; cases h
/-- o[i] = .. (a list) -/
def hS (fo fi : Fe) : Fh := fun d ρ st => match fo ρ st with
  | .ok od s1 => (match fi ρ s1 with
    | .ok kd s2 => (putL s2 od kd d).map fun s3 => (ρ, s3)
    | _ => none)
  | _ => none
theorem putL_rep {K : KB} {H : Hp} {m : List Addr} {st st' : Store} {od kd d : D} {ov kv v : V} (rs : RepSt K H m st) (ro : Rep K H m od ov) (rk : Rep K H m kd kv) (r : Rep K H m d v) (h : putL st od kd d = some st') :
    ∃ a xs k j, ov = .ref a ∧ kv = .int k ∧ H a = some (.lst xs) ∧ ixN xs.length k = some j ∧ Evo H m (upd H a (.lst (xs.set j v))) m ∧ RepSt K (upd H a (.lst (xs.set j v))) m st' := by
  cases od with
  | loc l =>
    cases kd with
    | int k =>
      cases Rep.int_iff.mp rk
      simp only [putL] at h
      cases hq : st[l]? with
      | none => rw [hq] at h; cases h
      | some c =>
        rw [hq] at h
        cases c with
        | lst ds =>
          obtain ⟨j, hj, rfl⟩ := Option.map_eq_some_iff.mp h
          obtain ⟨a, vs, rfl, hm, hH, rl⟩ := loc_lst rs ro hq
          have e4 : Evo H m (upd H a (.lst (vs.set j v))) m := .write hm (fun _ _ z => by rw [hH] at z; cases z)
          exact ⟨a, vs, k, j, rfl, rfl, hH, by rw [← rl.length]; exact hj, e4, rs.write hm (fun z => by rw [hH] at z; cases z) (fun _ _ z => by rw [hH] at z; cases z) ⟨_, upd_same, RepL.evo e4 _ _ (rl.set j r)⟩⟩
        | dic _ => cases h
        | dik _ => cases h
        | ins _ _ => cases h
    | _ => simp [putL] at h
  | _ => simp [putL] at h
theorem dh_sub {i : Expr} {fi : Fe} (ho : DE X W o fo) (hi : DE X W i fi) (ha : ∀ v, assign (.Subscript o i pos) X.env v = (do
      let ov ← holding [v] (eval o X.env)
      let iv ← holding [v, ov] (eval i X.env)
      standAt pos
      holding [v, ov, iv] (setItem ov iv v)
      release [v, ov, iv] []) := by intro _; rfl) : DH X W (.Subscript o i pos) (hS fo fi) := by
  obtain ⟨to, po, qo⟩ := ho
  obtain ⟨ti, pi, qi⟩ := hi
  refine ⟨_, pg_sub po pi set_list ha, fun B v σ H ρ ρ' st st' m d Q re rs r h k => ?_⟩
  unfold hS at h
  cases e1 : fo ρ st with
  | ok od s1 =>
    rw [e1] at h
    simp only at h
    cases e2 : fi ρ s1 with
    | ok kd s2 =>
      rw [e2] at h
      obtain ⟨s3, h1, h2⟩ := Option.map_eq_some_iff.mp h
      cases h2
      refine qo B σ H ρ st m _ re rs ?_
      rw [e1]
      intro ov H1 m1 v1 r1 rs1
      refine qi B σ H1 ρ s1 m1 _ (re.evo v1) rs1 ?_
      rw [e2]
      intro kv H2 m2 v2 r2 rs2
      obtain ⟨a, xs, kk, j, rfl, rfl, z1, z2, z3, z4⟩ := putL_rep rs2 (Rep.evo v2 _ _ r1) r2 (Rep.evo (v1.trans v2) _ _ r) h1
      exact ⟨a, xs, kk, j, rfl, rfl, z1, z2, k σ _ m2 ((v1.trans v2).trans z3) ((re.evo (v1.trans v2)).evo z3) z4⟩
    | exc _ _ _ => rw [e2] at h; cases h
    | fail => rw [e2] at h; cases h
  | exc _ _ _ => rw [e1] at h; cases h
  | fail => rw [e1] at h; cases h
end
/-- the own class of a value, if it is one of the text's -/
def ownC (T : SlTab) (st : Store) : D → Option Str
  | .obj c _ => if T.any (fun p => decide (p.1 = c)) then some c else none
  | .loc l => match st[l]? with
    | some (.ins c _) => if T.any (fun p => decide (p.1 = c)) then some c else none
    | _ => none
  | _ => none
def gIsiC (T : SlTab) : GL := fun st ds => match ds with
  | [d, .ty n] => match ownC T st d with
    | some c => if btys.contains n then some (.bl false) else none
    | none => gIsi st ds
  | [d, .fn x] => if T.any (fun p => decide (p.1 = x)) then match ownC T st d with
      | some c => some (.bl (decide (c = x)))
      | none => (tyN st d).bind fun t => if btys.contains t then some (.bl false) else none
    else none
  | _ => none
theorem any_name {T : SlTab} {x : Str} (h : T.any (fun p => decide (p.1 = x)) = true) : ∃ p ∈ T, p.1 = x := by
  obtain ⟨p, hp, e⟩ := List.any_eq_true.mp h
  exact ⟨p, hp, of_decide_eq_true e⟩
section
variable {X : Cx}
/-- isinstance(x, c), x an instance with slots -/
theorem isi_sl {T : SlTab} (C : ClsOk X.K T) : CallR X (.builtin "isinstance") (fun xs H Q => ∃ (a dx : Addr) (c : Str) (p : Str × List Str) (vs : List (Option V)) (w : V) (u : Value) (b : Bool), xs = [.ref a, w] ∧ p ∈ T ∧ p.1 = c ∧ SlX.Slt H a (He.ga X.K c) dx vs ∧
    ClsV w u ∧ PySem.W.kitOne X.K (.ref (He.ga X.K c)) u = some b ∧ Q (.bl b) H) := by
  intro pins s σ H xs us Q I r h
  obtain ⟨a, dx, c, p, vs, w, u, b, rfl, hp, rfl, hs, hw, hk, q⟩ := h
  exact SlX.call_isiSl u pins s σ H [.ref a, w] us Q I r ⟨a, _, dx, vs, w, b, rfl, by
    cases hw with
    | ty n => rfl
    | own D => rfl, fun z hz => hw.eq hz, hs, C.sc p hp, C.si p hp, hk, q⟩
theorem ownC_rep {K : KB} {H : Hp} {m : List Addr} {T : SlTab} {st : Store} {d : D} {v : V} {c : Str} (rs : RepSt K H m st) (r : Rep K H m d v) (h : ownC T st d = some c) :
    ∃ a dx p vs, v = .ref a ∧ p ∈ T ∧ p.1 = c ∧ SlX.Slt H a (He.ga K.K c) dx vs := by
  cases d with
  | obj c' ds =>
    simp only [ownC] at h
    split at h
    · rename_i hc
      cases h
      obtain ⟨p, hp, e⟩ := any_name hc
      obtain ⟨a, dx, vs, rfl, ⟨q1, q2, _⟩, rl⟩ := Rep.obj_iff.mp r
      exact ⟨a, dx, p, _, rfl, hp, e, .inr ⟨q1, q2⟩⟩
    · cases h
  | loc l =>
    simp only [ownC] at h
    cases hq : st[l]? with
    | none => rw [hq] at h; cases h
    | some cl =>
      rw [hq] at h
      cases cl with
      | ins c' fs =>
        simp only at h
        split at h
        · rename_i hc
          cases h
          obtain ⟨p, hp, e⟩ := any_name hc
          obtain ⟨a, rfl, hm⟩ := Rep.loc_iff.mp r
          obtain ⟨b, hb, dx, vs, q1, q2, _⟩ := rs.cell l _ hq
          rw [hm] at hb; cases hb
          exact ⟨a, dx, p, vs, rfl, hp, e, .inr ⟨q1, q2⟩⟩
        · cases h
      | lst _ => cases h
      | dic _ => cases h
      | dik _ => cases h
  | _ => cases h
theorem dc_isiC {T : SlTab} (C : ClsOk X.K T) : DCall X (.builtin "isinstance") (gIsiC T) := by
  obtain ⟨r0, c0, q0⟩ := (dc_isi (X := X))
  refine ⟨_, (call_isi (X := X)).or ((isi_sl C).or c0), fun B xs H m st ds d Q rs r h q => ?_⟩
  unfold gIsiC at h
  split at h
  · rename_i d1 n
    cases ho : ownC T st d1 with
    | none =>
      rw [ho] at h
      exact .inr (.inr (q0 B xs H m st _ d Q rs r h q))
    | some c =>
      rw [ho] at h
      simp only at h
      split at h
      · rename_i hn
        cases h
        obtain ⟨v, w, rfl, r1, r2⟩ := two_inv r
        obtain ⟨a, dx, p, vs, rfl, hp, e, hs⟩ := ownC_rep rs r1 ho
        cases Rep.ty_iff.mp r2
        refine .inr (.inl ⟨a, dx, c, p, vs, _, _, false, rfl, hp, e, hs, .ty n, ?_, q _ H Grow.refl (Rep.bl_iff.mpr rfl)⟩)
        rw [← e]
        exact C.toB p hp n (by simpa using hn)
      · cases h
  · rename_i d1 x
    split at h
    · rename_i hx
      obtain ⟨px, hpx, ex⟩ := any_name hx
      obtain ⟨v, w, rfl, r1, r2⟩ := two_inv r
      cases Rep.fn_iff.mp r2
      cases ho : ownC T st d1 with
      | none =>
        rw [ho] at h
        obtain ⟨t, h1, h⟩ := Option.bind_eq_some_iff.mp h
        split at h
        · rename_i ht
          cases h
          refine .inl ⟨v, _, _, _, false, rfl, .own _, tyN_rep rs r1 h1, ?_, q _ H Grow.refl (Rep.bl_iff.mpr rfl)⟩
          rw [← ex]
          exact C.ofB px hpx t (by simpa using ht)
        · cases h
      | some c =>
        rw [ho] at h
        cases h
        obtain ⟨a, dx, p, vs, rfl, hp, e, hs⟩ := ownC_rep rs r1 ho
        refine .inr (.inl ⟨a, dx, c, p, vs, _, _, _, rfl, hp, e, hs, .own _, ?_, q _ H Grow.refl (Rep.bl_iff.mpr rfl)⟩)
        rw [← e, ← ex]
        exact C.own p hp px hpx
    · cases h
  · cases h
end
end DL
namespace DL
open PySem PySem.Spec PyProof.Rows L2
variable [TabsCtx]
section
variable {X : Cx} {W : WX} {pos apos p : Pos} {e o : Expr} {es : List Expr} {fe fo : Fe} {fa : Fa} {x m : Str}
/-- what is made within is fixed -/
def xFz (f : Fe) : Fe := fun ρ st => pureR st.length st (f ρ st)
theorem de_fz (h : DE X W e fe) : DE X W e (xFz fe) := by
  obtain ⟨t, p, q⟩ := h
  exact ⟨t, p, fun B σ H ρ st m Q re rs h => q B σ H ρ st m Q re rs (pure_run rs h)⟩
/-- the class of a value -/
def clsD (st : Store) : D → Option Str
  | .obj c _ => some c
  | .loc l => match st[l]? with
    | some (.ins c _) => some c
    | _ => none
  | _ => none
theorem clsD_rep {K : KB} {H : Hp} {m : List Addr} {st : Store} {d : D} {v : V} {c : Str} (rs : RepSt K H m st) (r : Rep K H m d v) (h : clsD st d = some c) : ∃ a dx vs, v = .ref a ∧ SlX.Slt H a (He.ga K.K c) dx vs := by
  cases d with
  | obj c' ds =>
    cases h
    obtain ⟨a, dx, vs, rfl, ⟨q1, q2, _⟩, rl⟩ := Rep.obj_iff.mp r
    exact ⟨a, dx, _, rfl, .inr ⟨q1, q2⟩⟩
  | loc l =>
    simp only [clsD] at h
    cases hq : st[l]? with
    | none => rw [hq] at h; cases h
    | some cl =>
      rw [hq] at h
      cases cl with
      | ins c' fs =>
        cases h
        obtain ⟨a, rfl, hm⟩ := Rep.loc_iff.mp r
        obtain ⟨b, hb, dx, vs, q1, q2, _⟩ := rs.cell l _ hq
        rw [hm] at hb; cases hb
        exact ⟨a, dx, vs, rfl, .inr ⟨q1, q2⟩⟩
      | lst _ => cases h
      | dic _ => cases h
      | dik _ => cases h
  | _ => cases h
/-- a class's method keeps F -/
structure MethP (X : Cx) (k : Nat) (m c : Str) (n : Nat) (F : Fd) : Prop where
  ex : ∃ fd ps, SlX.SCls X.K (He.ga X.K c) ∧ Meth X.K (He.ga X.K c) m (He.ma X.K (He.ga X.K c) m) ∧ FnG X.prog X.w X.K X.mg X.base k (He.ma X.K (He.ga X.K c) m) fd ps (spD X.K n F) ∧ Binds X.K fd ps []
abbrev MtTab := List (Str × Nat × Fd)
def mtAt (tb : MtTab) (c : Str) : Option (Nat × Fd) := (tb.find? fun p => decide (p.1 = c)).map (·.2)
structure MethsP (X : Cx) (k : Nat) (m : Str) (tb : MtTab) : Prop where
  at_ : ∀ p ∈ tb, MethP X k m p.1 p.2.1 p.2.2
theorem meths_nil {k : Nat} : MethsP X k m [] := ⟨fun p h => by simp at h⟩
theorem meths_cons {k n : Nat} {c : Str} {F : Fd} {tb : MtTab} (h : MethP X k m c n F) (t : MethsP X k m tb) : MethsP X k m ((c, n, F) :: tb) := ⟨fun p hp => by
  rcases List.mem_cons.mp hp with z | z
  · rw [z]; exact h
  · exact t.at_ p z⟩
theorem mtAt_mem {tb : MtTab} {c : Str} {n : Nat} {F : Fd} (h : mtAt tb c = some (n, F)) : (c, n, F) ∈ tb := by
  obtain ⟨p, hp, e⟩ := Option.map_eq_some_iff.mp h
  have h1 := List.mem_of_find?_eq_some hp
  have h2 : p.1 = c := by simpa using List.find?_some hp
  obtain ⟨a, b⟩ := p
  simp only at h2 e
  subst h2 e
  exact h1
def xMeth (tb : MtTab) (fo : Fe) (fa : Fa) : Fe := fun ρ st => (fo ρ st).bind fun od s1 => match (clsD s1 od).bind (mtAt tb) with
  | some p => (fa ρ s1).bind fun ds s2 => if ds.length + 1 = p.1 then p.2 (od :: ds) s2 else .fail
  | none => .fail
def tMethD (X : Cx) (W : WX) (k : Nat) (m : Str) (to : TE) (t : TA) : TE := fun σ H Q => to σ H fun x H1 => ∃ a C dx vs g fd ps sp, x = .ref a ∧ SlX.Slt H1 a C dx vs ∧ SlX.SCls X.K C ∧ Meth X.K C m g ∧ FnG X.prog X.w X.K X.mg X.base k g fd ps sp ∧ Binds X.K fd ps [] ∧
  t σ H1 fun ws H2 => sp (x :: ws) H2 Q fun c d H' => untag X.K W c d σ H'
theorem pe_methD {k : Nat} {to : TE} {t : TA} {pl : Sem Bool} (po : PE X o to) (hr : Room k X.A) (hx : XOk X W) (pt : PA X (e :: es) t)
    (hst : starEach (e :: es) X.env = (false, eval e X.env) :: starEach es X.env := by rfl) (hpl : (backTo pos (starEach es X.env)).any (·.1) = false := by rfl)
    (ht : eval (.Call (.Attribute o m apos) (e :: es) [] pos) X.env = (do
      let ov ← eval o X.env
      standAt apos.atName
      let (f, first) ← holding [ov] (getMethod ov m pl)
      callWith pos f first (backTo pos (starEach (e :: es) X.env)) (backToKw pos (keywordEach [] X.env))) := by rfl) : PE X (.Call (.Attribute o m apos) (e :: es) [] pos) (tMethD X W k m to t) := by
  refine ⟨fun pins s σ H Q I h => ?_⟩
  refine PySem.W.methodCall_KW (pl := pl) (thn (po.run pins s σ H _ I h) fun u s1 ⟨x, H1, I1, rx, a, C, dx, vs, g, fd, ps, sp, ex, hsl, hc, hm, G, hb, q⟩ => ?_) ht
  subst ex
  obtain rfl : u = Value.ref a := rx
  refine SlX.getmethsl_ok I1 hsl hc hm ?_
  refine PySem.W.callWith_K (first := [.ref a]) (h₀ := X.base) I1.ok.mod.kin hm.kp (thn (pt.run pos pins s1 σ H1 _ I1 q) fun us s2 ⟨ws, H2, I2, r, q2⟩ => ⟨I2.kIn, ?_⟩) hst hpl
  exact runG (us := .ref a :: us) (vs := .ref a :: ws) G hr hx hb I2 (.cons rfl r) q2
theorem pe_methD0 {k : Nat} {to : TE} {pl : Sem Bool} (po : PE X o to) (hr : Room k X.A) (hx : XOk X W)
    (ht : eval (.Call (.Attribute o m apos) [] [] pos) X.env = (do
      let ov ← eval o X.env
      standAt apos.atName
      let (f, first) ← holding [ov] (getMethod ov m pl)
      callWith pos f first (backTo pos (starEach [] X.env)) (backToKw pos (keywordEach [] X.env))) := by rfl) : PE X (.Call (.Attribute o m apos) [] [] pos) (tMethD X W k m to tNil) := by
  refine ⟨fun pins s σ H Q I h => ?_⟩
  refine PySem.W.methodCall_KW (pl := pl) (thn (po.run pins s σ H _ I h) fun u s1 ⟨x, H1, I1, rx, a, C, dx, vs, g, fd, ps, sp, ex, hsl, hc, hm, G, hb, q⟩ => ?_) ht
  subst ex
  obtain rfl : u = Value.ref a := rx
  refine SlX.getmethsl_ok I1 hsl hc hm ?_
  exact PySem.W.callWith_K0 (first := [.ref a]) I1.kIn hm.kp (runG (us := [.ref a]) (vs := [.ref a]) G hr hx hb I1 (.cons rfl .nil) q)
theorem meth_run {k : Nat} {tb : MtTab} {to : TE} {t : TA} (M : MethsP X k m tb)
    (qo : ∀ (B : List Addr) (σ : Sg) (H : Hp) (ρ : DEnv) (st : Store) (m : List Addr) (Q : VK), RepE ⟨X.K, B⟩ H m ρ σ → RepSt ⟨X.K, B⟩ H m st → GoodR (Rep ⟨X.K, B⟩) (fo ρ st) Q (fun c d H' => W c d σ H') ⟨X.K, B⟩ H m → to σ H Q)
    (qa : ∀ (B : List Addr) (σ : Sg) (H : Hp) (ρ : DEnv) (st : Store) (m : List Addr) (Q : List V → Hp → Prop), RepE ⟨X.K, B⟩ H m ρ σ → RepSt ⟨X.K, B⟩ H m st → GoodR (RepL ⟨X.K, B⟩) (fa ρ st) Q (fun c d H' => W c d σ H') ⟨X.K, B⟩ H m → t σ H Q)
    (B : List Addr) (σ : Sg) (H : Hp) (ρ : DEnv) (st : Store) (ml : List Addr) (Q : VK) (re : RepE ⟨X.K, B⟩ H ml ρ σ) (rs : RepSt ⟨X.K, B⟩ H ml st) (h : GoodR (Rep ⟨X.K, B⟩) (xMeth tb fo fa ρ st) Q (fun c d H' => W c d σ H') ⟨X.K, B⟩ H ml) : tMethD X W k m to t σ H Q := by
  refine qo B σ H ρ st ml _ re rs (good_bind h fun od s1 ov H1 m1 e1 r1 rs1 h1 => ?_)
  cases hc : (clsD s1 od).bind (mtAt tb) with
  | none => rw [hc] at h1; exact h1.elim
  | some q =>
    obtain ⟨n, F⟩ := q
    rw [hc] at h1
    simp only at h1
    obtain ⟨c, hc1, hc2⟩ := Option.bind_eq_some_iff.mp hc
    obtain ⟨a, dx, vs, rfl, hsl⟩ := clsD_rep rs1 r1 hc1
    obtain ⟨fd, ps, hS, hM, hG, hB⟩ := M.at_ _ (mtAt_mem hc2)
    refine ⟨a, _, dx, vs, _, fd, ps, _, rfl, hsl, hS, hM, hG, hB, ?_⟩
    refine qa B σ H1 ρ s1 m1 _ (re.evo e1) rs1 (good_bind h1 fun ds s2 ws H2 m2 e2 r2 rs2 h2 => ?_)
    split at h2
    · rename_i hn
      exact ⟨B, od :: ds, s2, m2, hn, RepL.cons (Rep.evo e2 _ _ r1) r2, rs2, GoodR.imp (r := F (od :: ds) s2) h2 fun c d H' q => untag_of q⟩
    · exact h2.elim
theorem de_meth {k : Nat} {tb : MtTab} {pl : Sem Bool} (M : MethsP X k m tb) (hr : Room k X.A) (hx : XOk X W) (ho : DE X W o fo) (ha : DA X W (e :: es) fa)
    (hst : starEach (e :: es) X.env = (false, eval e X.env) :: starEach es X.env := by rfl) (hpl : (backTo pos (starEach es X.env)).any (·.1) = false := by rfl)
    (ht : eval (.Call (.Attribute o m apos) (e :: es) [] pos) X.env = (do
      let ov ← eval o X.env
      standAt apos.atName
      let (f, first) ← holding [ov] (getMethod ov m pl)
      callWith pos f first (backTo pos (starEach (e :: es) X.env)) (backToKw pos (keywordEach [] X.env))) := by rfl) : DE X W (.Call (.Attribute o m apos) (e :: es) [] pos) (xMeth tb fo fa) := by
  obtain ⟨to, po, qo⟩ := ho
  obtain ⟨⟨t, pt, qa⟩, _⟩ := ha
  exact ⟨_, pe_methD (k := k) po hr hx pt hst hpl ht, fun B σ H ρ st ml Q re rs h => meth_run M qo qa B σ H ρ st ml Q re rs h⟩
theorem de_meth0 {k : Nat} {tb : MtTab} {pl : Sem Bool} (M : MethsP X k m tb) (hr : Room k X.A) (hx : XOk X W) (ho : DE X W o fo)
    (ht : eval (.Call (.Attribute o m apos) [] [] pos) X.env = (do
      let ov ← eval o X.env
      standAt apos.atName
      let (f, first) ← holding [ov] (getMethod ov m pl)
      callWith pos f first (backTo pos (starEach [] X.env)) (backToKw pos (keywordEach [] X.env))) := by rfl) : DE X W (.Call (.Attribute o m apos) [] [] pos) (xMeth tb fo aNil) := by
  obtain ⟨to, po, qo⟩ := ho
  exact ⟨_, pe_methD0 (k := k) po hr hx ht, fun B σ H ρ st ml Q re rs h => meth_run (t := tNil) M qo (fun B σ H ρ st m Q re rs h => good_ok h RepL.nil rs) B σ H ρ st ml Q re rs h⟩
theorem runMk {k : Nat} {C f : Addr} {fd : FuncData} {ps : List Str} {sp : Sp} {pins : List (Addr × Obj)} {σ : Sg} {H : Hp} {s : Shared} {Q : VK} {us : List Value} {vs : List V} (M : Mk X.K C f) (G : FnG X.prog X.w X.K X.mg X.base k f fd ps sp) (hr : Room (k + 1) X.A) (hx : XOk X W) (hb : Binds X.K fd ps [])
    (I : Inv X pins σ H s) (r : Vals vs us)
    (h : ∀ x dx, H x = none → H dx = none → dx ≠ x → sp (.ref x :: vs) (upd (upd H dx (.xd [])) x (SlX.SlO x C dx [])) (fun v H2 => v = .non ∧ Q (.ref x) H2) fun c d H' => untag X.K W c d σ H') :
    wpAny (model X.prog X.w) X.A (call (.ref C) us) (EP X pins σ Q) X.xe s := by
  have hne : s.heap.objs.size ≠ s.heap.objs.size + 1 := Nat.ne_of_lt (Nat.lt_succ_self _)
  have hq := h (s.heap.objs.size + 1) s.heap.objs.size (I.hok.fresh (Nat.le_succ _)) (I.hok.fresh (Nat.le_refl _)) hne
  have I1 := Inv.made (C := C) I
  have eH : ∀ {a b : Addr}, b ≠ a → SlX.slH (upd (upd H b (.own a)) a (.ins C b [])) a C b [] = upd (upd H b (.xd [])) a (SlX.SlO a C b []) := fun {a b} hab => by
    unfold SlX.slH
    funext z
    by_cases h1 : z = a
    · rw [h1, upd_same, upd_same]
    · by_cases h2 : z = b
      · rw [h2, upd_ne hab, upd_ne hab, upd_same, upd_same]
      · simp only [upd_ne h1, upd_ne h2]
  have I2 := SlX.inv_slot (a := s.heap.objs.size + 1) (C := C) (dx := s.heap.objs.size) (vs := []) (vs' := []) (sl' := #[]) (t' := s.toks) I1 (.inl ⟨upd_same, rfl⟩) (fun b o _ _ e => e) (fun m e => e) (by
    obtain ⟨mA, O, _, _, _, _⟩ := ins_get (dx := s.heap.objs.size) I1.hok upd_same
    exact O.obj) (SlX.SlR.nil _)
  rw [eH hne] at I2
  have r2 : Vals (V.ref (s.heap.objs.size + 1) :: vs) (Value.ref (s.heap.objs.size + 1) :: us) := .cons rfl r
  have hl : (Value.ref (s.heap.objs.size + 1) :: us).length = ps.length := by
    have e := r2.length
    rw [G.len _ _ _ _ hq] at e
    exact e.symm
  have hb2 := hb _ (Value.ref (s.heap.objs.size + 1) :: us) I2.kIn (by rw [List.append_nil]; exact hl)
  rw [List.append_nil] at hb2
  refine wpAny_call (make_map (f := f) I.kIn M.makes M.init (beq_iff_eq.mp M.fn) (codeAny_mono (G.run _ X.stack _ _ ⟨Value.ref (s.heap.objs.size + 1) :: us, []⟩ (Value.ref (s.heap.objs.size + 1) :: us) _ _ _ (hr.make C us [])
    hx.gd (I2.env0.make C us []) hb2 r2 hq) fun r s' hq' => ?_))
  match r, hq' with
  | .error e, hq' => exact passAt hx.tk σ pins _ _ e s' I2 hq'
  | .ok (.ret u), hq' =>
    obtain ⟨v, H', I3, rv, ev, q3⟩ := I2.after hq'
    subst ev
    exact ⟨rv, ⟨V.ref (s.heap.objs.size + 1), H', I3, rfl, q3⟩⟩
  | .ok .next, hq' => exact hq'.elim
  | .ok .brk, hq' => exact hq'.elim
  | .ok .cont, hq' => exact hq'.elim
def tMakeD (X : Cx) (W : WX) (C : Addr) (sp : Sp) (t : TA) : TE := fun σ H Q => t σ H fun vs H1 => ∀ x dx, H1 x = none → H1 dx = none → dx ≠ x → sp (.ref x :: vs) (upd (upd H1 dx (.xd [])) x (SlX.SlO x C dx [])) (fun v H2 => v = .non ∧ Q (.ref x) H2) fun c d H' => untag X.K W c d σ H'
theorem pe_makeD {k : Nat} {C f : Addr} {fd : FuncData} {ps : List Str} {sp : Sp} {t : TA} (M : Mk X.K C f) (G : FnG X.prog X.w X.K X.mg X.base k f fd ps sp) (hr : Room (k + 1) X.A) (hx : XOk X W) (hb : Binds X.K fd ps []) (hg : Gl X x) (hm : X.mg x = some (.ref C)) (pt : PA X (e :: es) t)
    (hdb : (x == ("__debug__" : Str)) = false := by decide) (he : starEach (e :: es) X.env = (false, eval e X.env) :: starEach es X.env := by rfl) (hpl : (backTo pos (starEach es X.env)).any (·.1) = false := by rfl) : PE X (.Call (.Name x p) (e :: es) [] pos) (tMakeD X W C sp t) := by
  refine ⟨fun pins s σ H Q I h => ?_⟩
  refine wpAny_Call_Name_kw (ld_glob I hg hm ?_ hdb)
  refine PySem.W.callWith_K (h₀ := X.base) I.ok.mod.kin M.kp (thn (pt.run pos pins s σ H _ I h) fun us s1 ⟨vs, H1, I1, r, q⟩ => ⟨I1.kIn, ?_⟩) he hpl
  exact runMk M G hr hx hb I1 r q
def xMake (c : Str) (F : Fd) (fa : Fa) : Fe := fun ρ st => (fa ρ st).bind fun ds s1 => (F (.loc s1.length :: ds) (s1 ++ [.ins c []])).bind fun r s2 => match r with
  | .non => .ok (.loc s1.length) s2
  | _ => .fail
theorem de_make {k n : Nat} {f : Addr} {fd : FuncData} {ps : List Str} {F : Fd} (M : Mk X.K (He.ga X.K x) f) (G : FnG X.prog X.w X.K X.mg X.base k f fd ps (spD X.K n F)) (hr : Room (k + 1) X.A) (hx : XOk X W) (hb : Binds X.K fd ps []) (hm : X.mg x = some (.ref (He.ga X.K x))) (ha : DA X W (e :: es) fa)
    (hg : Gl X x := by rfl) (hn : (e :: es).length + 1 = n := by rfl)
    (hdb : (x == ("__debug__" : Str)) = false := by decide) (he : starEach (e :: es) X.env = (false, eval e X.env) :: starEach es X.env := by rfl) (hpl : (backTo pos (starEach es X.env)).any (·.1) = false := by rfl) : DE X W (.Call (.Name x p) (e :: es) [] pos) (xMake x F fa) := by
  obtain ⟨⟨t, pt, q⟩, hl⟩ := ha
  refine ⟨_, pe_makeD M G hr hx hb hg hm pt hdb he hpl, fun B σ H ρ st ml Q re rs h => ?_⟩
  unfold xMake at h
  cases er : fa ρ st with
  | fail => rw [er] at h; exact h.elim
  | exc c f s => exact q B σ H ρ st ml _ re rs (by rw [er] at h ⊢; exact h)
  | ok ds s1 =>
    refine q B σ H ρ st ml _ re rs ?_
    rw [er] at h ⊢
    simp only [Res.bind_ok] at h
    intro vs H1 m1 e1 r1 rs1 a dx ha hdx hne
    have rs2 : RepSt ⟨X.K, B⟩ (upd H1 dx (.xd [])) m1 s1 := rs1.grow (Grow.upd hdx)
    have ha2 : upd H1 dx (.xd []) a = none := by rw [upd_ne (Ne.symm hne)]; exact ha
    have hdm : dx ∉ m1 := rs1.fresh hdx
    have ev : Evo H1 m1 (upd (upd H1 dx (.xd [])) a (SlX.SlO a (He.ga X.K x) dx [])) (m1 ++ [a]) := (Grow.upd hdx).evo.trans (.push ha2)
    have rs3 : RepSt ⟨X.K, B⟩ (upd (upd H1 dx (.xd [])) a (SlX.SlO a (He.ga X.K x) dx [])) (m1 ++ [a]) (s1 ++ [.ins x []]) := by
      refine rs2.push ha2 ⟨dx, [], upd_same, by rw [upd_ne hne, upd_same], ?_, rs1.freshB hdx, rfl⟩
      simp only [List.mem_append, List.mem_singleton, not_or]
      exact ⟨hdm, hne⟩
    refine ⟨B, .loc s1.length :: ds, s1 ++ [.ins x []], m1 ++ [a], ?_, RepL.cons (Rep.loc_iff.mpr ⟨a, rfl, by rw [← rs1.len]; simp⟩) (RepL.evo ev _ _ r1), rs3, ?_⟩
    · rw [← hn]
      simp only [List.length_cons]
      rw [hl _ _ _ _ er, List.length_cons]
    · have h := GoodR.evo h (e1.trans ev)
      cases hF : F (.loc s1.length :: ds) (s1 ++ [.ins x []]) with
      | fail => rw [hF] at h; exact h.elim
      | exc c f s => rw [hF] at h; exact fun dx2 H' m' e1 rx rs => untag_of (h dx2 H' m' e1 rx rs)
      | ok d s =>
        rw [hF] at h
        simp only [Res.bind_ok] at h
        intro v H2 m2 e2 r2 rs4
        cases d with
        | non => exact ⟨Rep.non_iff.mp r2, h (.ref a) H2 m2 e2 (Rep.loc_iff.mpr ⟨a, rfl, e2.get (by rw [← rs1.len]; simp)⟩) rs4⟩
        | _ => exact h.elim
end
end DL
namespace DL
open PySem PySem.Spec PyProof.Rows L2
variable [TabsCtx]
abbrev KD := List (Key × D)
def keyD : D → Option Key
  | .int i => some (.inl i)
  | .str x => some (.inr x)
  | _ => none
def keyTo : Key → D
  | .inl i => .int i
  | .inr x => .str x
def valD (kvs : KD) (k : Key) : Option D := (kvs.find? fun kv => decide (kv.1 = k)).map (·.2)
def putD (kvs : KD) (k : Key) (v : D) : KD := if (kvs.any fun kv => decide (kv.1 = k)) = true then kvs.map (fun kv => if kv.1 = k then (kv.1, v) else kv) else kvs ++ [(k, v)]
def mergeD (kvs more : KD) : KD := more.foldl (fun acc kv => putD acc kv.1 kv.2) kvs
def dctOf (kvs : KD) : D := .dct (kvs.map (·.1)) (kvs.map (·.2))
section
variable {K : KB} {H : Hp} {m : List Addr}
theorem keyD_rep {d : D} {v : V} {k : Key} (r : Rep K H m d v) (h : keyD d = some k) : v = kV k := by
  cases d with
  | int i => cases h; exact Rep.int_iff.mp r
  | str x => cases h; exact Rep.str_iff.mp r
  | _ => cases h
theorem keyTo_rep (k : Key) : Rep K H m (keyTo k) (kV k) := by
  cases k with
  | inl i => exact Rep.int_iff.mpr rfl
  | inr x => exact Rep.str_iff.mpr rfl
theorem RepP.length : ∀ {kvs : KD} {vs : List (Key × V)}, RepP K H m kvs vs → kvs.length = vs.length
  | [], _, h => by cases (show _ = [] from h); rfl
  | (k, d) :: r, _, ⟨v, t, e, _, h2⟩ => by rw [e]; simp [RepP.length h2]
theorem RepP.zip : ∀ {ks : List Key} {ds : List D} {vs : List V}, ks.length = ds.length → RepL K H m ds vs → RepP K H m (ks.zip ds) (ks.zip vs)
  | [], [], _, _, h => by rw [h.inv_nil]; exact rfl
  | k :: ks, d :: ds, _, hl, h => by
    obtain ⟨v, r, rfl, h1, h2⟩ := h.inv_cons
    exact ⟨v, _, rfl, h1, RepP.zip (by simpa using hl) h2⟩
  | [], _ :: _, _, hl, _ => by simp at hl
  | _ :: _, [], _, hl, _ => by simp at hl
theorem RepP.append : ∀ {kvs kws : KD} {vs ws : List (Key × V)}, RepP K H m kvs vs → RepP K H m kws ws → RepP K H m (kvs ++ kws) (vs ++ ws)
  | [], _, _, _, h, t => by cases (show _ = [] from h); exact t
  | (k, d) :: r, _, _, _, ⟨v, t, e, h1, h2⟩, q => by rw [e]; exact ⟨v, _, rfl, h1, RepP.append h2 q⟩
theorem RepP.val {k : Key} : ∀ {kvs : KD} {vs : List (Key × V)}, RepP K H m kvs vs → (match valD kvs k with
    | some d => ∃ v, valV vs k = some v ∧ Rep K H m d v
    | none => valV vs k = none)
  | [], _, h => by cases (show _ = [] from h); exact rfl
  | (j, d) :: r, _, ⟨v, t, e, h1, h2⟩ => by
    rw [e]
    have ih := RepP.val (k := k) h2
    by_cases hj : j = k
    · rw [valV_pos hj]
      have : valD ((j, d) :: r) k = some d := by simp [valD, List.find?_cons, hj]
      rw [this]
      exact ⟨v, rfl, h1⟩
    · rw [valV_neg hj]
      have : valD ((j, d) :: r) k = valD r k := by simp [valD, List.find?_cons, hj]
      rw [this]
      exact ih
theorem RepP.val_some {k : Key} {kvs : KD} {vs : List (Key × V)} {d : D} (h : RepP K H m kvs vs) (e : valD kvs k = some d) : ∃ v, valV vs k = some v ∧ Rep K H m d v := by
  have := RepP.val (k := k) h
  rw [e] at this
  exact this
theorem RepP.val_none {k : Key} {kvs : KD} {vs : List (Key × V)} (h : RepP K H m kvs vs) (e : valD kvs k = none) : valV vs k = none := by
  have := RepP.val (k := k) h
  rw [e] at this
  exact this
theorem RepP.any (k : Key) : ∀ {kvs : KD} {vs : List (Key × V)}, RepP K H m kvs vs → (kvs.any fun kv => decide (kv.1 = k)) = (vs.any fun kv => decide (kv.1 = k))
  | [], _, h => by cases (show _ = [] from h); rfl
  | (j, d) :: r, _, ⟨v, t, e, _, h2⟩ => by rw [e]; simp only [List.any_cons]; rw [RepP.any k h2]
theorem RepP.repl {k : Key} {d : D} {v : V} (rd : Rep K H m d v) : ∀ {kvs : KD} {vs : List (Key × V)}, RepP K H m kvs vs → RepP K H m (kvs.map fun kv => if kv.1 = k then (kv.1, d) else kv) (vs.map fun kv => if kv.1 = k then (kv.1, v) else kv)
  | [], _, h => by cases (show _ = [] from h); exact rfl
  | (j, x) :: r, _, ⟨w, t, e, h1, h2⟩ => by
    rw [e]
    by_cases hj : j = k
    · simp only [List.map_cons, if_pos hj]
      exact ⟨v, _, rfl, rd, RepP.repl rd h2⟩
    · simp only [List.map_cons, if_neg hj]
      exact ⟨w, _, rfl, h1, RepP.repl rd h2⟩
theorem RepP.put {k : Key} {d : D} {v : V} (rd : Rep K H m d v) {kvs : KD} {vs : List (Key × V)} (h : RepP K H m kvs vs) : RepP K H m (putD kvs k d) (putK vs k v) := by
  unfold putD putK
  rw [← RepP.any k h]
  split
  · exact RepP.repl rd h
  · exact RepP.append h ⟨v, [], rfl, rd, rfl⟩
theorem RepP.merge : ∀ {more : KD} {ws : List (Key × V)} {kvs : KD} {vs : List (Key × V)}, RepP K H m kvs vs → RepP K H m more ws → RepP K H m (mergeD kvs more) (mergeK vs ws)
  | [], _, _, _, h, t => by cases (show _ = [] from t); exact h
  | (k, d) :: r, _, _, _, h, ⟨v, t, e, h1, h2⟩ => by
    rw [e]
    show RepP K H m (mergeD (putD _ k d) r) (mergeK (putK _ k v) t)
    exact RepP.merge (RepP.put h1 h) h2
/-- a dict's pairs -/
def dicV (st : Store) : D → Option KD
  | .dct ks ds => some (ks.zip ds)
  | .loc l => match st[l]? with
    | some (.dic kvs) => some kvs
    | some (.dik kvs) => some kvs
    | _ => none
  | _ => none
theorem dicV_rep {st : Store} (rs : RepSt K H m st) {d : D} {v : V} {kvs : KD} (r : Rep K H m d v) (h : dicV st d = some kvs) : ∃ a vs, v = .ref a ∧ Rd H a (.dK vs) ∧ RepP K H m kvs vs := by
  cases d with
  | dct ks ds =>
    cases h
    obtain ⟨a, vs, rfl, ⟨o, ha⟩, hl, rl⟩ := Rep.dct_iff.mp r
    exact ⟨a, _, rfl, .inr ⟨o, ha⟩, RepP.zip hl rl⟩
  | loc l =>
    simp only [dicV] at h
    cases hq : st[l]? with
    | none => rw [hq] at h; cases h
    | some c =>
      rw [hq] at h
      cases c with
      | dic kv =>
        cases h
        obtain ⟨a, rfl, hm⟩ := Rep.loc_iff.mp r
        obtain ⟨b, hb, vs, q1, q2⟩ := rs.cell l _ hq
        rw [hm] at hb; cases hb
        exact ⟨a, vs, rfl, .inl q1, q2⟩
      | dik kv =>
        cases h
        obtain ⟨a, rfl, hm⟩ := Rep.loc_iff.mp r
        obtain ⟨b, hb, o2, vs, q1, q2⟩ := rs.cell l _ hq
        rw [hm] at hb; cases hb
        exact ⟨a, vs, rfl, .inr ⟨o2, q1⟩, q2⟩
      | lst _ => cases h
      | ins _ _ => cases h
  | _ => cases h
/-- a new dict, held -/
theorem Rep.newDK {st : Store} (rs : RepSt K H m st) {p : Addr} (hp : H p = none) {o : Obj} {kvs : KD} {vs : List (Key × V)} (h : RepP K H m kvs vs) : Rep K (upd H p (.frz o (.dK vs))) m (dctOf kvs) (.ref p) := by
  obtain ⟨a, b⟩ := RepP.unzip h
  rw [b]
  exact Rep.newD rs hp (by simp) a
end
section
variable {X : Cx} {W : WX} {pos : Pos} {a b e f o : Expr} {fa fb fe ff fo : Fe}
def rIxD : R2 := fun x y H Q => ∃ a v, x = .ref a ∧ DGet H a y (some v) ∧ Q v H
theorem ix_dict (hu : X.A.units + 1 < cLine) : IxR X rIxD := by
  intro value slice pins s σ H x y v u Q I rx ry h hs
  obtain ⟨a, z, rfl, g, q⟩ := h
  obtain rfl : v = Value.ref a := rx
  have hT := dict_typeIs I g
  unfold subscriptTail
  refine wpAny_bind ?_
  rw [getitemInPython_of_ne hT.not_modules]
  refine wpAny_bind (wpAny_specialOf hT PySem.F.slot_dict_getitem.lookup ?_)
  have fin : wpAny (model X.prog X.w) X.A (subscripted slice false (.ref a) u) (fun r s3 => wpAny (model X.prog X.w) X.A (letTemporaryGo value (.ref a) r >>= fun _ => pure r) (EP X pins σ Q) X.xe s3) X.xe s := by
    rw [hs]
    exact wpAny_operating (d_getItem hu I g ry fun w' s3 I3 rw' => wpAny_bind (wpAny_letTemporaryGo (wpAny_pure ⟨z, H, I3, rw', q⟩)))
  first
    | exact wpAny_pure (wpAny_bind fin)
    | exact wpAny_bind (wpAny_pure (wpAny_bind fin))
    | exact wpAny_bind fin
/-- a subscript of a sequence or a dict -/
def gIxM : G2 := fun st a b => match dicV st a with
  | some kvs => (keyD b).bind fun k => valD kvs k
  | none => gIx st a b
theorem dixM (hu : X.A.units + 1 < cLine) : DIx X gIxM := by
  obtain ⟨r0, c0, q0⟩ := (dix (X := X))
  refine ⟨_, c0.or (ix_dict hu), fun B x y H m st da db d Q rs ra rb h q => ?_⟩
  unfold gIxM at h
  cases hd : dicV st da with
  | none => rw [hd] at h; exact .inl (q0 B x y H m st da db d Q rs ra rb h q)
  | some kvs =>
    rw [hd] at h
    obtain ⟨k, h1, h2⟩ := Option.bind_eq_some_iff.mp h
    obtain ⟨a, vs, rfl, hR, hP⟩ := dicV_rep rs ra hd
    obtain ⟨v, h3, h4⟩ := hP.val_some h2
    cases keyD_rep rb h1
    exact .inr ⟨a, v, rfl, .inl ⟨vs, k, hR, rfl, h3.symm⟩, q v H Grow.refl h4⟩
def rInD (neg : Bool) : R2 := fun x y H Q => ∃ a o, y = .ref a ∧ DGet H a x o ∧ Q (.bl (if neg then !o.isSome else o.isSome)) H
theorem op_inD (hu : X.A.units + 1 < cLine) : OpR X (compareOp .In) (rInD false) := by
  intro pins s σ H x y v u Q I rx ry h
  obtain ⟨a, o, rfl, g, q⟩ := h
  obtain rfl : u = Value.ref a := ry
  exact d_in hu I g rx fun s' I' => ⟨.bl o.isSome, H, I', rfl, q⟩
theorem op_notInD (hu : X.A.units + 1 < cLine) : OpR X (compareOp .NotIn) (rInD true) := by
  intro pins s σ H x y v u Q I rx ry h
  obtain ⟨a, o, rfl, g, q⟩ := h
  obtain rfl : u = Value.ref a := ry
  exact d_notIn hu I g rx fun s' I' => ⟨.bl (!o.isSome), H, I', rfl, q⟩
def gInM (neg : Bool) : G2 := fun st a b => match dicV st b with
  | some kvs => (keyD a).map fun k => .bl (if neg then !(valD kvs k).isSome else (valD kvs k).isSome)
  | none => gInB neg st a b
theorem inM_aux {neg : Bool} {F : Value → Value → Sem Value} (o1 : DOp X F (gInB neg)) (o2 : OpR X F (rInD neg)) : DOp X F (gInM neg) := by
  obtain ⟨r0, c0, q0⟩ := o1
  refine ⟨_, c0.or o2, fun B x y H m st da db d Q rs ra rb h q => ?_⟩
  unfold gInM at h
  cases hd : dicV st db with
  | none => rw [hd] at h; exact .inl (q0 B x y H m st da db d Q rs ra rb h q)
  | some kvs =>
    rw [hd] at h
    obtain ⟨k, h1, rfl⟩ := Option.map_eq_some_iff.mp h
    obtain ⟨a, vs, rfl, hR, hP⟩ := dicV_rep rs rb hd
    cases keyD_rep ra h1
    refine .inr ⟨a, valV vs k, rfl, .inl ⟨vs, k, hR, rfl, rfl⟩, ?_⟩
    have e : (valV vs k).isSome = (valD kvs k).isSome := by
      cases hv : valD kvs k with
      | none => rw [hP.val_none hv]; rfl
      | some d => obtain ⟨v, h3, _⟩ := hP.val_some hv; rw [h3]; rfl
    rw [e]
    exact q _ H Grow.refl (Rep.bl_iff.mpr rfl)
theorem dop_inM (hu : X.A.units + 1 < cLine) : DOp X (compareOp .In) (gInM false) := inM_aux dop_in (op_inD hu)
theorem dop_notInM (hu : X.A.units + 1 < cLine) : DOp X (compareOp .NotIn) (gInM true) := inM_aux dop_notIn (op_notInD hu)
theorem call_lenDR : CallR X (.builtin "len") (fun xs H Q => ∃ a kvs, xs = [V.ref a] ∧ Rd H a (.dK kvs) ∧ Q (.int kvs.length) H) := by
  intro pins s σ H xs us Q I r h
  obtain ⟨a, kvs, rfl, hR, q⟩ := h
  obtain ⟨u, rfl, ru⟩ := r.one
  obtain rfl : u = Value.ref a := ru
  exact d_len I hR fun t s' I' => ⟨.int kvs.length, H, I', ⟨t, rfl⟩, q⟩
def gLenM : GL := fun st ds => match ds with
  | [d] => (match dicV st d with
    | some kvs => some (.int kvs.length)
    | none => gLen st ds)
  | _ => none
theorem dc_lenM : DCall X (.builtin "len") gLenM := by
  obtain ⟨r0, c0, q0⟩ := (dc_len (X := X))
  refine ⟨_, c0.or call_lenDR, fun B xs H m st ds d Q rs r h q => ?_⟩
  unfold gLenM at h
  split at h
  · rename_i d1
    cases hd : dicV st d1 with
    | none => rw [hd] at h; exact .inl (q0 B xs H m st _ d Q rs r h q)
    | some kvs =>
      rw [hd] at h
      cases h
      obtain ⟨v, rfl, r1⟩ := one_inv r
      obtain ⟨a, vs, rfl, hR, hP⟩ := dicV_rep rs r1 hd
      refine .inr ⟨a, vs, rfl, hR, ?_⟩
      rw [← hP.length]
      exact q _ H Grow.refl (Rep.int_iff.mpr rfl)
  · cases h
/-- d.get(k, x) -/
def xGet2 (fo fe ff : Fe) : Fe := fun ρ st => (fo ρ st).bind fun od s1 => match dicV s1 od with
  | some _ => (fe ρ s1).bind fun kd s2 => (ff ρ s2).bind fun xd s3 => match dicV s3 od, keyD kd with
    | some kvs, some k => .ok ((valD kvs k).getD xd) s3
    | _, _ => .fail
  | none => .fail
theorem de_get2 {apos cpos : Pos} (hu : X.A.units + 1 < cLine) (ho : DE X W o fo) (he : DE X W e fe) (hf : DE X W f ff) (m : M2 X o "get" apos e f cpos := by exact ⟨rfl, rfl, rfl, rfl⟩) : DE X W (.Call (.Attribute o "get" apos) [e, f] [] cpos) (xGet2 fo fe ff) := by
  obtain ⟨to, po, qo⟩ := ho
  obtain ⟨te, pe, qe⟩ := he
  obtain ⟨tf, pf, qf⟩ := hf
  refine ⟨_, pe_dget2 hu po pe pf m, fun B σ H ρ st ml Q re rs h => ?_⟩
  refine qo B σ H ρ st ml _ re rs (good_bind h fun od s1 ov H1 m1 e1 r1 rs1 h1 => ?_)
  cases hd : dicV s1 od with
  | none => rw [hd] at h1; exact h1.elim
  | some kv1 =>
    rw [hd] at h1
    simp only at h1
    obtain ⟨a, vs1, rfl, hR, _⟩ := dicV_rep rs1 r1 hd
    refine ⟨a, rfl, .inl ⟨vs1, hR⟩, ?_⟩
    refine qe B σ H1 ρ s1 m1 _ (re.evo e1) rs1 (good_bind h1 fun kd s2 kv H2 m2 e2 r2 rs2 h2 => ?_)
    refine qf B σ H2 ρ s2 m2 _ (re.evo (e1.trans e2)) rs2 (good_bind h2 fun xd s3 xv H3 m3 e3 r3 rs3 h3 => ?_)
    cases hd3 : dicV s3 od with
    | none => rw [hd3] at h3; exact h3.elim
    | some kvs =>
      cases hk : keyD kd with
      | none => rw [hd3, hk] at h3; exact h3.elim
      | some k =>
        rw [hd3, hk] at h3
        simp only at h3
        obtain ⟨a', vs, ea, hR3, hP⟩ := dicV_rep rs3 (Rep.evo (e2.trans e3) _ _ r1) hd3
        cases ea
        cases keyD_rep r2 hk
        refine ⟨valV vs k, .inl ⟨vs, k, hR3, rfl, rfl⟩, ?_⟩
        cases hv : valD kvs k with
        | none =>
          rw [hP.val_none hv]
          rw [hv] at h3
          exact good_ok h3 r3 rs3
        | some d =>
          obtain ⟨v, h4, h5⟩ := hP.val_some hv
          rw [h4]
          rw [hv] at h3
          exact good_ok h3 h5 rs3
abbrev Fp := DEnv → Store → Res KD
structure DPp (X : Cx) (W : WX) (pos : Pos) (ks : List (Option Expr)) (vs : List Expr) (f : Fp) : Prop where
  ex : ∃ trs, PPs X pos ks vs trs ∧ ∀ (B : List Addr) (σ : Sg) (H : Hp) (ρ : DEnv) (st : Store) (m : List Addr) (Q : List (V × V) → Hp → Prop), RepE ⟨X.K, B⟩ H m ρ σ → RepSt ⟨X.K, B⟩ H m st →
    GoodR (fun H m (kvs : KD) (ps : List (V × V)) => ∃ vs : List (Key × V), ps = vs.map (fun kv => (kV kv.1, kv.2)) ∧ RepP ⟨X.K, B⟩ H m kvs vs) (f ρ st) Q (fun c d H' => W c d σ H') ⟨X.K, B⟩ H m → tPairs trs σ H Q
def pNil : Fp := fun _ st => .ok [] st
def pCons (fk fv : Fe) (f : Fp) : Fp := fun ρ st => (fk ρ st).bind fun kd s1 => match keyD kd with
  | some k => (fv ρ s1).bind fun d s2 => (f ρ s2).bind fun r s3 => .ok ((k, d) :: r) s3
  | none => .fail
theorem dpp_nil : DPp X W pos [] [] pNil := ⟨[], pps_nil, fun B σ H ρ st m Q re rs h => good_ok h ⟨[], rfl, rfl⟩ rs⟩
theorem dpp_cons {k v : Expr} {ks : List (Option Expr)} {vs : List Expr} {fk fv : Fe} {f : Fp} (hk : DE X W k fk) (hv : DE X W v fv) (h : DPp X W pos ks vs f) : DPp X W pos (some k :: ks) (v :: vs) (pCons fk fv f) := by
  obtain ⟨tk, pk, qk⟩ := hk
  obtain ⟨tv, pv, qv⟩ := hv
  obtain ⟨trs, p, q⟩ := h
  refine ⟨_, pps_cons pk pv p, fun B σ H ρ st m Q re rs h => ?_⟩
  refine qk B σ H ρ st m _ re rs (good_bind h fun kd s1 x H1 m1 e1 r1 rs1 h1 => ?_)
  cases hkd : keyD kd with
  | none => rw [hkd] at h1; exact h1.elim
  | some k =>
    rw [hkd] at h1
    simp only at h1
    cases keyD_rep r1 hkd
    refine qv B σ H1 ρ s1 m1 _ (re.evo e1) rs1 (good_bind h1 fun d s2 y H2 m2 e2 r2 rs2 h2 => ?_)
    refine q B σ H2 ρ s2 m2 _ (re.evo (e1.trans e2)) rs2 (good_bind h2 fun r s3 ps H3 m3 e3 r3 rs3 h3 => ?_)
    obtain ⟨ws, rfl, hw⟩ := r3
    exact good_ok h3 ⟨(k, y) :: ws, rfl, y, ws, rfl, Rep.evo e3 _ _ r2, hw⟩ rs3
def xDisp (f : Fp) : Fe := fun ρ st => (f ρ st).bind fun kvs s1 => if kvs.length ≤ 15 then .ok (dctOf (mergeD [] kvs)) s1 else .fail
theorem de_disp {ks : List (Option Expr)} {vs : List Expr} {f : Fp} (h : DPp X W pos ks vs f) (hall : ks.all (·.isSome) = true := by rfl) (hl : ks.length = vs.length := by rfl) (h0 : ks ≠ [] := by intro z; cases z) (h15 : ks.length ≤ 15 := by decide) : DE X W (.Dict ks vs pos) (xDisp f) := by
  obtain ⟨trs, p, q⟩ := h
  refine ⟨_, pe_lk (pe_disp p hall hl h0 h15), fun B σ H ρ st m Q re rs h p hp => ?_⟩
  have g : Grow H (upd H p (.dK [])) := Grow.upd hp
  have rs0 : RepSt ⟨X.K, p :: B⟩ (upd H p (.dK [])) m st := rs.banB hp
  have reB : RepE ⟨X.K, p :: B⟩ (upd H p (.dK [])) m ρ σ := (re.ban fun b hb => (List.mem_cons.mp hb).elim (fun z => .inr (by rw [z]; exact hp)) .inl).evo g.evo
  refine q (p :: B) σ (upd H p (.dK [])) ρ st m _ reB rs0 ?_
  unfold xDisp at h
  cases er : f ρ st with
  | fail => rw [er] at h; exact h.elim
  | exc c fs s1 =>
    rw [er] at h
    intro dx H' m' e1 rx rs1
    refine h dx H' m' (g.evo.trans e1) ?_ rs1.weakB
    cases fs with
    | none => exact rx
    | some l =>
      obtain ⟨a, vs, x1, x2, x3, x4⟩ := rx
      exact ⟨a, vs, x1, x2, x3, x4.ban fun b hb => .inl (List.mem_cons_of_mem _ hb)⟩
  | ok kvs s1 =>
    rw [er] at h
    simp only [Res.bind_ok] at h
    intro ps H1 m1 e1 r1 rs1
    obtain ⟨ws, rfl, hw⟩ := r1
    have hH1 : H1 p = some (.dK []) ∧ p ∉ m1 := e1.keep p _ upd_same (rs.fresh hp) (fun _ z => nomatch z)
    split at h
    · rename_i hz
      refine ⟨hH1.1, ws, rfl, by rw [← hw.length]; exact hz, p, _, rfl, upd_same, fun o => ?_⟩
      rw [upd_upd]
      have hnf : ∀ o' u', H1 p ≠ some (.frz o' u') := fun _ _ z => by rw [hH1.1] at z; cases z
      have up : ∀ {u : HO}, (∀ ps, u ≠ .tbl ps) → RepSt ⟨X.K, p :: B⟩ (upd H1 p u) m1 s1 := fun {u} hu => by
        refine ⟨fun b hb => ?_, rs1.len, rs1.nd, fun l c q => ?_, fun p' hp' => ?_⟩
        · obtain ⟨⟨u', e, z0⟩, n⟩ := rs1.ban b hb
          refine ⟨?_, n⟩
          by_cases z : b = p
          · rw [z]; exact ⟨_, upd_same, hu⟩
          · exact ⟨u', by rw [upd_ne z]; exact e, z0⟩
        · obtain ⟨a, h1, h2⟩ := rs1.cell l c q
          have ha : a ≠ p := fun z => hH1.2 (by rw [← z]; exact List.mem_of_getElem? h1)
          refine ⟨a, h1, ?_⟩
          cases c with
          | lst ds => obtain ⟨vs, x, y⟩ := h2; exact ⟨vs, by rw [upd_ne ha]; exact x, y.updB (by simp) hnf⟩
          | dic kvs => obtain ⟨vs, x, y⟩ := h2; exact ⟨vs, by rw [upd_ne ha]; exact x, y.updB (by simp) hnf⟩
          | dik kvs => obtain ⟨o2, vs, x, y⟩ := h2; exact ⟨o2, vs, by rw [upd_ne ha]; exact x, y.updB (by simp) hnf⟩
          | ins C fs =>
            obtain ⟨dx, vs, x, z, n, nb, y⟩ := h2
            exact ⟨dx, vs, by rw [upd_ne ha]; exact x, by rw [upd_ne (fun w => nb (by rw [w]; simp))]; exact z, n, nb, y.updB (by simp) hnf⟩
        · obtain ⟨ps, h1, n1, h2, h3⟩ := rs1.tabs p' hp'
          refine ⟨ps, by rw [upd_ne (fun z => by rw [z, hH1.1] at h1; cases h1)]; exact h1, n1, h2, fun pos cv hc => ?_⟩
          obtain ⟨c, x1, x2, x3⟩ := h3 pos cv hc
          exact ⟨c, x1, by rw [upd_ne (fun z => by rw [z, hH1.1] at x2; exact codeO_dK _ (Option.some.inj x2).symm)]; exact x2, x3⟩
      have rs2 := up (u := .frz o (.dK (mergeK [] ws))) (fun _ z => nomatch z)
      have hm2 : RepP ⟨X.K, p :: B⟩ (upd H1 p (.frz o (.dK (mergeK [] ws)))) m1 (mergeD [] kvs) (mergeK [] ws) := RepP.updB (by simp) hnf (RepP.merge (kvs := []) (vs := []) rfl hw)
      have hm3 : RepP ⟨X.K, B⟩ (upd H1 p (.frz o (.dK (mergeK [] ws)))) m1 (mergeD [] kvs) (mergeK [] ws) := hm2.ban fun b hb => .inl (List.mem_cons_of_mem _ hb)
      obtain ⟨u1, u2⟩ := RepP.unzip hm3
      have ev : Evo H m (upd H1 p (.frz o (.dK (mergeK [] ws)))) m1 := by
        refine ⟨(g.evo.trans e1).ext, fun a u x n z => ?_, fun p' hp' t => rs2.tabs p' hp', fun a o' u x => by rw [upd_ne (fun w => by rw [w, hp] at x; cases x)]; exact (g.evo.trans e1).frz a o' u x⟩
        obtain ⟨x1, x2⟩ := (g.evo.trans e1).keep a u x n z
        exact ⟨by rw [upd_ne (fun w => by rw [w, hp] at x; cases x)]; exact x1, x2⟩
      refine h (.ref p) _ m1 ev ?_ rs2.weakB
      refine Rep.dct_iff.mpr ⟨p, _, rfl, ⟨o, ?_⟩, by simp, u1⟩
      rw [← u2]
      exact upd_same
    · exact h.elim
end
end DL
namespace DL
open PySem PySem.Spec PyProof.Rows L2
variable [TabsCtx]
section
variable {K : PySem.W.Frag} {B : List Addr} {H1 : Hp} {m1 : List Addr} {a : Addr} {o : Obj} {ks : List Key} {vs : List V} {ds : List D} {s1 : Store}
theorem zip_get {ks : List Key} {vs : List V} {i : Nat} {k : Key} {v : V} (h : (ks.zip vs)[i]? = some (k, v)) : ks[i]? = some k ∧ vs[i]? = some v := by
  rw [List.getElem?_zip_eq_some] at h
  exact h
theorem it_keys (ha : H1 a = some (.frz o (.dK (ks.zip vs)))) (hl : ks.length = vs.length) : ItRep K B (Itk a o (ks.zip vs)) (ks.map keyTo) [] s1 H1 m1 := by
  have st : ∀ {H : Hp} {m : List Addr}, Evo H1 m1 H m → H a = some (.frz o (.dK (ks.zip vs))) := fun e => e.frz a _ _ ha
  have hz : (ks.zip vs).length = ks.length := by simp [hl]
  refine ⟨fun B' i H m st' hb hi e rs _ => ⟨st e, by rw [hz]; simpa using hi⟩, fun B' H m st' hb e rs _ => ⟨st e, by rw [hz]; simp⟩, fun B' i d H m st' x H' hb hi e rs _ y => ?_⟩
  obtain ⟨rfl, k, v, q, rfl⟩ := y
  rw [List.getElem?_map, (zip_get q).1] at hi
  cases hi
  exact ⟨Grow.refl, keyTo_rep k⟩
theorem it_vals (ha : H1 a = some (.frz o (.dK (ks.zip vs)))) (hl : ks.length = vs.length) (r : RepL ⟨K, B⟩ H1 m1 ds vs) : ItRep K B (Itd a o (ks.zip vs)) ds [] s1 H1 m1 := by
  have st : ∀ {H : Hp} {m : List Addr}, Evo H1 m1 H m → H a = some (.frz o (.dK (ks.zip vs))) := fun e => e.frz a _ _ ha
  have hz : (ks.zip vs).length = vs.length := by simp [hl]
  refine ⟨fun B' i H m st' hb hi e rs _ => ⟨st e, by rw [hz, ← r.length]; exact hi⟩, fun B' H m st' hb e rs _ => ⟨st e, by rw [hz, ← r.length]; exact Nat.le_refl _⟩, fun B' i d H m st' x H' hb hi e rs _ y => ?_⟩
  obtain ⟨rfl, k, q⟩ := y
  obtain ⟨v, h1, h2⟩ := r.get hi
  rw [(zip_get q).2] at h1
  cases h1
  exact ⟨Grow.refl, Rep.evo e _ _ (h2.ban hb)⟩
def pairsD (ks : List Key) (ds : List D) : List D := (ks.zip ds).map fun p => .tup [keyTo p.1, p.2]
theorem it_items (ha : H1 a = some (.frz o (.dK (ks.zip vs)))) (hl : ks.length = vs.length) (r : RepL ⟨K, B⟩ H1 m1 ds vs) : ItRep K B (Iti a o (ks.zip vs)) (pairsD ks ds) [] s1 H1 m1 := by
  have st : ∀ {H : Hp} {m : List Addr}, Evo H1 m1 H m → H a = some (.frz o (.dK (ks.zip vs))) := fun e => e.frz a _ _ ha
  have hz : (ks.zip vs).length = vs.length := by simp [hl]
  have hp : (pairsD ks ds).length = vs.length := by simp [pairsD, hl, r.length]
  refine ⟨fun B' i H m st' hb hi e rs _ => ⟨st e, by rw [hz, ← hp]; exact hi⟩, fun B' H m st' hb e rs _ => ⟨st e, by rw [hz, ← hp]; exact Nat.le_refl _⟩, fun B' i d H m st' x H' hb hi e rs _ y => ?_⟩
  obtain ⟨T, k, v, q, rfl, hT, rfl⟩ := y
  obtain ⟨q1, q2⟩ := zip_get q
  obtain ⟨d2, h1, h2⟩ := r.getV q2
  have hd : d = .tup [keyTo k, d2] := by
    unfold pairsD at hi
    rw [List.getElem?_map] at hi
    have : (ks.zip ds)[i]? = some (k, d2) := by rw [List.getElem?_zip_eq_some]; exact ⟨q1, h1⟩
    rw [this] at hi
    exact (Option.some.inj hi).symm
  subst hd
  exact ⟨Grow.upd hT, Rep.newT rs hT (.cons (keyTo_rep k) (.cons (Rep.evo e _ _ (h2.ban hb)) .nil))⟩
end
section
variable {X : Cx} {W : WX} {pos apos cpos : Pos} {e tg : Expr} {fe : Fe}
theorem PI.or {tg e : Expr} {t t' : TI} (h : PI X tg e t) (h' : PI X tg e t') : PI X tg e (fun σ H R => t σ H R ∨ t' σ H R) := by
  refine ⟨fun pins s σ H R I q => ?_⟩
  rcases q with q | q
  · exact h.run pins s σ H R I q
  · exact h'.run pins s σ H R I q
/-- a list, a tuple, a dict walked -/
def iOfM (f : Fe) : Fi := fun ρ st => (f ρ st).bind fun d s1 => match d with
  | .dct ks ds => .ok (ks.map keyTo, []) s1
  | d => liftI (seqI s1 d) s1
theorem di_seqM (h : DE X W e fe) : DI X W tg e (iOfM fe) := by
  obtain ⟨⟨t1, p1, q1⟩⟩ := di_seq (tg := tg) h
  obtain ⟨t, p, q⟩ := h
  refine ⟨_, PI.or p1 (pi_keys p), fun B σ H ρ st m R re rs h => ?_⟩
  cases er : fe ρ st with
  | fail => unfold iOfM at h; rw [er] at h; exact h.elim
  | exc c fs s1 => exact .inl (q1 B σ H ρ st m R re rs (by unfold iOfM at h; unfold iOf; rw [er] at h ⊢; exact h))
  | ok d s1 =>
    cases d with
    | dct ks ds =>
      refine .inr (q B σ H ρ st m _ re rs ?_)
      unfold iOfM at h
      rw [er] at h ⊢
      simp only [Res.bind_ok] at h
      intro v H1 m1 e1 r1 rs1
      obtain ⟨a, vs, rfl, ⟨o, ha⟩, hl, rl⟩ := Rep.dct_iff.mp r1
      exact ⟨a, o, rfl, .inl ⟨_, ha, h _ H1 m1 e1 rs1 (it_keys ha (by rw [hl, rl.length]))⟩⟩
    | _ => exact .inl (q1 B σ H ρ st m R re rs (by unfold iOfM at h; unfold iOf; rw [er] at h ⊢; exact h))
def iVal (f : Fe) : Fi := fun ρ st => (f ρ st).bind fun d s1 => match d with
  | .dct ks ds => .ok (ds, []) s1
  | _ => .fail
theorem di_vals (h : DE X W e fe) (hbase : attributeBase e "values" X.env (eval e X.env) = eval e X.env := by rfl) (hline : (apos.endLine == cpos.line) = true := by rfl) : DI X W tg (.Call (.Attribute e "values" apos) [] [] cpos) (iVal fe) := by
  obtain ⟨t, p, q⟩ := h
  refine ⟨_, pi_values p hbase hline, fun B σ H ρ st m R re rs h => ?_⟩
  refine q B σ H ρ st m _ re rs (good_bindI h fun d s1 x H1 m1 e1 r1 rs1 h1 => ?_)
  cases d with
  | dct ks ds =>
    obtain ⟨a, vs, rfl, ⟨o, ha⟩, hl, rl⟩ := Rep.dct_iff.mp r1
    exact ⟨a, o, _, rfl, ha, h1 _ H1 m1 .refl rs1 (it_vals ha (by rw [hl, rl.length]) rl)⟩
  | _ => exact h1.elim
def iItm (f : Fe) : Fi := fun ρ st => (f ρ st).bind fun d s1 => match d with
  | .dct ks ds => .ok (pairsD ks ds, []) s1
  | _ => .fail
theorem di_items {elts : List Expr} {kk : Nat} {tpos : Pos} (h : DE X W e fe) (hbase : attributeBase e "items" X.env (eval e X.env) = eval e X.env := by rfl) (hline : (apos.endLine == cpos.line) = true := by rfl) : DI X W (.Tuple elts kk tpos) (.Call (.Attribute e "items" apos) [] [] cpos) (iItm fe) := by
  obtain ⟨t, p, q⟩ := h
  refine ⟨_, pi_items p hbase hline, fun B σ H ρ st m R re rs h => ?_⟩
  refine q B σ H ρ st m _ re rs (good_bindI h fun d s1 x H1 m1 e1 r1 rs1 h1 => ?_)
  cases d with
  | dct ks ds =>
    obtain ⟨a, vs, rfl, ⟨o, ha⟩, hl, rl⟩ := Rep.dct_iff.mp r1
    exact ⟨a, o, _, rfl, ha, h1 _ H1 m1 .refl rs1 (it_items ha (by rw [hl, rl.length]) rl)⟩
  | _ => exact h1.elim
end
def ltS (a b : Str) : Bool := decide (a.cps.toList < b.cps.toList)
def insS (x : Str) : List Str → List Str
  | [] => [x]
  | y :: r => if ltS y x = true then y :: insS x r else x :: y :: r
def srtS (xs : List Str) : List Str := xs.foldr insS []
def leS (a b : Str) : Prop := a.cps.toList ≤ b.cps.toList
theorem leS_antisymm {a b : Str} (h : leS a b) (h' : leS b a) : a = b := by
  have e : a.cps.toList = b.cps.toList := List.le_antisymm h h'
  obtain ⟨x⟩ := a
  obtain ⟨y⟩ := b
  simp only at e
  rw [Array.ext' e]
theorem leS_trans {a b c : Str} (h : leS a b) (h' : leS b c) : leS a c := List.le_trans h h'
theorem leS_of_not {a b : Str} (h : ltS a b = false) : leS b a := by
  unfold ltS at h
  exact List.not_lt.mp (of_decide_eq_false h)
theorem leS_of_lt {a b : Str} (h : ltS a b = true) : leS a b := by
  unfold ltS at h
  exact List.le_of_lt (of_decide_eq_true h)
theorem insS_perm (x : Str) : ∀ l : List Str, (insS x l).Perm (x :: l)
  | [] => .refl _
  | y :: r => by
    unfold insS
    split
    · exact ((insS_perm x r).cons y).trans (.swap x y r)
    · exact .refl _
theorem srtS_perm : ∀ l : List Str, (srtS l).Perm l
  | [] => .refl _
  | x :: l => (insS_perm x (srtS l)).trans ((srtS_perm l).cons x)
theorem insS_sorted (x : Str) : ∀ l : List Str, l.Pairwise leS → (insS x l).Pairwise leS
  | [], _ => by simp [insS]
  | y :: r, h => by
    unfold insS
    obtain ⟨h1, h2⟩ := List.pairwise_cons.mp h
    split
    · rename_i hy
      refine List.pairwise_cons.mpr ⟨fun z hz => ?_, insS_sorted x r h2⟩
      rcases List.mem_cons.mp ((insS_perm x r).mem_iff.mp hz) with e | e
      · rw [e]; exact leS_of_lt hy
      · exact h1 z e
    · rename_i hy
      have hx : leS x y := leS_of_not (by simpa using hy)
      refine List.pairwise_cons.mpr ⟨fun z hz => ?_, h⟩
      rcases List.mem_cons.mp hz with e | e
      · rw [e]; exact hx
      · exact leS_trans hx (h1 z e)
theorem srtS_sorted : ∀ l : List Str, (srtS l).Pairwise leS
  | [] => .nil
  | x :: l => insS_sorted x (srtS l) (srtS_sorted l)
theorem risingS_le {x : Str} : ∀ {l : List Str}, risingS x l = true → (x :: l).Pairwise leS
  | [], _ => by simp
  | y :: r, h => by
    unfold risingS at h
    rw [Bool.and_eq_true] at h
    have ih := risingS_le h.2
    have hxy : leS x y := leS_of_not (by
      unfold ltS
      rw [← ltCps_eq]
      simpa using h.1)
    refine List.pairwise_cons.mpr ⟨fun z hz => ?_, ih⟩
    rcases List.mem_cons.mp hz with e | e
    · rw [e]; exact hxy
    · exact leS_trans hxy ((List.pairwise_cons.mp ih).1 z e)
theorem sortedS_le : ∀ {l : List Str}, sortedS l = true → l.Pairwise leS
  | [], _ => .nil
  | x :: l, h => risingS_le h
theorem sortedS_one {ys xs : List Str} (p : ys.Perm xs) (h : sortedS ys = true) : ys = srtS xs :=
  (p.trans (srtS_perm xs).symm).eq_of_pairwise (fun x y _ _ h h' => leS_antisymm h h') (sortedS_le h) (srtS_sorted xs)
def dStrs : List D → Option (List Str)
  | [] => some []
  | .str i :: ds => (dStrs ds).map (i :: ·)
  | _ => none
theorem dStrs_rep {K : KB} {H : Hp} {m : List Addr} : ∀ {ds : List D} {vs : List V} {ns : List Str}, RepL K H m ds vs → dStrs ds = some ns → vs = ns.map V.str
  | [], _, _, r, h => by cases h; exact r.inv_nil
  | d :: ds, _, _, r, h => by
    cases d with
    | str i =>
      obtain ⟨v, vr, rfl, r1, r2⟩ := r.inv_cons
      cases Rep.str_iff.mp r1
      obtain ⟨ms, h2, rfl⟩ := Option.map_eq_some_iff.mp h
      rw [dStrs_rep r2 h2]; rfl
    | _ => cases h
theorem RepL.strs {K : KB} {H : Hp} {m : List Addr} : ∀ ns : List Str, RepL K H m (ns.map D.str) (ns.map V.str)
  | [] => .nil
  | n :: ns => .cons (Rep.str_iff.mpr rfl) (RepL.strs ns)
def kStrs : List Key → Option (List Str)
  | [] => some []
  | .inr x :: r => (kStrs r).map (x :: ·)
  | .inl _ :: _ => none
theorem kStrs_eq : ∀ {ks : List Key} {xs : List Str}, kStrs ks = some xs → ks = xs.map Sum.inr
  | [], _, h => by cases h; rfl
  | .inr x :: r, _, h => by
    obtain ⟨ms, h2, rfl⟩ := Option.map_eq_some_iff.mp h
    rw [kStrs_eq h2]; rfl
  | .inl _ :: _, _, h => nomatch h
/-- sorted of ints, of texts, of a dict's names -/
def gSortM : GL := fun st ds => match ds with
  | [.dct ks vs] => (kStrs ks).bind fun xs => if xs.length < 64 ∧ ks.length = vs.length then some (.lst ((srtS xs).map D.str)) else none
  | [d] => (lstV st d).bind fun xs => match dStrs xs with
    | some ns => if ns.length < 64 ∧ ns ≠ [] then some (.lst ((srtS ns).map D.str)) else gSortI st [d]
    | none => gSortI st [d]
  | _ => none
section
variable {X : Cx} {W : WX}
theorem dc_sortM (hc : X.calm = true) : DCall X (.builtin "sorted") gSortM := by
  obtain ⟨r0, c0, q0⟩ := (dc_sortI (X := X))
  refine ⟨_, c0.or ((call_sortedD hc).or cr_sortedS), fun B xs H m st ds d Q rs r h q => ?_⟩
  unfold gSortM at h
  split at h
  · rename_i ks vs
    obtain ⟨v, rfl, r1⟩ := one_inv r
    obtain ⟨ns, h1, h⟩ := Option.bind_eq_some_iff.mp h
    split at h
    · rename_i hz
      cases h
      obtain ⟨a, ws, rfl, ⟨o, ha⟩, hl, rl⟩ := Rep.dct_iff.mp r1
      refine .inr (.inl ⟨a, _, ns, rfl, .inr ⟨o, ha⟩, ?_, hz.1, fun ys p hp hs hn => ?_⟩)
      · rw [← kStrs_eq h1]
        exact List.map_fst_zip (by rw [hl, rl.length]; exact Nat.le_refl _)
      · rw [sortedS_one hp hs]
        exact q _ _ (Grow.upd hn) (Rep.newL rs hn (RepL.strs _))
    · cases h
  · rename_i d1 _
    obtain ⟨xs1, h1, h2⟩ := Option.bind_eq_some_iff.mp h
    split at h2
    · rename_i ns hns
      split at h2
      · rename_i hz
        cases h2
        obtain ⟨v, rfl, r1⟩ := one_inv r
        obtain ⟨a, vs, rfl, hs, rl⟩ := lstV_rep rs r1 h1
        cases dStrs_rep rl hns
        refine .inr (.inr ⟨a, ns, rfl, hs, hz.1, fun ys p hp hs hn => ?_⟩)
        rw [sortedS_one hp hs]
        exact q _ _ (Grow.upd hn) (Rep.newL rs hn (RepL.strs _))
      · exact .inl (q0 B xs H m st _ d Q rs r h2 q)
    · exact .inl (q0 B xs H m st _ d Q rs r h2 q)
  · cases h
/-- pairs of a key and a value -/
def prsD : List D → Option KD
  | [] => some []
  | .tup [k, d] :: r => (keyD k).bind fun j => (prsD r).map fun t => (j, d) :: t
  | _ => none
theorem prsD_rep {K : PySem.W.Frag} {B : List Addr} {H : Hp} {m : List Addr} : ∀ {ds : List D} {vs : List V} {kvs : KD}, RepL ⟨K, B⟩ H m ds vs → prsD ds = some kvs →
    ∃ ps ws, vs = ps.map V.ref ∧ Paired (fun p (kv : Key × V) => SqT K H p [kV kv.1, kv.2]) ps ws ∧ RepP ⟨K, B⟩ H m kvs ws
  | [], _, _, r, h => by cases h; rw [r.inv_nil]; exact ⟨[], [], rfl, .nil, rfl⟩
  | d :: ds, _, kvs, r, h => by
    obtain ⟨v, vr, rfl, r1, r2⟩ := r.inv_cons
    unfold prsD at h
    split at h
    · rename_i heq
      cases heq
    · rename_i heq
      injection heq with e1 e2
      subst e1 e2
      obtain ⟨j, h1, h⟩ := Option.bind_eq_some_iff.mp h
      obtain ⟨t, h2, rfl⟩ := Option.map_eq_some_iff.mp h
      obtain ⟨ps, ws, rfl, hp, hw⟩ := prsD_rep r2 h2
      obtain ⟨a, xs, rfl, hs, rl⟩ := r1.tup_sq
      obtain ⟨x, t1, rfl, ra, rl⟩ := rl.inv_cons
      obtain ⟨y, t2, rfl, rb, rl⟩ := rl.inv_cons
      cases rl.inv_nil
      cases keyD_rep ra h1
      exact ⟨a :: ps, (j, y) :: ws, rfl, .cons hs hp, y, ws, rfl, rb, hw⟩
    · cases h
def gDict : GL := fun st ds => match ds with
  | [.dct ks vs] => if ks.length = vs.length then some (.dct ks vs) else none
  | [d] => (lstV st d).bind fun xs => (prsD xs).map fun kvs => dctOf (mergeD [] kvs)
  | _ => none
def tDictC (X : Cx) : List V → Hp → VK → Prop := fun xs H Q => (∃ (a : Addr) (ps : List Addr) (kvs : List (Key × V)), xs = [.ref a] ∧ SqL X.K H a (ps.map V.ref) ∧ Paired (fun p kv => SqT X.K H p [kV kv.1, kv.2]) ps kvs ∧
    ∀ p, H p = none → Q (.ref p) (upd H p (.dK (mergeK [] kvs)))) ∨ ∃ a kvs, xs = [.ref a] ∧ Rd H a (.dK kvs) ∧ ∀ p, H p = none → Q (.ref p) (upd H p (.dK kvs))
/-- a call's new dict is held -/
theorem callR_lk {f : Value} {r : List V → Hp → VK → Prop} (h : CallR X f r) : CallR X f (fun xs H Q => r xs H fun v H1 => ∃ p kvs, v = .ref p ∧ H1 p = some (.dK kvs) ∧ ∀ o, Q v (upd H1 p (.frz o (.dK kvs)))) := by
  intro pins s σ H xs us Q I rv q
  refine thn (h pins s σ H xs us _ I rv q) fun v s1 ⟨x, H1, I1, r, p, kvs, ex, hp, q⟩ => ?_
  obtain ⟨od, I2⟩ := I1.lock hp True.intro
  exact ⟨x, _, I2, r, q od⟩
theorem call_dictC (hc : X.calm = true) : CallR X (.type "dict") (tDictC X) := by
  intro pins s σ H xs us Q I r q
  rcases q with q | ⟨a, kvs, rfl, hR, q⟩
  · exact call_dictP hc pins s σ H xs us Q I r q
  · obtain ⟨u, rfl, ru⟩ := r.one
    obtain rfl : u = Value.ref a := ru
    exact d_copyOf I hR fun p s' hp I' => ⟨.ref p, _, I', rfl, q p hp⟩
theorem dc_dict (hc : X.calm = true) : DCall X (.type "dict") gDict := by
  refine ⟨_, callR_lk (call_dictC hc), fun B xs H m st ds d Q rs r h q => ?_⟩
  unfold gDict at h
  split at h
  · rename_i ks vs
    split at h
    · cases h
      obtain ⟨v, rfl, r1⟩ := one_inv r
      obtain ⟨a, ws, rfl, ⟨o, ha⟩, hl, rl⟩ := Rep.dct_iff.mp r1
      refine .inr ⟨a, _, rfl, .inr ⟨o, ha⟩, fun p hp => ⟨p, _, rfl, upd_same, fun o' => ?_⟩⟩
      rw [upd_upd]
      exact q _ _ (Grow.upd hp) (Rep.newD rs hp hl rl)
    · cases h
  · rename_i d1 _
    obtain ⟨ys, h1, h⟩ := Option.bind_eq_some_iff.mp h
    obtain ⟨kvs, h2, rfl⟩ := Option.map_eq_some_iff.mp h
    obtain ⟨v, rfl, r1⟩ := one_inv r
    obtain ⟨a, vs, rfl, hs, rl⟩ := lstV_rep rs r1 h1
    obtain ⟨ps, ws, rfl, hp, hw⟩ := prsD_rep rl h2
    refine .inl ⟨a, ps, ws, rfl, hs, hp, fun p hn => ⟨p, _, rfl, upd_same, fun o' => ?_⟩⟩
    rw [upd_upd]
    exact q _ _ (Grow.upd hn) (Rep.newDK rs hn (RepP.merge (kvs := []) (vs := []) rfl hw))
  · cases h
end
end DL
namespace DL
open PySem PySem.Spec PyProof.Rows L2
variable [TabsCtx]
section
variable {K : PySem.W.Frag} {B : List Addr} {H : Hp} {m : List Addr} {p : Addr} {o : HO}
theorem TabM.updK {kvs : List (Key × V)} {P : Addr} {q : Str} (t : TabM H m P q) (hl : H p = some (.dK kvs)) : TabM (upd H p o) m P q := by
  obtain ⟨ps, h1, n1, h2, h3⟩ := t
  refine ⟨ps, by rw [upd_ne (fun z => by rw [z, hl] at h1; cases h1)]; exact h1, n1, h2, fun pos cv hc => ?_⟩
  obtain ⟨c, e1, e2, n2⟩ := h3 pos cv hc
  exact ⟨c, e1, by rw [upd_ne (fun z => by rw [z, hl] at e2; exact codeO_dK _ (Option.some.inj e2).symm)]; exact e2, n2⟩
theorem Evo.updK {H4 : Hp} {m4 : List Addr} {kvs : List (Key × V)} (e : Evo H m H4 m4) (hD : H p = none) (hl : H4 p = some (.dK kvs)) : Evo H m (upd H4 p o) m4 :=
  ⟨e.ext, fun a u q n z => ⟨by rw [upd_ne (fun z => by rw [z, hD] at q; cases q)]; exact (e.keep a u q n z).1, (e.keep a u q n z).2⟩, fun p hp t => (e.tabs p hp t).updK hl, fun a o' u q => by rw [upd_ne (fun z => by rw [z, hD] at q; cases q)]; exact e.frz a o' u q⟩
/-- a dict under way is written -/
theorem RepSt.updK {st : Store} {kvs : List (Key × V)} (rs : RepSt ⟨K, B⟩ H m st) (hp : p ∈ B) (hl : H p = some (.dK kvs)) (ho : ∀ ps, o ≠ .tbl ps := by intro _ z; cases z) : RepSt ⟨K, B⟩ (upd H p o) m st := by
  obtain ⟨_, hn⟩ := rs.ban p hp
  refine ⟨fun b hb => ?_, rs.len, rs.nd, fun l c q => ?_, fun p' hp' => (rs.tabs p' hp').updK hl⟩
  · obtain ⟨⟨u, e, z0⟩, n⟩ := rs.ban b hb
    refine ⟨?_, n⟩
    by_cases z : b = p
    · rw [z]; exact ⟨_, upd_same, ho⟩
    · exact ⟨u, by rw [upd_ne z]; exact e, z0⟩
  · obtain ⟨a, h1, h2⟩ := rs.cell l c q
    have ha : a ≠ p := fun z => hn (by rw [← z]; exact List.mem_of_getElem? h1)
    refine ⟨a, h1, ?_⟩
    cases c with
    | lst ds => obtain ⟨vs, x, y⟩ := h2; exact ⟨vs, by rw [upd_ne ha]; exact x, y.updB hp (fun _ _ z => by rw [hl] at z; cases z)⟩
    | dic kvs => obtain ⟨vs, x, y⟩ := h2; exact ⟨vs, by rw [upd_ne ha]; exact x, y.updB hp (fun _ _ z => by rw [hl] at z; cases z)⟩
    | dik kvs => obtain ⟨o2, vs, x, y⟩ := h2; exact ⟨o2, vs, by rw [upd_ne ha]; exact x, y.updB hp (fun _ _ z => by rw [hl] at z; cases z)⟩
    | ins C fs =>
      obtain ⟨dx, vs, x, z, n, nb, y⟩ := h2
      exact ⟨dx, vs, by rw [upd_ne ha]; exact x, by rw [upd_ne (fun w => nb (by rw [w]; exact hp))]; exact z, n, nb, y.updB hp (fun _ _ z => by rw [hl] at z; cases z)⟩
end
def dcD (g : Fg) (t : Ft) (fk fv : Fe) (ws : List Nat) (s1 : Store) (ρ : DEnv) : List D → KD → Store → Res KD
  | [], acc, st => .ok acc st
  | d :: ds, acc, st => match g d ρ with
    | none => .fail
    | some ρ1 => match t ρ1 st with
      | .ok true s2 => match fk ρ1 s2 with
        | .ok kd s3 => match keyD kd with
          | some k => match fv ρ1 s3 with
            | .ok x s4 => if sameAt ws s1 s4 = true ∧ acc.length < sizeLine then dcD g t fk fv ws s1 ρ ds (putD acc k x) s4 else .fail
            | _ => .fail
          | none => .fail
        | _ => .fail
      | .ok false s2 => if sameAt ws s1 s2 = true then dcD g t fk fv ws s1 ρ ds acc s2 else .fail
      | _ => .fail
theorem dcD_exc (g : Fg) (t : Ft) (fk fv : Fe) (ws : List Nat) (s1 : Store) (ρ : DEnv) : ∀ (l : List D) (acc : KD) (s : Store) c fs t', dcD g t fk fv ws s1 ρ l acc s ≠ .exc c fs t'
  | [], acc, s, c, fs, t', h => by cases h
  | d :: l, acc, s, c, fs, t', h => by
    unfold dcD at h
    split at h
    · cases h
    · split at h
      · split at h
        · split at h
          · split at h
            · split at h
              · exact dcD_exc g t fk fv ws s1 ρ l _ _ _ _ _ h
              · cases h
            · cases h
          · cases h
        · cases h
      · split at h
        · exact dcD_exc g t fk fv ws s1 ρ l _ _ _ _ _ h
        · cases h
      · cases h
def xDcF (fi : Fi) (g : Fg) (t : Ft) (fk fv : Fe) (vs : List Nat) : DEnv → Store → Res KD := fun ρ st => (fi ρ st).bind fun p s1 => if sameAt p.2 s1 s1 = true then dcD g t fk fv p.2 s1 (wipeD ρ vs) p.1 [] s1 else .fail
def xDc (fi : Fi) (g : Fg) (t : Ft) (fk fv : Fe) (vs : List Nat) : Fe := fun ρ st => (xDcF fi g t fk fv vs ρ st).bind fun kvs s1 => .ok (dctOf kvs) s1
def xDcN (fi : Fi) (g : Fg) (t : Ft) (fk fv : Fe) (vs : List Nat) : Fe := fun ρ st => (xDcF fi g t fk fv vs ρ st).bind fun kvs s1 => .ok (.loc s1.length) (s1 ++ [.dic kvs])
section
variable {X : Cx} {W : WX} {fi : Fi} {g : Fg} {is : List Nat} {ft : Ft} {fk fv : Fe}
theorem dc_run {wi : TI} {tgr : TG} {tt : TT} {tk tv : TE} {vs : List Nat} (his : ∀ i ∈ is, i ∈ vs)
    (qi : ∀ (B : List Addr) (σ : Sg) (H : Hp) (ρ : DEnv) (st : Store) (m : List Addr) (R : It → Hp → Prop), RepE ⟨X.K, B⟩ H m ρ σ → RepSt ⟨X.K, B⟩ H m st → GoodI (fi ρ st) R (fun c d H' => W c d σ H') X.K B H m → wi σ H R)
    (qg : ∀ (B : List Addr) (v : V) (σ : Sg) (H : Hp) (ρ ρ' : DEnv) (m : List Addr) (d : D) (Q : Sg → Hp → Prop), RepE ⟨X.K, B⟩ H m ρ σ → Rep ⟨X.K, B⟩ H m d v → g d ρ = some ρ' →
      (∀ σ', RepE ⟨X.K, B⟩ H m ρ' σ' → (∀ vs, (∀ i ∈ is, i ∈ vs) → L2.wipe σ' vs = L2.wipe σ vs) → Q σ' H) → tgr v σ H Q)
    (qt : ∀ (B : List Addr) (σ : Sg) (H : Hp) (ρ : DEnv) (st : Store) (m : List Addr) (Q : Bool → Hp → Prop), RepE ⟨X.K, B⟩ H m ρ σ → RepSt ⟨X.K, B⟩ H m st → GoodR RB (ft ρ st) Q (fun c d H' => False) ⟨X.K, B⟩ H m → tt σ H Q)
    (qk : ∀ (B : List Addr) (σ : Sg) (H : Hp) (ρ : DEnv) (st : Store) (m : List Addr) (Q : VK), RepE ⟨X.K, B⟩ H m ρ σ → RepSt ⟨X.K, B⟩ H m st → GoodR (Rep ⟨X.K, B⟩) (fk ρ st) Q (fun c d H' => False) ⟨X.K, B⟩ H m → tk σ H Q)
    (qv : ∀ (B : List Addr) (σ : Sg) (H : Hp) (ρ : DEnv) (st : Store) (m : List Addr) (Q : VK), RepE ⟨X.K, B⟩ H m ρ σ → RepSt ⟨X.K, B⟩ H m st → GoodR (Rep ⟨X.K, B⟩) (fv ρ st) Q (fun c d H' => False) ⟨X.K, B⟩ H m → tv σ H Q)
    (B : List Addr) (σ : Sg) (H : Hp) (ρ : DEnv) (st : Store) (m : List Addr) (Q : VK) (re : RepE ⟨X.K, B⟩ H m ρ σ) (rs : RepSt ⟨X.K, B⟩ H m st)
    (hexc : ∀ c fs s, xDcF fi g ft fk fv vs ρ st = .exc c fs s → ∀ dx H' m', Evo H m H' m' → RepX ⟨X.K, B⟩ H' m' fs dx → RepSt ⟨X.K, B⟩ H' m' s → W c dx σ H')
    (hok : ∃ ds s, xDcF fi g ft fk fv vs ρ st = .ok ds s ∨ ∃ c fs, xDcF fi g ft fk fv vs ρ st = .exc c fs s)
    (fin : ∀ ds s, xDcF fi g ft fk fv vs ρ st = .ok ds s → ∀ D H1 m1 H' m' ws, Evo H m H1 m1 → H1 D = none → D ∉ B → Evo H1 m1 H' m' → RepSt ⟨X.K, D :: B⟩ H' m' s → H' D = some (.dK ws) → RepP ⟨X.K, D :: B⟩ H' m' ds ws → Q (.ref D) H') :
    tDc wi tgr tt tk tv vs σ H Q := by
  refine qi B σ H ρ st m _ re rs ?_
  unfold xDcF at hexc hok fin
  cases er : fi ρ st with
  | fail => rw [er] at hok; obtain ⟨ds, s, h | ⟨c, fs, h⟩⟩ := hok <;> cases h
  | exc c fs s => exact hexc c fs s (by rw [er]; rfl)
  | ok p s1 =>
    rw [er] at hok fin
    simp only [Res.bind_ok] at hok fin
    intro J H1 m1 e1 rs1 hit D hD
    by_cases hc : sameAt p.2 s1 s1 = true
    · rw [if_pos hc] at hok fin
      have hBn : ∀ b ∈ D :: B, b ∈ B ∨ H1 b = none := fun b hb => by
        rcases List.mem_cons.mp hb with z | z
        · rw [z]; exact .inr hD
        · exact .inl z
      have hDB : D ∉ B := rs1.freshB hD
      have re1 : RepE ⟨X.K, D :: B⟩ H1 m1 (wipeD ρ vs) (L2.wipe σ vs) := ((re.evo e1).ban hBn).wipe vs
      obtain ⟨ds0, s0, eq0⟩ : ∃ ds s, dcD g ft fk fv p.2 s1 (wipeD ρ vs) p.1 [] s1 = .ok ds s := by
        obtain ⟨ds, s, h | ⟨c, fs, h⟩⟩ := hok
        · exact ⟨ds, s, h⟩
        · exact absurd h (dcD_exc _ _ _ _ _ _ _ _ _ _ _ _ _)
      have fin := fin ds0 s0 eq0 D H1 m1
      refine ⟨fun i k H' => k = p.1.length - i ∧ i ≤ p.1.length ∧ ∃ st' m' acc vacc, Evo H1 m1 H' m' ∧ RepSt ⟨X.K, D :: B⟩ H' m' st' ∧ sameAt p.2 s1 st' = true ∧ H' D = some (.dK vacc) ∧ RepP ⟨X.K, D :: B⟩ H' m' acc vacc ∧
        dcD g ft fk fv p.2 s1 (wipeD ρ vs) (p.1.drop i) acc st' = .ok ds0 s0,
        ⟨p.1.length, by simp, Nat.zero_le _, s1, m1, [], [], (Grow.upd hD).evo, rs1.banB hD, hc, upd_same, rfl, eq0⟩, ?_⟩
      rintro i k H' ⟨rfl, hi, st', m', acc, vacc, ev, rs', hw', hDl, ra, hr⟩
      by_cases hlt : i < p.1.length
      · refine .inr ⟨hit.goes (D :: B) i H' m' st' hBn hlt ev rs' hw', fun H2 => i + 1 ≤ p.1.length ∧ ∃ st' m' acc vacc, Evo H1 m1 H2 m' ∧ RepSt ⟨X.K, D :: B⟩ H2 m' st' ∧ sameAt p.2 s1 st' = true ∧ H2 D = some (.dK vacc) ∧ RepP ⟨X.K, D :: B⟩ H2 m' acc vacc ∧
          dcD g ft fk fv p.2 s1 (wipeD ρ vs) (p.1.drop (i + 1)) acc st' = .ok ds0 s0,
          fun H2 hN => ⟨p.1.length - (i + 1), by omega, rfl, hN⟩, fun x H2 y => ?_⟩
        have hd : p.1[i]? = some p.1[i] := by simp [hlt]
        obtain ⟨gr, rx⟩ := hit.yields (D :: B) i _ H' m' st' x H2 hBn hd ev rs' hw' y
        have ec : p.1.drop i = p.1[i] :: p.1.drop (i + 1) := List.drop_eq_getElem_cons hlt
        rw [ec] at hr
        unfold dcD at hr
        cases hg : g p.1[i] (wipeD ρ vs) with
        | none => rw [hg] at hr; cases hr
        | some ρ1 =>
          rw [hg] at hr
          simp only at hr
          refine qg (D :: B) x _ H2 _ ρ1 m' _ _ (re1.evo (ev.trans gr.evo)) rx hg fun σ3 re3 hw3 => ⟨by rw [hw3 vs his, wipe_wipe], ?_⟩
          have nD : D ∉ m' := (rs'.ban D (by simp)).2
          refine qt (D :: B) σ3 H2 ρ1 st' m' _ re3 (rs'.grow gr) ?_
          cases et : ft ρ1 st' with
          | fail => rw [et] at hr; cases hr
          | exc c fs t => rw [et] at hr; cases hr
          | ok b s2 =>
            rw [et] at hr
            intro b' H3 m3 e3 eb rs3
            cases (show b' = b from eb)
            have keepD : ∀ {H4 : Hp} {m4 : List Addr}, Evo H2 m' H4 m4 → H4 D = some (.dK vacc) ∧ D ∉ m4 := fun {H4 m4} e => e.keep D _ (gr _ _ hDl) nD (fun _ z => nomatch z)
            have evo2 : Evo H1 m1 H2 m' := ev.trans gr.evo
            cases b with
            | false =>
              rw [if_neg Bool.false_ne_true]
              simp only at hr
              split at hr
              · rename_i hw4
                exact ⟨hlt, s2, m3, acc, vacc, evo2.trans e3, rs3, hw4, (keepD e3).1, RepP.evo (gr.evo.trans e3) _ _ ra, hr⟩
              · cases hr
            | true =>
              rw [if_pos rfl]
              simp only at hr
              refine qk (D :: B) σ3 H3 ρ1 s2 m3 _ (re3.evo e3) rs3 ?_
              cases ek : fk ρ1 s2 with
              | fail => rw [ek] at hr; cases hr
              | exc c fs t => rw [ek] at hr; cases hr
              | ok kd s3 =>
                rw [ek] at hr
                simp only at hr
                intro kv H4 m4 e4 rk rs4
                cases hkd : keyD kd with
                | none => rw [hkd] at hr; cases hr
                | some k =>
                  rw [hkd] at hr
                  simp only at hr
                  cases keyD_rep rk hkd
                  refine qv (D :: B) σ3 H4 ρ1 s3 m4 _ ((re3.evo e3).evo e4) rs4 ?_
                  cases ee : fv ρ1 s3 with
                  | fail => rw [ee] at hr; cases hr
                  | exc c fs t => rw [ee] at hr; cases hr
                  | ok xd s4 =>
                    rw [ee] at hr
                    simp only at hr
                    intro yv H5 m5 e5 ry rs5
                    have ev5 : Evo H2 m' H5 m5 := (e3.trans e4).trans e5
                    obtain ⟨h5D, n5⟩ := keepD ev5
                    split at hr
                    · rename_i hw4
                      refine ⟨vacc, k, rfl, h5D, by rw [← ra.length]; exact hw4.2, ?_⟩
                      refine ⟨hlt, s4, m5, putD acc k xd, putK vacc k yv, (evo2.trans ev5).updK hD h5D, rs5.updK (by simp) h5D, hw4.1, upd_same, ?_, hr⟩
                      exact RepP.updB (by simp) (fun _ _ z => by rw [h5D] at z; cases z) (RepP.put ry (RepP.evo (gr.evo.trans ev5) _ _ ra))
                    · cases hr
      · have e : i = p.1.length := by omega
        subst e
        refine .inl ⟨hit.stops (D :: B) H' m' st' hBn ev rs' hw', ?_⟩
        rw [List.drop_length] at hr
        have hr : Res.ok acc st' = Res.ok ds0 s0 := hr
        injection hr with h1 h2
        subst h1 h2
        exact fin H' m' vacc e1 hD hDB ev rs' hDl ra
    · rw [if_neg hc] at hok
      obtain ⟨ds, s, h | ⟨c, fs, h⟩⟩ := hok <;> cases h
end
section
variable {X : Cx} {W : WX} {pos : Pos} {kx vx tg iter : Expr} {ifs : List Expr} {scope : Scope} {own : List (Str × Nat)} {fi : Fi} {g : Fg} {is : List Nat} {ft : Ft} {fk fv : Fe}
theorem dcp_all (hx : XOk X W) (hi : DI X W tg iter fi)
    (hg : Blk X scope fun Y => DG Y tg is g) (ht : Blk X scope fun Y => DTs Y WF ifs ft) (hk : Blk X scope fun Y => DE Y WF kx fk) (hv : Blk X scope fun Y => DE Y WF vx fv) (his : (is.all fun i => (own.map (·.2)).contains i) = true) :
    ∃ wi, PI X tg iter wi ∧ (∀ (s : Shared) (H : Hp) (C : Addr) (cl : List (Str × Addr)) (fp : List Addr), PG (X.blk s H scope (compEnvC scope cl C X.env) fp) tg (tgOf X.K is g)) ∧
      (∀ (s : Shared) (H : Hp) (C : Addr) (cl : List (Str × Addr)) (fp : List Addr), PTs (X.blk s H scope (compEnvC scope cl C X.env) fp) ifs (ttOf X.K WF ft)) ∧
      (∀ (s : Shared) (H : Hp) (C : Addr) (cl : List (Str × Addr)) (fp : List Addr), PE (X.blk s H scope (compEnvC scope cl C X.env) fp) kx (tOf X.K WF fk)) ∧
      (∀ (s : Shared) (H : Hp) (C : Addr) (cl : List (Str × Addr)) (fp : List Addr), PE (X.blk s H scope (compEnvC scope cl C X.env) fp) vx (tOf X.K WF fv)) ∧
      ∀ (B : List Addr) (σ : Sg) (H : Hp) (ρ : DEnv) (st : Store) (m : List Addr) (Q : VK), RepE ⟨X.K, B⟩ H m ρ σ → RepSt ⟨X.K, B⟩ H m st →
        (∀ c fs s, xDcF fi g ft fk fv (own.map (·.2)) ρ st = .exc c fs s → ∀ dx H' m', Evo H m H' m' → RepX ⟨X.K, B⟩ H' m' fs dx → RepSt ⟨X.K, B⟩ H' m' s → W c dx σ H') →
        (∃ ds s, xDcF fi g ft fk fv (own.map (·.2)) ρ st = .ok ds s ∨ ∃ c fs, xDcF fi g ft fk fv (own.map (·.2)) ρ st = .exc c fs s) →
        (∀ ds s, xDcF fi g ft fk fv (own.map (·.2)) ρ st = .ok ds s → ∀ D H1 m1 H' m' ws, Evo H m H1 m1 → H1 D = none → D ∉ B → Evo H1 m1 H' m' → RepSt ⟨X.K, D :: B⟩ H' m' s → H' D = some (.dK ws) → RepP ⟨X.K, D :: B⟩ H' m' ds ws → Q (.ref D) H') →
        tDc wi (tgOf X.K is g) (ttOf X.K WF ft) (tOf X.K WF fk) (tOf X.K WF fv) (own.map (·.2)) σ H Q := by
  obtain ⟨wi, pi, qi⟩ := hi
  refine ⟨wi, pi, fun s H C cl fp => (hg s H C cl fp (xblk hx s H C cl fp)).pg, fun s H C cl fp => (ht s H C cl fp (xblk hx s H C cl fp)).pts, fun s H C cl fp => (hk s H C cl fp (xblk hx s H C cl fp)).pe, fun s H C cl fp => (hv s H C cl fp (xblk hx s H C cl fp)).pe, fun B σ H ρ st m Q re rs h1 h2 h3 => ?_⟩
  exact dc_run (own_mem his) qi (fun B v σ H ρ ρ' m d Q re r hg hq => ⟨B, ρ, ρ', m, d, re, r, hg, hq⟩) (fun B σ H ρ st m Q re rs g => ⟨B, ρ, st, m, re, rs, g⟩) (fun B σ H ρ st m Q re rs g => ⟨B, ρ, st, m, re, rs, g⟩) (fun B σ H ρ st m Q re rs g => ⟨B, ρ, st, m, re, rs, g⟩) B σ H ρ st m Q re rs h1 h2 h3
theorem de_dc (hx : XOk X W) (hi : DI X W tg iter fi) (ok : BlkOk X.N X.env.scope scope own)
    (hg : Blk X scope fun Y => DG Y tg is g) (ht : Blk X scope fun Y => DTs Y WF ifs ft) (hk : Blk X scope fun Y => DE Y WF kx fk) (hv : Blk X scope fun Y => DE Y WF vx fv) (his : (is.all fun i => (own.map (·.2)).contains i) = true := by rfl) (hs : ∀ x, foldedSetIterable iter X.env x = pure x := by intro _; rfl) :
    DE X W (.DictComp kx vx [⟨tg, iter, ifs, 0⟩] scope pos) (xDc fi g ft fk fv (own.map (·.2))) := by
  obtain ⟨wi, pi, pg, pt, pk, pv, q⟩ := dcp_all hx hi hg ht hk hv his
  refine ⟨_, pe_lk (pe_dc hx.calm hx.nd pi ok pg pt pk pv hs), fun B σ H ρ st m Q re rs h => ?_⟩
  unfold xDc at h
  cases er : xDcF fi g ft fk fv (own.map (·.2)) ρ st with
  | fail => rw [er] at h; exact h.elim
  | exc c fs s => rw [er] at h; exact q B σ H ρ st m _ re rs (fun c' fs' s' e => by rw [er] at e; cases e; exact h) ⟨[], s, .inr ⟨c, fs, er⟩⟩ (fun ds s e => by rw [er] at e; cases e)
  | ok ds s =>
    rw [er] at h
    refine q B σ H ρ st m _ re rs (fun c' fs' s' e => by rw [er] at e; cases e) ⟨ds, s, .inl er⟩ fun ds' s' e D' H1 m1 H' m' ws e1 hD hB e2 rs' hl r => ?_
    rw [er] at e
    injection e with e3 e4
    subst e3 e4
    refine ⟨D', ws, rfl, hl, fun o => ?_⟩
    obtain ⟨u1, u2⟩ := RepP.unzip (RepP.updB (p := D') (o := .frz o (.dK ws)) (by simp) (fun _ _ z => by rw [hl] at z; cases z) r)
    have rs2 := rs'.updK (o := .frz o (.dK ws)) (by simp) hl
    refine h (.ref D') _ m' (e1.trans (e2.updK hD hl)) ?_ rs2.weakB
    refine Rep.dct_iff.mpr ⟨D', _, rfl, ⟨o, ?_⟩, by simp, u1.ban fun b hb => .inl (List.mem_cons_of_mem _ hb)⟩
    rw [← u2]
    exact upd_same
end
end DL
namespace DL
open PySem PySem.Spec PyProof.Rows L2
variable [TabsCtx]
theorem swd_true {kx vx : Expr} {gs : List Comprehension} {scope : Scope} {pos py : Pos} {y : Str} {l : Nat} {env : Env} (hk : env.scope.kind = .function) (hy : env.scope.names.lookup y = some .local) (hl : (py.line == pos.line) = true)
    (ha : (scope.names.any fun (n, k) => n == y && (k == .local || k == .cell)) = false) : swapsWith (.DictComp kx vx gs scope pos) (some (.Name y py)) l env = pure true := by
  have ky : env.kindOf y = some .local := hy
  have hb : env.blockKind = .function := by unfold Env.blockKind; rw [hk]; rfl
  unfold swapsWith
  simp only [hb, ky, ha, Expr.pos, hl]
  rfl
section
variable {X : Cx}
theorem ps_setDc {lk : Bool} {i : Nat} {y : Str} {py : Pos} {kx vx tg iter : Expr} {ifs : List Expr} {scope : Scope} {own : List (Str × Nat)} {pos spos : Pos} {wi : TI} {g : TG} {tt : TT} {tk tv : TE} (hc : X.calm = true) (hN : X.N.Nodup) (hy : X.N[i]? = some y) (hyl : X.env.scope.names.lookup y = some .local)
    (hsw : swapsWith (.DictComp kx vx [⟨tg, iter, ifs, 0⟩] scope pos) (some (.Name y py)) spos.line X.env = pure true) (hi : PI X tg iter wi) (ok : BlkOk X.N X.env.scope scope own)
    (hg : ∀ (s : Shared) (H : Hp) (C : Addr) (cl : List (Str × Addr)) (fp : List Addr), PG (X.blk s H scope (compEnvC scope cl C X.env) fp) tg g) (ht : ∀ (s : Shared) (H : Hp) (C : Addr) (cl : List (Str × Addr)) (fp : List Addr), PTs (X.blk s H scope (compEnvC scope cl C X.env) fp) ifs tt)
    (hk : ∀ (s : Shared) (H : Hp) (C : Addr) (cl : List (Str × Addr)) (fp : List Addr), PE (X.blk s H scope (compEnvC scope cl C X.env) fp) kx tk)
    (he : ∀ (s : Shared) (H : Hp) (C : Addr) (cl : List (Str × Addr)) (fp : List Addr), PE (X.blk s H scope (compEnvC scope cl C X.env) fp) vx tv) (hs : ∀ x, foldedSetIterable iter X.env x = pure x) :
    PS X (.Assign [.Name y py] (.DictComp kx vx [⟨tg, iter, ifs, 0⟩] scope pos) spos) (fun D σ H => tDc wi g tt tk tv (own.map (·.2)) σ H fun x H1 => if lk = true then ∃ p kvs, x = .ref p ∧ H1 p = some (.dK kvs) ∧ ∀ o, D.nx (σ.set i (some x)) (upd H1 p (.frz o (.dK kvs))) else D.nx (σ.set i (some x)) H1) := by
  refine ⟨fun pins s σ H D I h => ?_⟩
  rw [exec_Assign_Name_used _ _ _ _ hsw]
  refine wpAny_bind (wpAny_standAt (wpAny_bind ?_))
  show wpAny _ X.A (do let _ ← comprehension (.DictComp kx vx [⟨tg, iter, ifs, 0⟩] scope pos) scope X.env (firstIterPos [⟨tg, iter, ifs, 0⟩] pos) newDict false (eval iter X.env) (some (assign (.Name y py) X.env))) _ _ s
  refine wpAny_bind (thn (dc_core (Qf := fun _ s' => SP X pins D .next s') hc hN I hi ok hg ht hk he hs h fun L C s' m H' I' q hn f => ?_) fun _ s' hq => wpAny_pure (wpAny_pure hq))
  show wpAny _ _ (assign (.Name y py) X.env (.ref L)) _ _ _
  have main : ∀ {H2 : Hp}, Inv X pins σ H2 s' → D.nx (σ.set i (some (V.ref L))) H2 → FpOk X pins H2 C → wpAny (model X.prog X.w) X.A (assign (.Name y py) X.env (.ref L)) (fun _ s2 => ∃ m, s2.heap.Ns C m ∧ ∀ h3, Heap.SameBut C s2.heap h3 → SP X pins D .next { s2 with heap := h3 }) X.xe s' := fun {H2} I2 q2 f2 => by
    refine wpAny_assign_Name (store_ok2 (v := V.ref L) I2 hN hy (.inl hyl) rfl (fun s2 I3 ⟨a, sb, ha⟩ => ?_) (.inr hyl))
    obtain ⟨f0, f1, f2', f3, f4, f5⟩ := f2
    have haC : C ≠ a := by
      rcases ha with z | z
      · rw [z]; exact f1
      · exact fun e => f4 y a z e.symm
    refine ⟨m, hn.sameBut sb haC, fun h3 sb3 => ?_⟩
    exact ⟨_, H2, I3.turned (t' := s2.toks) (fun b o hb e => (sb3.2 b hb).trans e) f0 f1 f3 f4 f5, q2⟩
  cases lk with
  | false =>
    rw [if_neg Bool.false_ne_true] at q
    exact main I' q f
  | true =>
    rw [if_pos rfl] at q
    obtain ⟨p, kvs, ex, hp, q⟩ := q
    cases ex
    obtain ⟨od, I2⟩ := I'.lock hp True.intro
    refine main I2 (q od) ⟨?_, f.2⟩
    rw [upd_ne (fun z => by rw [z] at f; rw [f.1] at hp; cases hp)]
    exact f.1
end
section
variable {X : Cx} {W : WX} {pos : Pos} {kx vx tg iter : Expr} {ifs : List Expr} {scope : Scope} {own : List (Str × Nat)} {fi : Fi} {g : Fg} {is : List Nat} {ft : Ft} {fk fv : Fe}
theorem dcp_fin {K : PySem.W.Frag} {B : List Addr} {H H1 H' : Hp} {m m1 m' : List Addr} {D' : Addr} {ws : List (Key × V)} {kvs : KD} {s : Store} {o : Obj} (e1 : Evo H m H1 m1) (hD : H1 D' = none) (hB : D' ∉ B) (e2 : Evo H1 m1 H' m') (rs : RepSt ⟨K, D' :: B⟩ H' m' s) (hl : H' D' = some (.dK ws)) (r : RepP ⟨K, D' :: B⟩ H' m' kvs ws) :
    Evo H m (upd H' D' (.frz o (.dK ws))) m' ∧ Rep ⟨K, B⟩ (upd H' D' (.frz o (.dK ws))) m' (dctOf kvs) (.ref D') ∧ RepSt ⟨K, B⟩ (upd H' D' (.frz o (.dK ws))) m' s := by
  obtain ⟨u1, u2⟩ := RepP.unzip (RepP.updB (p := D') (o := .frz o (.dK ws)) (by simp) (fun _ _ z => by rw [hl] at z; cases z) r)
  have rs2 := rs.updK (o := .frz o (.dK ws)) (by simp) hl
  refine ⟨e1.trans (e2.updK hD hl), Rep.dct_iff.mpr ⟨D', _, rfl, ⟨o, ?_⟩, by simp, u1.ban fun b hb => .inl (List.mem_cons_of_mem _ hb)⟩, rs2.weakB⟩
  rw [← u2]
  exact upd_same
theorem ds_setDc {i : Nat} {y : Str} {py spos : Pos} (hx : XOk X W) (hi : DI X W tg iter fi) (ok : BlkOk X.N X.env.scope scope own)
    (hg : Blk X scope fun Y => DG Y tg is g) (ht : Blk X scope fun Y => DTs Y WF ifs ft) (hk : Blk X scope fun Y => DE Y WF kx fk) (hv : Blk X scope fun Y => DE Y WF vx fv) (hy : X.N[i]? = some y := by rfl) (hyl : X.env.scope.names.lookup y = some .local := by rfl)
    (hsw : swapsWith (.DictComp kx vx [⟨tg, iter, ifs, 0⟩] scope pos) (some (.Name y py)) spos.line X.env = pure true := by exact swd_true rfl rfl rfl (by decide +kernel))
    (his : (is.all fun i => (own.map (·.2)).contains i) = true := by rfl) (hs : ∀ x, foldedSetIterable iter X.env x = pure x := by intro _; rfl) :
    DS X W (.Assign [.Name y py] (.DictComp kx vx [⟨tg, iter, ifs, 0⟩] scope pos) spos) (sSet i (xDc fi g ft fk fv (own.map (·.2)))) := by
  obtain ⟨wi, pi, pg, pt, pk, pv, q⟩ := dcp_all hx hi hg ht hk hv his
  refine ⟨_, ps_setDc (lk := true) hx.calm hx.nd hy hyl hsw pi ok pg pt pk pv hs, fun B σ H ρ st m En re rs h => ?_⟩
  unfold sSet xDc at h
  cases er : xDcF fi g ft fk fv (own.map (·.2)) ρ st with
  | fail => rw [er] at h; exact h.elim
  | exc c fs s => rw [er] at h; exact q B σ H ρ st m _ re rs (fun c' fs' s' e => by rw [er] at e; cases e; exact fun dx H' m' e1 rx rs' => h σ dx H' m' e1 (re.evo e1) rx rs') ⟨[], s, .inr ⟨c, fs, er⟩⟩ (fun ds s e => by rw [er] at e; cases e)
  | ok ds s =>
    rw [er] at h
    refine q B σ H ρ st m _ re rs (fun c' fs' s' e => by rw [er] at e; cases e) ⟨ds, s, .inl er⟩ fun ds' s' e D' H1 m1 H' m' ws e1 hD hB e2 rs' hl r => ?_
    rw [er] at e
    injection e with e3 e4
    subst e3 e4
    rw [if_pos rfl]
    refine ⟨D', ws, rfl, hl, fun o => ?_⟩
    obtain ⟨a1, a2, a3⟩ := dcp_fin (o := o) e1 hD hB e2 rs' hl r
    exact h _ _ m' a1 ((re.evo a1).set i a2) a3
theorem dcp_finN {K : PySem.W.Frag} {B : List Addr} {H H1 H' : Hp} {m m1 m' : List Addr} {D' : Addr} {ws : List (Key × V)} {kvs : KD} {s : Store} (e1 : Evo H m H1 m1) (hD : H1 D' = none) (hB : D' ∉ B) (e2 : Evo H1 m1 H' m') (rs : RepSt ⟨K, D' :: B⟩ H' m' s) (hl : H' D' = some (.dK ws)) (r : RepP ⟨K, D' :: B⟩ H' m' kvs ws) :
    Evo H m H' (m' ++ [D']) ∧ Rep ⟨K, B⟩ H' (m' ++ [D']) (.loc s.length) (.ref D') ∧ RepSt ⟨K, B⟩ H' (m' ++ [D']) (s ++ [.dic kvs]) := by
  have ne : ∀ a o, H a = some o → a ∉ m → (∀ ps, o ≠ .tbl ps) → a ∉ m' ++ [D'] := fun a o q n z => by
    obtain ⟨q1, n1⟩ := e1.keep a o q n z
    obtain ⟨_, n2⟩ := e2.keep a o q1 n1 z
    simp only [List.mem_append, List.mem_singleton, not_or]
    exact ⟨n2, fun z => by rw [z, hD] at q1; cases q1⟩
  have e := e1.trans e2
  have kt : ∀ {P : Addr} {q : Str}, TabM H' m' P q → TabM H' (m' ++ [D']) P q := fun {P q} t => by
    obtain ⟨ps, h1, n1, h2, h3⟩ := t
    refine ⟨ps, h1, by
      simp only [List.mem_append, List.mem_singleton, not_or]
      exact ⟨n1, fun z => by rw [z, hl] at h1; cases h1⟩, h2, fun pos cv hc => ?_⟩
    obtain ⟨c, e1, e2, n2⟩ := h3 pos cv hc
    refine ⟨c, e1, e2, ?_⟩
    simp only [List.mem_append, List.mem_singleton, not_or]
    exact ⟨n2, fun z => by rw [z, hl] at e2; exact codeO_dK _ (Option.some.inj e2).symm⟩
  refine ⟨⟨?_, fun a o q n z => ⟨(e.keep a o q n z).1, ne a o q n z⟩, fun p hp t => kt (e.tabs p hp t), e.frz⟩, Rep.loc_iff.mpr ⟨D', rfl, by rw [← rs.len]; simp⟩, ?_⟩
  · obtain ⟨x, hx⟩ := e.ext
    exact ⟨x ++ [D'], by rw [hx, List.append_assoc]⟩
  · obtain ⟨_, hn⟩ := rs.ban D' (by simp)
    refine ⟨fun b hb => ?_, by simp [rs.len], List.nodup_append.mpr ⟨rs.nd, by simp, fun a ha b hb e => ?_⟩, fun l c q => ?_, fun p' hp' => kt (rs.tabs p' hp')⟩
    · obtain ⟨x, n⟩ := rs.ban b (List.mem_cons_of_mem _ hb)
      refine ⟨x, ?_⟩
      simp only [List.mem_append, List.mem_singleton, not_or]
      exact ⟨n, fun z => hB (by rw [← z]; exact hb)⟩
    · simp at hb; subst hb; subst e; exact hn ha
    · by_cases hlt : l < s.length
      · rw [List.getElem?_append_left hlt] at q
        obtain ⟨a, h1, h2⟩ := rs.cell l c q
        refine ⟨a, by rw [List.getElem?_append_left (by rw [rs.len]; exact hlt)]; exact h1, ?_⟩
        cases c with
        | lst ds => obtain ⟨vs, x, y⟩ := h2; exact ⟨vs, x, y.addm⟩
        | dic kvs => obtain ⟨vs, x, y⟩ := h2; exact ⟨vs, x, y.addm⟩
        | dik kvs => obtain ⟨o2, vs, x, y⟩ := h2; exact ⟨o2, vs, x, y.addm⟩
        | ins C fs =>
          obtain ⟨dx, vs, x, z, n, nb, y⟩ := h2
          refine ⟨dx, vs, x, z, ?_, fun w => nb (List.mem_cons_of_mem _ w), y.addm⟩
          simp only [List.mem_append, List.mem_singleton, not_or]
          exact ⟨n, fun w => by rw [w, hl] at z; cases z⟩
      · have hl' : l = s.length := by
          have := (List.getElem?_eq_some_iff.mp q).1
          simp at this; omega
        subst hl'
        simp at q
        subst q
        exact ⟨D', by rw [← rs.len]; simp, ws, hl, r.addm⟩
theorem ds_setDcN {i : Nat} {y : Str} {py spos : Pos} (hx : XOk X W) (hi : DI X W tg iter fi) (ok : BlkOk X.N X.env.scope scope own)
    (hg : Blk X scope fun Y => DG Y tg is g) (ht : Blk X scope fun Y => DTs Y WF ifs ft) (hk : Blk X scope fun Y => DE Y WF kx fk) (hv : Blk X scope fun Y => DE Y WF vx fv) (hy : X.N[i]? = some y := by rfl) (hyl : X.env.scope.names.lookup y = some .local := by rfl)
    (hsw : swapsWith (.DictComp kx vx [⟨tg, iter, ifs, 0⟩] scope pos) (some (.Name y py)) spos.line X.env = pure true := by exact swd_true rfl rfl rfl (by decide +kernel))
    (his : (is.all fun i => (own.map (·.2)).contains i) = true := by rfl) (hs : ∀ x, foldedSetIterable iter X.env x = pure x := by intro _; rfl) :
    DS X W (.Assign [.Name y py] (.DictComp kx vx [⟨tg, iter, ifs, 0⟩] scope pos) spos) (sSet i (xDcN fi g ft fk fv (own.map (·.2)))) := by
  obtain ⟨wi, pi, pg, pt, pk, pv, q⟩ := dcp_all hx hi hg ht hk hv his
  refine ⟨_, ps_setDc (lk := false) hx.calm hx.nd hy hyl hsw pi ok pg pt pk pv hs, fun B σ H ρ st m En re rs h => ?_⟩
  unfold sSet xDcN at h
  cases er : xDcF fi g ft fk fv (own.map (·.2)) ρ st with
  | fail => rw [er] at h; exact h.elim
  | exc c fs s => rw [er] at h; exact q B σ H ρ st m _ re rs (fun c' fs' s' e => by rw [er] at e; cases e; exact fun dx H' m' e1 rx rs' => h σ dx H' m' e1 (re.evo e1) rx rs') ⟨[], s, .inr ⟨c, fs, er⟩⟩ (fun ds s e => by rw [er] at e; cases e)
  | ok ds s =>
    rw [er] at h
    refine q B σ H ρ st m _ re rs (fun c' fs' s' e => by rw [er] at e; cases e) ⟨ds, s, .inl er⟩ fun ds' s' e D' H1 m1 H' m' ws e1 hD hB e2 rs' hl r => ?_
    rw [er] at e
    injection e with e3 e4
    subst e3 e4
    rw [if_neg Bool.false_ne_true]
    obtain ⟨a1, a2, a3⟩ := dcp_finN e1 hD hB e2 rs' hl r
    exact h _ H' _ a1 ((re.evo a1).set i a2) a3
end
end DL
namespace DL
open PySem PySem.Spec PyProof.Rows L2
variable [TabsCtx]
def signs (x : Str) : List D := x.cps.toList.map fun c => .str ⟨#[c]⟩
theorem it_str {K : PySem.W.Frag} {B : List Addr} {H1 : Hp} {m1 : List Addr} {s1 : Store} (x : Str) : ItRep K B (Its x) (signs x) [] s1 H1 m1 := by
  refine ⟨fun B' i H m st' hb hi e rs _ => ?_, fun B' H m st' hb e rs _ => ?_, fun B' i d H m st' v H' hb hi e rs _ y => ?_⟩
  · show i < x.cps.size
    simpa [signs] using hi
  · show x.cps.size ≤ (signs x).length
    simp [signs]
  · obtain ⟨rfl, c, hc, rfl⟩ := y
    unfold signs at hi
    rw [List.getElem?_map, Array.getElem?_toList, hc] at hi
    cases hi
    exact ⟨Grow.refl, Rep.str_iff.mpr rfl⟩
section
variable {X : Cx} {W : WX} {pos apos cpos : Pos} {e tg o : Expr} {fe fo : Fe}
/-- a list, a tuple, a dict (a written one is held from here on), a text walked -/
def iOfX (f : Fe) : Fi := fun ρ st => (f ρ st).bind fun d s1 => match d with
  | .dct ks ds => .ok (ks.map keyTo, []) s1
  | .str x => .ok (signs x, []) s1
  | .loc l => (match s1[l]? with
    | some (.dic kvs) => .ok (kvs.map fun p => keyTo p.1, []) (s1.set l (.dik kvs))
    | some (.dik kvs) => .ok (kvs.map fun p => keyTo p.1, []) s1
    | _ => liftI (seqI s1 d) s1)
  | d => liftI (seqI s1 d) s1
theorem keys_zip {kvs : KD} {vs : List (Key × V)} {K : KB} {H : Hp} {m : List Addr} (h : RepP K H m kvs vs) : vs = (kvs.map (·.1)).zip (vs.map (·.2)) ∧ (kvs.map (·.1)).length = (vs.map (·.2)).length := by
  obtain ⟨a, b⟩ := RepP.unzip h
  exact ⟨b, by simp [h.length]⟩
theorem it_keysP {K : PySem.W.Frag} {B : List Addr} {H1 : Hp} {m1 : List Addr} {s1 : Store} {a : Addr} {ob : Obj} {kvs : KD} {vs : List (Key × V)} (ha : H1 a = some (.frz ob (.dK vs))) (h : RepP ⟨K, B⟩ H1 m1 kvs vs) : ItRep K B (Itk a ob vs) (kvs.map fun p => keyTo p.1) [] s1 H1 m1 := by
  obtain ⟨e1, e2⟩ := keys_zip h
  have : (kvs.map fun p => keyTo p.1) = (kvs.map (·.1)).map keyTo := by rw [List.map_map]; rfl
  rw [this]
  rw [e1] at ha ⊢
  exact it_keys ha e2
theorem di_seqX (h : DE X W e fe) : DI X W tg e (iOfX fe) := by
  obtain ⟨⟨t1, p1, q1⟩⟩ := di_seq (tg := tg) h
  obtain ⟨t, p, q⟩ := h
  refine ⟨_, PI.or p1 (PI.or (pi_keys p) (PI.or (pi_keys (pe_lk p)) (pi_str p))), fun B σ H ρ st m R re rs h => ?_⟩
  have old : ∀ d s1, fe ρ st = .ok d s1 → GoodI (liftI (seqI s1 d) s1) R (fun c d H' => W c d σ H') X.K B H m → t1 σ H R := fun d s1 er h => q1 B σ H ρ st m R re rs (by unfold iOf; rw [er]; exact h)
  cases er : fe ρ st with
  | fail => unfold iOfX at h; rw [er] at h; exact h.elim
  | exc c fs s1 => exact .inl (q1 B σ H ρ st m R re rs (by unfold iOfX at h; unfold iOf; rw [er] at h ⊢; exact h))
  | ok d s1 =>
    unfold iOfX at h
    rw [er] at h
    simp only [Res.bind_ok] at h
    cases d with
    | dct ks ds =>
      refine .inr (.inl (q B σ H ρ st m _ re rs ?_))
      rw [er]
      intro v H1 m1 e1 r1 rs1
      obtain ⟨a, vs, rfl, ⟨ob, ha⟩, hl, rl⟩ := Rep.dct_iff.mp r1
      exact ⟨a, ob, rfl, .inl ⟨_, ha, h _ H1 m1 e1 rs1 (it_keys ha (by rw [hl, rl.length]))⟩⟩
    | str x =>
      refine .inr (.inr (.inr (q B σ H ρ st m _ re rs ?_)))
      rw [er]
      intro v H1 m1 e1 r1 rs1
      exact ⟨x, Rep.str_iff.mp r1, h _ H1 m1 e1 rs1 (it_str x)⟩
    | loc l =>
      simp only at h
      cases hq : s1[l]? with
      | none => rw [hq] at h; exact .inl (old _ s1 er h)
      | some c =>
        rw [hq] at h
        cases c with
        | dic kvs =>
          simp only at h
          refine .inr (.inr (.inl (q B σ H ρ st m _ re rs ?_)))
          rw [er]
          intro v H1 m1 e1 r1 rs1
          obtain ⟨a, rfl, hm⟩ := Rep.loc_iff.mp r1
          obtain ⟨b, hb, vs, z1, z2⟩ := rs1.cell l _ hq
          rw [hm] at hb; cases hb
          refine ⟨a, vs, rfl, z1, fun ob => ⟨a, ob, rfl, .inl ⟨vs, upd_same, ?_⟩⟩⟩
          have ev : Evo H1 m1 (upd H1 a (.frz ob (.dK vs))) m1 := .write hm (fun _ _ z => by rw [z1] at z; cases z)
          have hP : RepP ⟨X.K, B⟩ (upd H1 a (.frz ob (.dK vs))) m1 kvs vs := RepP.evo ev _ _ z2
          exact h _ _ m1 (e1.trans ev) (rs1.write hm (fun z => by rw [z1] at z; cases z) (fun _ _ z => by rw [z1] at z; cases z) ⟨ob, vs, upd_same, hP⟩) (it_keysP upd_same hP)
        | dik kvs =>
          simp only at h
          refine .inr (.inl (q B σ H ρ st m _ re rs ?_))
          rw [er]
          intro v H1 m1 e1 r1 rs1
          obtain ⟨a, rfl, hm⟩ := Rep.loc_iff.mp r1
          obtain ⟨b, hb, ob, vs, z1, z2⟩ := rs1.cell l _ hq
          rw [hm] at hb; cases hb
          exact ⟨a, ob, rfl, .inl ⟨vs, z1, h _ H1 m1 e1 rs1 (it_keysP z1 z2)⟩⟩
        | lst ds => exact .inl (old _ s1 er h)
        | ins c fs => exact .inl (old _ s1 er h)
    | _ => exact .inl (old _ s1 er h)
def gInX (neg : Bool) : G2 := fun st a b => match b with
  | .str z => (match a with
    | .str y => if y.cps.size = 1 then some (.bl (if neg then !(z.cps.toList.contains (y.cps.getD 0 0)) else z.cps.toList.contains (y.cps.getD 0 0))) else none
    | _ => none)
  | b => gInM neg st a b
theorem one_sign {y : Str} (h : y.cps.size = 1) : y = ⟨#[y.cps.getD 0 0]⟩ := by
  obtain ⟨⟨l⟩⟩ := y
  match l, h with
  | [c], _ => rfl
theorem inX_aux {neg : Bool} {F : Value → Value → Sem Value} (o1 : DOp X F (gInM neg)) (o2 : OpR X F (fun x y H Q => ∃ (c : Nat) (z : Str), x = .str ⟨#[c]⟩ ∧ y = .str z ∧ Q (.bl (if neg then !decide (c ∈ z.cps.toList) else decide (c ∈ z.cps.toList))) H)) : DOp X F (gInX neg) := by
  obtain ⟨r0, c0, q0⟩ := o1
  refine ⟨_, c0.or o2, fun B x y H m st da db d Q rs ra rb h q => ?_⟩
  cases db with
  | str z =>
    unfold gInX at h
    cases da with
    | str w =>
      simp only at h
      split at h
      · rename_i h1
        cases h
        cases Rep.str_iff.mp ra
        cases Rep.str_iff.mp rb
        refine .inr ⟨w.cps.getD 0 0, z, congrArg V.str (one_sign h1), rfl, ?_⟩
        refine q _ H Grow.refl (Rep.bl_iff.mpr ?_)
        cases neg <;> simp [List.contains_iff_mem]
      · cases h
    | _ => cases h
  | _ => exact .inl (q0 B x y H m st da _ d Q rs ra rb h q)
theorem dop_inX (hu : X.A.units + 1 < cLine) : DOp X (compareOp .In) (gInX false) := inX_aux (dop_inM hu) (by
  intro pins s σ H x y v u Q I rx ry h
  obtain ⟨c, z, h1, h2, h3⟩ := h
  exact op_in_sign pins s σ H x y v u Q I rx ry ⟨c, z, h1, h2, h3⟩)
theorem dop_notInX (hu : X.A.units + 1 < cLine) : DOp X (compareOp .NotIn) (gInX true) := inX_aux (dop_notInM hu) (by
  intro pins s σ H x y v u Q I rx ry h
  obtain ⟨c, z, h1, h2, h3⟩ := h
  exact op_notIn_sign pins s σ H x y v u Q I rx ry ⟨c, z, h1, h2, h3⟩)
def tListVals (te : TE) : TE := fun σ H Q => te σ H fun x H1 => ∃ d kvs, x = .ref d ∧ Rd H1 d (.dK kvs) ∧ ∀ p, H1 p = none → Q (.ref p) (upd H1 p (.lst (kvs.map (·.2))))
theorem vals_of_items {kvs : List (Key × V)} {vs : List (Key × Value)} (kv : KV kvs vs) {us : List Value} (hl : us.length = vs.length) (h : ∀ (i : Nat) (v : Value), us[i]? = some v → ∃ k, vs[i]? = some (k, v)) : Vals (kvs.map (·.2)) us := by
  have e : us = vs.map (·.2) := by
    apply List.ext_getElem?
    intro i
    rw [List.getElem?_map]
    cases q : us[i]? with
    | some v => obtain ⟨k, z⟩ := h i v q; rw [z]; rfl
    | none =>
      rw [List.getElem?_eq_none_iff] at q
      rw [List.getElem?_eq_none (by omega)]; rfl
  rw [e]
  clear e h hl
  unfold KV at kv
  induction kv with
  | nil => exact .nil
  | cons h t ih => exact .cons h.2 ih
theorem pe_listVals {te : TE} {p : Pos} (hc : X.calm = true) (he : PE X e te) (hg : Gl X "list") (hm : X.mg "list" = none) (hv : bootBuiltins "list" = some (.type "list")) (hbase : attributeBase e "values" X.env (eval e X.env) = eval e X.env := by rfl) (hline : (apos.endLine == cpos.line) = true := by rfl)
    (hs : starEach [.Call (.Attribute e "values" apos) [] [] cpos] X.env = (false, eval (.Call (.Attribute e "values" apos) [] [] cpos) X.env) :: starEach [] X.env := by rfl) :
    PE X (.Call (.Name "list" p) [.Call (.Attribute e "values" apos) [] [] cpos] [] pos) (tListVals te) := by
  refine ⟨fun pins s σ H Q I hq => ?_⟩
  refine wpAny_Call_Name_kw (ld_blt I hg hm hv ?_)
  refine PyProof.Rows.callWith_type1 ?_ hs rfl
  rw [hs]
  show wpAny _ _ (spliced ((false, eval (.Call (.Attribute e "values" apos) [] [] cpos) X.env) :: backTo pos (starEach [] X.env))) _ _ s
  refine Calls.spliced_cons ?_
  refine wpAny_Call_method (T := "dict") (id := "dict.values") hbase rfl hline F.plainAttrs_dict F.slot_dict_values F.type_dict_values (thn (he.run pins s σ H _ I hq) fun u s1 ⟨x, H1, I1, rx, d, kvs, ex, hd, q⟩ => ?_)
  subst ex
  obtain rfl : u = Value.ref d := rx
  obtain ⟨hz, hs0, vs, kv, hdo⟩ := dk_rd I1.hok hd
  obtain ⟨ep, hat⟩ := hdo.dictAt
  have lk : kvs.length = vs.length := Paired.length kv
  have I2 : Inv X pins σ H1 { s1 with heap := s1.heap.push { cls := .type "dict_values", data := .fields #[.ref d] } } := I1.kept (t' := s1.toks) fun b ob q => Heap.get?_push_of_some _ q
  refine ⟨hdo.typeIs, hdo.mapOf.noDict, ?_⟩
  show wpAny _ _ (callWith cpos (.builtin "dict.values") [.ref d] [] []) _ X.xe s1
  refine method_meetsIn F.slot_dict_values F.entry_dict_values rfl (PySem.evalArgs_none ⟨rfl, hdo.typeIs, F.args_dict_values_1 _, _, meets_dict_values (mixKind X.prog X.w) d hs0, ⟨vs, hdo⟩, ?_⟩)
  refine Calls.spliced_nil ?_
  refine PySem.W.kdl_call (PySem.W.kdl_values (knd := mixKind X.prog X.w) (kvs := vs) (ep := ep)) (I1.ok.hd hc) ⟨⟨_, Heap.get?_push_size _ rfl, rfl, rfl⟩, hat.push _⟩ (by omega) fun h' tk acc c hk hS hacc => ?_
  obtain ⟨a1, a2⟩ := hacc
  have rv : Vals (kvs.map (·.2)) acc.toList := vals_of_items kv (by simpa using a1) fun i v hi => a2 i v (by simpa using hi)
  refine ⟨.ref _, _, I2.laid (o := .lst (kvs.map (·.2))) (t' := tk) hk (Nat.le_refl _) ⟨by rw [List.length_map]; exact hz, acc.toList, c, rv, by rw [Array.toArray_toList]; exact hS⟩, rfl, q _ (I2.hok.fresh (Nat.le_refl _))⟩
def xListVals (f : Fe) : Fe := fun ρ st => (f ρ st).bind fun d s1 => match dicV s1 d with
  | some kvs => .ok (.lst (kvs.map (·.2))) s1
  | none => .fail
theorem de_listVals {p : Pos} (hc : X.calm = true) (h : DE X W e fe) (hm : X.mg "list" = none) (hg : Gl X "list" := by rfl) (hbase : attributeBase e "values" X.env (eval e X.env) = eval e X.env := by rfl) (hline : (apos.endLine == cpos.line) = true := by rfl)
    (hs : starEach [.Call (.Attribute e "values" apos) [] [] cpos] X.env = (false, eval (.Call (.Attribute e "values" apos) [] [] cpos) X.env) :: starEach [] X.env := by rfl) :
    DE X W (.Call (.Name "list" p) [.Call (.Attribute e "values" apos) [] [] cpos] [] pos) (xListVals fe) := by
  obtain ⟨t, p, q⟩ := h
  refine ⟨_, pe_listVals hc p hg hm boot_list hbase hline hs, fun B σ H ρ st m Q re rs h => ?_⟩
  refine q B σ H ρ st m _ re rs (good_bind h fun d s1 v H1 m1 e1 r1 rs1 h1 => ?_)
  cases hd : dicV s1 d with
  | none => rw [hd] at h1; exact h1.elim
  | some kvs =>
    rw [hd] at h1
    obtain ⟨a, vs, rfl, hR, hP⟩ := dicV_rep rs1 r1 hd
    obtain ⟨u1, _⟩ := RepP.unzip hP
    exact ⟨a, vs, rfl, hR, fun p hp => good_grow h1 (Grow.upd hp) (Rep.newL rs1 hp u1) rs1⟩
def rSetX : V → V → V → Hp → (Hp → Prop) → Prop := fun o i v H Q => rSetL o i v H Q ∨ ∃ a H', o = .ref a ∧ DPut H a i v H' ∧ Q H'
theorem set_any (hu : X.A.units + 1 < cLine) : PSet X rSetX := by
  intro pins s σ H o i v ov iv u Q I ro ri rv h
  rcases h with h | ⟨a, H', rfl, g, q⟩
  · exact set_list pins s σ H o i v ov iv u Q I ro ri rv h
  · obtain rfl : ov = Value.ref a := ro
    exact d_setItem hu I g ri rv fun s' I' => ⟨H', I', q⟩
def putX (st : Store) (o k d : D) : Option Store := match o with
  | .loc l => (match st[l]? with
    | some (.dic kvs) => (keyD k).bind fun j => if kvs.length < sizeLine then some (st.set l (.dic (putD kvs j d))) else none
    | _ => putL st o k d)
  | _ => none
theorem putX_rep {K : KB} {H : Hp} {m : List Addr} {st st' : Store} {od kd d : D} {ov kv v : V} (rs : RepSt K H m st) (ro : Rep K H m od ov) (rk : Rep K H m kd kv) (r : Rep K H m d v) (h : putX st od kd d = some st') {Q : Hp → Prop}
    (q : ∀ H', Evo H m H' m → RepSt K H' m st' → Q H') : rSetX ov kv v H Q := by
  have old : putL st od kd d = some st' → rSetX ov kv v H Q := fun h => by
    obtain ⟨a, xs, k, j, rfl, rfl, h1, h2, h3, h4⟩ := putL_rep rs ro rk r h
    exact .inl ⟨a, xs, k, j, rfl, rfl, h1, h2, q _ h3 h4⟩
  cases od with
  | loc l =>
    simp only [putX] at h
    cases hq : st[l]? with
    | none => rw [hq] at h; exact old h
    | some c =>
      rw [hq] at h
      cases c with
      | dic kvs =>
        simp only at h
        obtain ⟨j, h1, h⟩ := Option.bind_eq_some_iff.mp h
        split at h
        · rename_i hz
          cases h
          cases keyD_rep rk h1
          obtain ⟨a, rfl, hm⟩ := Rep.loc_iff.mp ro
          obtain ⟨b, hb, vs, z1, z2⟩ := rs.cell l _ hq
          rw [hm] at hb; cases hb
          have ev : Evo H m (upd H a (.dK (putK vs j v))) m := .write hm (fun _ _ z => by rw [z1] at z; cases z)
          refine .inr ⟨a, _, rfl, DPut.k z1 (by rw [← z2.length]; exact hz), q _ ev ?_⟩
          exact rs.write hm (fun z => by rw [z1] at z; cases z) (fun _ _ z => by rw [z1] at z; cases z) ⟨_, upd_same, RepP.evo ev _ _ (RepP.put r z2)⟩
        · cases h
      | _ => exact old h
  | _ => cases h
def hX (fo fi : Fe) : Fh := fun d ρ st => match fo ρ st with
  | .ok od s1 => (match fi ρ s1 with
    | .ok kd s2 => (putX s2 od kd d).map fun s3 => (ρ, s3)
    | _ => none)
  | _ => none
theorem dh_subX {i : Expr} {fi : Fe} (hu : X.A.units + 1 < cLine) (ho : DE X W o fo) (hi : DE X W i fi) (ha : ∀ v, assign (.Subscript o i pos) X.env v = (do
      let ov ← holding [v] (eval o X.env)
      let iv ← holding [v, ov] (eval i X.env)
      standAt pos
      holding [v, ov, iv] (setItem ov iv v)
      release [v, ov, iv] []) := by intro _; rfl) : DH X W (.Subscript o i pos) (hX fo fi) := by
  obtain ⟨to, po, qo⟩ := ho
  obtain ⟨ti, pi, qi⟩ := hi
  refine ⟨_, pg_sub po pi (set_any hu) ha, fun B v σ H ρ ρ' st st' m d Q re rs r h k => ?_⟩
  unfold hX at h
  cases e1 : fo ρ st with
  | ok od s1 =>
    rw [e1] at h
    simp only at h
    cases e2 : fi ρ s1 with
    | ok kd s2 =>
      rw [e2] at h
      obtain ⟨s3, h1, h2⟩ := Option.map_eq_some_iff.mp h
      cases h2
      refine qo B σ H ρ st m _ re rs ?_
      rw [e1]
      intro ov H1 m1 v1 r1 rs1
      refine qi B σ H1 ρ s1 m1 _ (re.evo v1) rs1 ?_
      rw [e2]
      intro kv H2 m2 v2 r2 rs2
      exact putX_rep rs2 (Rep.evo v2 _ _ r1) r2 (Rep.evo (v1.trans v2) _ _ r) h1 fun H' z3 z4 => k σ _ m2 ((v1.trans v2).trans z3) ((re.evo (v1.trans v2)).evo z3) z4
    | exc _ _ _ => rw [e2] at h; cases h
    | fail => rw [e2] at h; cases h
  | exc _ _ _ => rw [e1] at h; cases h
  | fail => rw [e1] at h; cases h
def rEqE (neg : Bool) : R2 := fun x y H Q => ∃ a b ks ls, x = .ref a ∧ y = .ref b ∧ Rd H a (.dK ks) ∧ Rd H b (.dK ls) ∧ (ks = [] ∨ ls = []) ∧ Q (.bl (if neg then !(ks.length == ls.length) else (ks.length == ls.length))) H
theorem hits_e {A : Around} {s : Shared} {ka kb : List (Key × Value)} (h : ka = [] ∨ kb = []) (hl : ka.length = kb.length) : PySem.W.KeqHits A s kb ka true := by
  have : ka = [] := by
    rcases h with h | h
    · exact h
    · rw [h] at hl; exact List.eq_nil_of_length_eq_zero hl
  rw [this]
  exact .nil
theorem op_eqE (hu : X.A.units < cLine) : OpR X (compareOp .Eq) (rEqE false) := by
  intro pins s σ H x y v u Q I rx ry h
  obtain ⟨a, b, ks, ls, rfl, rfl, ea, eb, he, q⟩ := h
  obtain rfl : v = Value.ref a := rx
  obtain rfl : u = Value.ref b := ry
  obtain ⟨_, ya, va, ra, da⟩ := dk_rd I.hok ea
  obtain ⟨_, yb, vb, rb, db⟩ := dk_rd I.hok eb
  have h0 : va = [] ∨ vb = [] := he.imp (fun z => by subst z; exact List.eq_nil_of_length_eq_zero ra.length.symm) (fun z => by subst z; exact List.eq_nil_of_length_eq_zero rb.length.symm)
  exact PySem.W.keq_eq (knd := mixKind X.prog X.w) (r := true) ya yb da db hu (fun hl => hits_e h0 hl) (fin_bl I q (by rw [ra.length, rb.length]; simp))
theorem op_neE (hu : X.A.units < cLine) : OpR X (compareOp .NotEq) (rEqE true) := by
  intro pins s σ H x y v u Q I rx ry h
  obtain ⟨a, b, ks, ls, rfl, rfl, ea, eb, he, q⟩ := h
  obtain rfl : v = Value.ref a := rx
  obtain rfl : u = Value.ref b := ry
  obtain ⟨_, ya, va, ra, da⟩ := dk_rd I.hok ea
  obtain ⟨_, yb, vb, rb, db⟩ := dk_rd I.hok eb
  have h0 : va = [] ∨ vb = [] := he.imp (fun z => by subst z; exact List.eq_nil_of_length_eq_zero ra.length.symm) (fun z => by subst z; exact List.eq_nil_of_length_eq_zero rb.length.symm)
  exact PySem.W.keq_ne (knd := mixKind X.prog X.w) (r := true) ya yb da db hu (fun hl => hits_e h0 hl) (fin_bl I q (by rw [ra.length, rb.length]; simp))
def eqE (neg : Bool) (g : G2) : G2 := fun st a b => match dicV st a, dicV st b with
  | some ks, some ls => if ks = [] ∨ ls = [] then some (.bl (if neg then !(ks.length == ls.length) else (ks.length == ls.length))) else none
  | none, none => g st a b
  | _, _ => none
theorem eqE_aux {neg : Bool} {F : Value → Value → Sem Value} {g : G2} (o1 : DOp X F g) (o2 : OpR X F (rEqE neg)) : DOp X F (eqE neg g) := by
  obtain ⟨r0, c0, q0⟩ := o1
  refine ⟨_, c0.or o2, fun B x y H m st da db d Q rs ra rb h q => ?_⟩
  unfold eqE at h
  cases ha : dicV st da with
  | none =>
    rw [ha] at h
    cases hb : dicV st db with
    | none => rw [hb] at h; exact .inl (q0 B x y H m st da db d Q rs ra rb h q)
    | some ls => rw [hb] at h; cases h
  | some ks =>
    rw [ha] at h
    cases hb : dicV st db with
    | none => rw [hb] at h; cases h
    | some ls =>
      rw [hb] at h
      simp only at h
      split at h
      · rename_i he
        cases h
        obtain ⟨a, vs, rfl, hR, hP⟩ := dicV_rep rs ra ha
        obtain ⟨b, ws, rfl, hR2, hP2⟩ := dicV_rep rs rb hb
        refine .inr ⟨a, b, vs, ws, rfl, rfl, hR, hR2, he.imp (fun z => ?_) (fun z => ?_), ?_⟩
        · subst z; exact List.eq_nil_of_length_eq_zero hP.length.symm
        · subst z; exact List.eq_nil_of_length_eq_zero hP2.length.symm
        · rw [← hP.length, ← hP2.length]
          exact q _ H Grow.refl (Rep.bl_iff.mpr rfl)
      · cases h
theorem dop_eqX (hu : X.A.units + 64 < cLine) : DOp X (compareOp .Eq) (eqE false gEq) := eqE_aux (dop_eq hu) (op_eqE (by omega))
theorem dop_neX (hu : X.A.units + 64 < cLine) : DOp X (compareOp .NotEq) (eqE true gNe) := eqE_aux (dop_ne hu) (op_neE (by omega))
def xExt (fo fe : Fe) : Fe := fun ρ st => (fo ρ st).bind fun o s1 => match o with
  | .loc l => match s1[l]? with
    | some (.lst _) => (fe ρ s1).bind fun d s2 => match s2[l]? with
      | some (.lst ds) => (match d with
        | .lst es => if ds.length + es.length ≤ sizeLine then .ok .non (s2.set l (.lst (ds ++ es))) else .fail
        | .loc k => (match s2[k]? with
          | some (.lst es) => if ds.length + es.length ≤ sizeLine then .ok .non (s2.set l (.lst (ds ++ es))) else .fail
          | _ => .fail)
        | _ => .fail)
      | _ => .fail
    | _ => .fail
  | _ => .fail
theorem de_ext {e : Expr} {fe : Fe} (ho : DE X W o fo) (he : DE X W e fe)
    (hbase : attributeBase o "extend" X.env (eval o X.env) = eval o X.env := by rfl)
    (hfew : ((backTo cpos (starEach [e] X.env)).all (fun x => !x.1) && (backToKw cpos (keywordEach [] X.env)).all (fun x => x.1.isSome)
      && decide ([e].length + ([] : List Keyword).length + (if ([] : List Keyword).isEmpty then 0 else 1) < 30)) = true := by rfl)
    (hline : (apos.endLine == cpos.line) = true := by rfl) (hs : starEach [e] X.env = (false, eval e X.env) :: starEach [] X.env := by rfl) (hplain : (backTo cpos (starEach [] X.env)).any (·.1) = false := by rfl) :
    DE X W (.Call (.Attribute o "extend" apos) [e] [] cpos) (xExt fo fe) := by
  obtain ⟨to, po, qo⟩ := ho
  obtain ⟨t, p, q⟩ := he
  refine ⟨_, pe_bm PySem.F.plainAttrs_list PySem.F.slot_list_extend PySem.F.type_list_extend mt_extend po (pa_cons p pa_nil hs) hbase hfew hline hs hplain, fun B σ H ρ st m Q re rs h => ?_⟩
  refine qo B σ H ρ st m _ re rs (good_bind h fun od s1 ov H1 m1 e1 r1 rs1 h1 => ?_)
  cases od with
  | loc l =>
    simp only at h1
    cases hq : s1[l]? with
    | none => rw [hq] at h1; exact h1.elim
    | some c =>
      rw [hq] at h1
      cases c with
      | lst ds =>
        simp only at h1
        obtain ⟨a, vs, rfl, hm, hH, rl⟩ := loc_lst rs1 r1 hq
        refine ⟨.inl ⟨rfl, vs, .of hH⟩, ?_⟩
        refine q B σ H1 ρ s1 m1 _ (re.evo e1) rs1 (good_bind h1 fun d s2 v H2 m2 e2 r2 rs2 h2 => ?_)
        cases hq2 : s2[l]? with
        | none => rw [hq2] at h2; exact h2.elim
        | some c2 =>
          rw [hq2] at h2
          cases c2 with
          | lst ds2 =>
            simp only at h2
            obtain ⟨a', vs2, ea, hm2, hH2, rl2⟩ := loc_lst rs2 (Rep.evo e2 _ _ r1) hq2
            cases ea
            have fin : ∀ {es : List D} {b : Addr} {ws : List V}, v = .ref b → H2 b = some (.lst ws) → RepL ⟨X.K, B⟩ H2 m2 es ws → GoodR (Rep ⟨X.K, B⟩) (if ds2.length + es.length ≤ sizeLine then .ok .non (s2.set l (.lst (ds2 ++ es))) else .fail) Q (fun c d H' => W c d σ H') ⟨X.K, B⟩ H2 m2 →
                rExtend (.ref a) [v] H2 Q := fun {es b ws} ev hb hw h3 => by
              split at h3
              · rename_i hz
                subst ev
                refine ⟨a, b, vs2, ws, rfl, rfl, hH2, hb, by rw [← rl2.length, ← hw.length]; exact hz, ?_⟩
                have e4 : Evo H2 m2 (upd H2 a (.lst (vs2 ++ ws))) m2 := .write hm2 (fun _ _ z => by rw [hH2] at z; cases z)
                exact h3 .non _ m2 e4 (Rep.non_iff.mpr rfl) (rs2.write hm2 (fun z => by rw [hH2] at z; cases z) (fun _ _ z => by rw [hH2] at z; cases z) ⟨_, upd_same, RepL.evo e4 _ _ (rl2.append hw)⟩)
              · exact h3.elim
            cases d with
            | lst es =>
              obtain ⟨b, ws, ev, hb, hw⟩ := Rep.lst_iff.mp r2
              exact fin ev hb.1 hw h2
            | loc k =>
              simp only at h2
              cases hk : s2[k]? with
              | none => rw [hk] at h2; exact h2.elim
              | some ck =>
                rw [hk] at h2
                cases ck with
                | lst es =>
                  obtain ⟨b, ws, ev, _, hb, hw⟩ := loc_lst rs2 r2 hk
                  exact fin ev hb hw h2
                | _ => exact h2.elim
            | _ => exact h2.elim
          | _ => exact h2.elim
      | _ => exact h1.elim
  | _ => exact h1.elim
end
end DL
namespace DL
open PySem PySem.Spec PyProof.Rows L2
variable [TabsCtx]
/-- one of the iterators -/
structure ZE where
  k : Kd
  a : Nat
  it : Nat
  xs : Array Value
/-- the zip object, whatever it knows of its last tuple -/
def IsZn (h : Heap) (z TI TO : Addr) (x : Value) (f : Bool) : Prop :=
  h.get? z = some { cls := .type "zip", dict := none, data := .fields #[x, .bool f, .bool false, .ref TI, .ref TO], slots := #[] }
def IsTn (h : Heap) (T : Addr) (vs : List Value) : Prop := h.get? T = some { cls := .type "tuple", data := .seq vs.toArray }
structure ZSep (z TI TO : Addr) (L : List ZE) : Prop where
  TIz : TI ≠ z
  TOz : TO ≠ z
  TITO : TI ≠ TO
  it : ∀ e ∈ L, e.it ≠ z ∧ e.it ≠ TI ∧ e.it ≠ TO ∧ e.a ≠ z ∧ e.a ≠ TO
  nd : (L.map ZE.it).Nodup
  src : ∀ e ∈ L, ∀ f ∈ L, e.a ≠ f.it
def ZAt (h : Heap) (i : Nat) (L : List ZE) : Prop := ∀ e ∈ L, ItS e.k h e.it e.a i ∧ IsS e.k h e.a e.xs
section
variable {prog : Program} {w : World} {A : Around} {E : Value → Shared → Prop} {s : Shared} {z TI TO : Addr} {L : List ZE} {i : Nat}
theorem ZAt.over {h h' : Heap} {x : Addr} (H : ZAt h i L) (hs : Heap.SameBut x h h') (hx : ∀ e ∈ L, x ≠ e.it ∧ x ≠ e.a) : ZAt h' i L := fun e he =>
  ⟨its_at (H e he).1 fun o q => hs.extBut _ _ (hx e he).1.symm q, iss_at (H e he).2 fun o q => hs.extBut _ _ (hx e he).2.symm q⟩
theorem ZAt.keeps {h h' : Heap} (H : ZAt h i L) (hk : ∀ e ∈ L, (∀ o, h.get? e.it = some o → h'.get? e.it = some o) ∧ ∀ o, h.get? e.a = some o → h'.get? e.a = some o) : ZAt h' i L := fun e he =>
  ⟨its_at (H e he).1 (hk e he).1, iss_at (H e he).2 (hk e he).2⟩
theorem upd_tn {T : Addr} {vs : List Value} {x : Value} {k : Nat} {Q : Unit → Shared → Prop} (hT : IsTn s.heap T vs) (hn : vs.length ≤ sizeLine)
    (h : ∀ h', IsTn h' T (vs.set k x) → Heap.SameBut T s.heap h' → Q () { s with heap := h' }) : wpAny (model prog w) A (updateSeq T (·.setIfInBounds k x)) Q E s := by
  refine wpAny_updateSeq hT rfl (h _ ?_ (Heap.SameBut.update ..)) (by simpa using hn) (by simp; omega)
  unfold IsTn
  rw [Heap.get?_update_self _ hT rfl]
  simp [Obj.mapSeq]
/-- what has come, what is to come -/
structure ZMid (s : Shared) (z TI TO : Addr) (L : List ZE) (i : Nat) (f : Bool) (L1 L2 : List ZE) (ds olds : List Value) (h' : Heap) : Prop where
  spl : L = L1 ++ L2
  hz : IsZn h' z TI TO .ellipsis f
  hT : IsTn h' TO (ds ++ olds)
  ld : ds.map some = L1.map fun e => e.xs[i]?
  lo : olds.length = L2.length
  h1 : ZAt h' (i + 1) L1
  h2 : ZAt h' i L2
  sz : h'.objs.size = s.heap.objs.size
  kp : ∀ c o, c ∉ z :: TO :: L.map ZE.it → s.heap.get? c = some o → h'.get? c = some o
theorem ZMid.step {f : Bool} {L1 L2 : List ZE} {e : ZE} {ds olds : List Value} {h' h2 h3 : Heap} {x o : Value} (S : ZSep z TI TO L) (M : ZMid s z TI TO L i f L1 (e :: L2) ds (o :: olds) h') (hx : e.xs[i]? = some x)
    (hi : ItS e.k h2 e.it e.a (i + 1) ∧ IsS e.k h2 e.a e.xs) (b1 : Heap.SameBut e.it h' h2) (hT : IsTn h3 TO ((ds ++ o :: olds).set ds.length x)) (b2 : Heap.SameBut TO h2 h3) : ZMid s z TI TO L i f (L1 ++ [e]) L2 (ds ++ [x]) olds h3 := by
  obtain ⟨spl, hz, hT0, ld, lo, h1, h2', sz, kp⟩ := M
  have me : e ∈ L := by rw [spl]; simp
  have nd := S.nd
  rw [spl] at nd
  simp only [List.map_append, List.map_cons] at nd
  have ne1 : ∀ c ∈ L1, c.it ≠ e.it := fun c hc q => by
    have := (List.nodup_append.mp nd).2.2 c.it (List.mem_map.mpr ⟨c, hc, rfl⟩) e.it (by simp)
    exact this q
  have ne2 : ∀ c ∈ L2, c.it ≠ e.it := fun c hc q => by
    have := (List.nodup_cons.mp (List.nodup_append.mp nd).2.1).1
    exact this (by rw [← q]; exact List.mem_map.mpr ⟨c, hc, rfl⟩)
  have m1 : ∀ c ∈ L1, c ∈ L := fun c hc => by rw [spl]; simp [hc]
  have m2 : ∀ c ∈ L2, c ∈ L := fun c hc => by rw [spl]; simp [hc]
  have lds : ds.length = L1.length := by have := congrArg List.length ld; simpa using this
  refine ⟨by rw [spl]; simp, b2.extBut _ _ S.TOz.symm (b1.extBut _ _ (S.it e me).1.symm hz), ?_, by simp [ld, hx], by simpa using lo, ?_, ?_, by rw [b2.1, b1.1, sz], ?_⟩
  · have e1 : (ds ++ o :: olds).set ds.length x = ds ++ [x] ++ olds := by simp [List.set_append]
    rw [e1] at hT; exact hT
  · intro c hc
    rcases List.mem_append.mp hc with q | q
    · obtain ⟨p1, p2⟩ := h1 c q
      refine ⟨its_at p1 fun o q1 => b2.extBut _ _ (S.it c (m1 c q)).2.2.1 (b1.extBut _ _ (ne1 c q) q1), iss_at p2 fun o q1 => b2.extBut _ _ (S.it c (m1 c q)).2.2.2.2 (b1.extBut _ _ (S.src c (m1 c q) e me) q1)⟩
    · rw [List.mem_singleton.mp q]
      exact ⟨its_at hi.1 fun o q1 => b2.extBut _ _ (S.it e me).2.2.1 q1, iss_at hi.2 fun o q1 => b2.extBut _ _ (S.it e me).2.2.2.2 q1⟩
  · intro c q
    obtain ⟨p1, p2⟩ := h2' c (by simp [q])
    refine ⟨its_at p1 fun o q1 => b2.extBut _ _ (S.it c (m2 c q)).2.2.1 (b1.extBut _ _ (ne2 c q) q1), iss_at p2 fun o q1 => b2.extBut _ _ (S.it c (m2 c q)).2.2.2.2 (b1.extBut _ _ (S.src c (m2 c q) e me) q1)⟩
  · intro c o hc q
    have hc2 := hc
    simp only [List.mem_cons, not_or] at hc2
    refine b2.extBut _ _ hc2.2.1 (b1.extBut _ _ (fun y => hc2.2.2 (by rw [y]; exact List.mem_map.mpr ⟨e, me, rfl⟩)) (kp c o hc q))
/-- whether its last tuple is free -/
def ZX (x : Value) : Prop := x = .none ∨ ∃ a : Nat, x = rawInt a
theorem alive_any {β : Type} {T : Addr} {f : Option Obj → Sem β} {Q : β → Shared → Prop} (h : ∀ o, wpAny (model prog w) A (f o) Q E s) : wpAny (model prog w) A (loadIfAlive T >>= f) Q E s :=
  wpAny_bind (m := loadIfAlive T) fun _ _ _ => h (s.heap.get? T)
theorem zn_free {x : Value} {f : Bool} {Q : Bool → Shared → Prop} (hz : IsZn s.heap z TI TO x f) (hx : ZX x)
    (h1 : Q true s) (h0 : ∀ h' f', IsZn h' z TI TO x f' → Heap.SameBut z s.heap h' → Q false { s with heap := h' }) : wpAny (model prog w) A (Builtin.SmallTypes.ownedTupleIsFree (.ref z)) Q E s := by
  unfold Builtin.SmallTypes.ownedTupleIsFree
  refine wpAny_bind (wpAny_field hz rfl (x := x) rfl ?_)
  rcases hx with rfl | ⟨T, rfl⟩
  · exact wpAny_pure h1
  · show wpAny _ _ (loadIfAlive ((T : Int).toNat) >>= _) _ _ _
    rw [Int.toNat_natCast]
    refine alive_any fun o => ?_
    cases o with
    | none => simp only [Option.isNone_none, if_true]; exact wpAny_pure h1
    | some o =>
      simp only [Option.isNone_some, Bool.false_eq_true, if_false]
      refine wpAny_bind (wpAny_field hz rfl (i := 1) (x := .bool f) rfl ?_)
      cases f with
      | true =>
        rw [if_neg (show ¬ ((Value.bool true != Value.bool true) = true) from Bool.false_ne_true)]
        exact wpAny_pure (h0 s.heap true hz (Heap.SameBut.refl _ _))
      | false =>
        rw [if_pos (show (Value.bool false != Value.bool true) = true from rfl)]
        exact wpAny_bind (wpAny_setField_rec hz (by simp) fun h₁ hz₁ hs₁ => wpAny_pure (h0 h₁ true hz₁ hs₁))
/-- the same, where no tuple is used again -/
structure ZMidN (g : Heap) (L : List ZE) (i : Nat) (L1 L2 : List ZE) (ds : List Value) (h' : Heap) : Prop where
  spl : L = L1 ++ L2
  ld : ds.map some = L1.map fun e => e.xs[i]?
  h1 : ZAt h' (i + 1) L1
  h2 : ZAt h' i L2
  sz : h'.objs.size = g.objs.size
  kp : ∀ c o, c ∉ L.map ZE.it → g.get? c = some o → h'.get? c = some o
theorem ZMidN.step {g : Heap} {L1 L2 : List ZE} {e : ZE} {ds : List Value} {h' h2 : Heap} {x : Value} (S : ZSep z TI TO L) (M : ZMidN g L i L1 (e :: L2) ds h') (hx : e.xs[i]? = some x)
    (hi : ItS e.k h2 e.it e.a (i + 1) ∧ IsS e.k h2 e.a e.xs) (b1 : Heap.SameBut e.it h' h2) : ZMidN g L i (L1 ++ [e]) L2 (ds ++ [x]) h2 := by
  obtain ⟨spl, ld, h1, h2', sz, kp⟩ := M
  have me : e ∈ L := by rw [spl]; simp
  have nd := S.nd
  rw [spl] at nd
  simp only [List.map_append, List.map_cons] at nd
  have ne1 : ∀ c ∈ L1, c.it ≠ e.it := fun c hc q => by
    have := (List.nodup_append.mp nd).2.2 c.it (List.mem_map.mpr ⟨c, hc, rfl⟩) e.it (by simp)
    exact this q
  have ne2 : ∀ c ∈ L2, c.it ≠ e.it := fun c hc q => by
    have := (List.nodup_cons.mp (List.nodup_append.mp nd).2.1).1
    exact this (by rw [← q]; exact List.mem_map.mpr ⟨c, hc, rfl⟩)
  have m1 : ∀ c ∈ L1, c ∈ L := fun c hc => by rw [spl]; simp [hc]
  have m2 : ∀ c ∈ L2, c ∈ L := fun c hc => by rw [spl]; simp [hc]
  refine ⟨by rw [spl]; simp, by simp [ld, hx], ?_, ?_, by rw [b1.1, sz], ?_⟩
  · intro c hc
    rcases List.mem_append.mp hc with q | q
    · obtain ⟨p1, p2⟩ := h1 c q
      exact ⟨its_at p1 fun o q1 => b1.extBut _ _ (ne1 c q) q1, iss_at p2 fun o q1 => b1.extBut _ _ (S.src c (m1 c q) e me) q1⟩
    · rw [List.mem_singleton.mp q]
      exact hi
  · intro c q
    obtain ⟨p1, p2⟩ := h2' c (by simp [q])
    exact ⟨its_at p1 fun o q1 => b1.extBut _ _ (ne2 c q) q1, iss_at p2 fun o q1 => b1.extBut _ _ (S.src c (m2 c q) e me) q1⟩
  · intro c o hc q
    exact b1.extBut _ _ (fun y => hc (by rw [y]; exact List.mem_map.mpr ⟨e, me, rfl⟩)) (kp c o hc q)
theorem zn_item {x : Value} {f : Bool} {olds : List Value} {Q : Value → Shared → Prop} (hh : A.handled = none) (S : ZSep z TI TO L) (hz : IsZn s.heap z TI TO x f) (hx : ZX x) (hTI : IsTn s.heap TI (L.map fun e => .ref e.it)) (hTO : IsTn s.heap TO olds) (lo : olds.length = L.length) (hL : L ≠ []) (hn : L.length ≤ sizeLine)
    (hI : ZAt s.heap i L) (hlt : ∀ e ∈ L, i < e.xs.size)
    (hQ : ∀ ds h' tk x' f' olds', ds.map some = L.map (fun e => e.xs[i]?) → IsZn h' z TI TO x' f' → ZX x' → IsTn h' TO olds' → olds'.length = L.length → ZAt h' (i + 1) L → IsTn h' s.heap.objs.size ds → h'.objs.size = s.heap.objs.size + 1 →
      (∀ c o, c ∉ z :: TO :: L.map ZE.it → s.heap.get? c = some o → h'.get? c = some o) → Q (.ref s.heap.objs.size) { s with heap := h', toks := tk }) :
    wpAny (model prog w) A (Builtin.«zip.__next__» ⟨[.ref z], []⟩) (fun fin s' => ∃ v, fin = .done (.ret v) ∧ Q v s') E s := by
  show wpAny _ _ (field (.ref z) 2 >>= _) _ _ _
  refine wpAny_bind (wpAny_field hz rfl (x := .bool false) rfl ?_)
  show wpAny _ _ (field (.ref z) 3 >>= _) _ _ _
  refine wpAny_bind (wpAny_field hz rfl (x := .ref TI) rfl ?_)
  refine wpAny_bind (wpAny_seqItems hTI rfl ?_)
  have he : (L.map fun e => Value.ref e.it).toArray.isEmpty = false := by simp [hL]
  simp only [he, Bool.false_eq_true, if_false]
  show wpAny _ _ (Builtin.SmallTypes.ownedTupleIsFree (.ref z) >>= _) _ _ _
  refine wpAny_bind (zn_free hz hx ?_ fun g0 f' hz0 hs0 => ?_)
  · simp only [if_true]
    refine wpAny_bind (wpAny_rule ?_)
    refine wpAny_bind (wpAny_field hz rfl (x := .ref TO) rfl ?_)
    refine wpAny_bind (wpAny_setField_rec hz (by simp) fun g0 hz0 hs0 => ?_)
    replace hz0 : IsZn g0 z TI TO .ellipsis f := hz0
    replace hs0 : Heap.SameBut z s.heap g0 := hs0
    refine wpAny_bind ?_
    have M0 : ZMid s z TI TO L i f [] L [] olds g0 := ⟨rfl, hz0, hs0.extBut _ _ S.TOz hTO, rfl, lo, (fun _ q => nomatch q), hI.over hs0 fun e he => ⟨(S.it e he).1.symm, (S.it e he).2.2.2.1.symm⟩, hs0.1, fun c o hc q => hs0.extBut _ _ (fun y => hc (by simp [y])) q⟩
    refine wpAny_forIn_list _ (fun rest b s' => ∃ L1 L2 ds olds h' tk, rest = (L2.map fun e => Value.ref e.it).zipIdx L1.length ∧ b = ⟨none, ⟨⟩⟩ ∧ s' = { s with heap := h', toks := tk } ∧ ZMid s z TI TO L i f L1 L2 ds olds h') _ ?_ ?_ _ _ ⟨[], L, [], olds, g0, s.toks, by simp, rfl, rfl, M0⟩
    · rintro ⟨x, k⟩ rest b s' ⟨L1, L2, ds, olds, h', tk, er, rfl, rfl, M⟩
      cases L2 with
      | nil => simp at er
      | cons e L2 =>
        simp only [List.map_cons, List.zipIdx_cons, List.cons.injEq, Prod.mk.injEq] at er
        obtain ⟨⟨rfl, rfl⟩, er⟩ := er
        have me : e ∈ L := by rw [M.spl]; simp
        have lds : ds.length = L1.length := by have := congrArg List.length M.ld; simpa using this
        obtain ⟨oo, olds, rfl⟩ : ∃ oo os, olds = oo :: os := by
          cases olds with
          | nil => exact absurd M.lo (by simp)
          | cons oo os => exact ⟨oo, os, rfl⟩
        refine wpAny_bind (wpAny_onRaise ?_)
        show wpAny _ _ (Builtin.SmallTypes.nextOf (.ref e.it) >>= _) _ _ _
        have D := draws_k (prog := prog) (w := w) (A := A) e.k hh e.it e.a (S.src e me e me) e.xs
        refine wpAny_bind (D.item i _ _ _ (hlt e me) (M.h2 e (by simp)) fun x1 p1 tk1 hx1 sn1 hp1 => wpAny_pure ?_)
        replace hp1 : Heap.SameBut e.it h' p1 := hp1
        have hU1 : IsTn p1 TO (ds ++ oo :: olds) := hp1.extBut _ _ (S.it e me).2.2.1.symm M.hT
        refine wpAny_bind (wpAny_seqItems (s := { s with heap := p1, toks := tk1 }) hU1 rfl ?_)
        refine wpAny_bind (upd_tn (s := { s with heap := p1, toks := tk1 }) hU1 (by have h1 := congrArg List.length M.spl; have h2 := M.lo; simp at h1 h2 ⊢; omega) fun g1 hT1 hs1 => ?_)
        replace hs1 : Heap.SameBut TO p1 g1 := hs1
        refine wpAny_bind (wpAny_letGo (wpAny_pure ?_))
        refine ⟨L1 ++ [e], L2, ds ++ [x1], olds, g1, tk1, by rw [List.length_append]; exact er, rfl, rfl, M.step S hx1 sn1 hp1 (by rw [lds]; exact hT1) hs1⟩
    · rintro b s' ⟨L1, L2, ds, olds, h', tk, er, rfl, rfl, M⟩
      have e2 : L2 = [] := by
        cases L2 with
        | nil => rfl
        | cons e L2 => simp at er
      subst e2
      have e3 : olds = [] := List.eq_nil_of_length_eq_zero M.lo
      subst e3
      obtain ⟨spl, hzz, hT2, ld, _, h1, _, hsz, kp⟩ := M
      rw [List.append_nil] at spl hT2
      subst spl
      refine wpAny_bind (wpAny_seqItems (s := { s with heap := h', toks := tk }) hT2 rfl ?_)
      have lds : ds.length = L.length := by have := congrArg List.length ld; simpa using this
      have hsl : ds.toArray.toList.length ≤ sizeLine := by simp [lds, hn]
      refine wpAny_bind (wpAny_newTuple ?_ hsl)
      have hzlt : z < h'.objs.size := Heap.lt_size hzz
      show wpAny _ _ (Builtin.SmallTypes.ownedTupleHandOut (.ref z) (.ref h'.objs.size) >>= _) _ _ { s with heap := h'.push { cls := .type "tuple", data := .seq ds.toArray }, toks := tk }
      refine wpAny_bind ?_
      unfold Builtin.SmallTypes.ownedTupleHandOut
      have hz₆ : IsZn (h'.push { cls := .type "tuple", data := .seq ds.toArray }) z TI TO .ellipsis f := Heap.get?_push_of_some _ hzz
      refine wpAny_bind (wpAny_setField_rec hz₆ (by simp) fun h₇ hz₇ hs₇ => ?_)
      replace hz₇ : IsZn h₇ z TI TO (rawInt h'.objs.size) f := hz₇
      refine wpAny_setField_rec hz₇ (by simp) fun h₈ hz₈ hs₈ => ?_
      replace hz₈ : IsZn h₈ z TI TO (rawInt h'.objs.size) false := hz₈
      replace hs₇ : Heap.SameBut z (h'.push { cls := .type "tuple", data := .seq ds.toArray }) h₇ := hs₇
      replace hs₈ : Heap.SameBut z h₇ h₈ := hs₈
      have up : ∀ c o, c ≠ z → h'.get? c = some o → h₈.get? c = some o := fun c o c1 e => hs₈.extBut _ _ c1 (hs₇.extBut _ _ c1 (Heap.get?_push_of_some _ e))
      have hT₈ : IsTn h₈ h'.objs.size ds := hs₈.extBut _ _ (Nat.ne_of_gt hzlt) (hs₇.extBut _ _ (Nat.ne_of_gt hzlt) (Heap.get?_push_size _ rfl))
      have hz8 : h₈.objs.size = h'.objs.size + 1 := by rw [hs₈.1, hs₇.1, Heap.size_push]
      rw [hsz] at hz₈ hT₈ hz8
      refine wpAny_pure ⟨_, rfl, ?_⟩
      show Q (.ref h'.objs.size) _
      rw [hsz]
      refine hQ ds h₈ tk _ _ ds ld hz₈ (.inr ⟨_, rfl⟩) (up _ _ S.TOz hT2) (by have := congrArg List.length ld; simpa using this) (h1.keeps fun e he => ⟨fun o q => up _ _ (S.it e he).1 q, fun o q => up _ _ (S.it e he).2.2.2.1 q⟩) hT₈ hz8 fun c o hc q => up c o (fun y => hc (by simp [y])) (kp c o hc q)
  · simp only [Bool.false_eq_true, if_false]
    refine wpAny_bind ?_
    rw [← Array.forIn_toList]
    have I0 : ZAt g0 i L := hI.over hs0 fun e he => ⟨(S.it e he).1.symm, (S.it e he).2.2.2.1.symm⟩
    have M0 : ZMidN g0 L i [] L [] g0 := ⟨rfl, rfl, (fun _ q => nomatch q), I0, rfl, fun c o hc q => q⟩
    refine wpAny_forIn_list _ (fun rest b s' => ∃ L1 L2 ds h' tk, rest = (L2.map fun e => Value.ref e.it) ∧ b = ⟨none, ds.toArray⟩ ∧ s' = { s with heap := h', toks := tk } ∧ ZMidN g0 L i L1 L2 ds h') _ ?_ ?_ _ _ ⟨[], L, [], g0, s.toks, by simp, rfl, rfl, M0⟩
    · rintro x rest b s' ⟨L1, L2, ds, h', tk, er, rfl, rfl, M⟩
      cases L2 with
      | nil => simp at er
      | cons e L2 =>
        simp only [List.map_cons, List.cons.injEq] at er
        obtain ⟨rfl, er⟩ := er
        have me : e ∈ L := by rw [M.spl]; simp
        refine wpAny_bind (wpAny_holding ?_)
        show wpAny _ _ (Builtin.SmallTypes.nextOf (.ref e.it) >>= _) _ _ _
        have D := draws_k (prog := prog) (w := w) (A := A) e.k hh e.it e.a (S.src e me e me) e.xs
        refine wpAny_bind (D.item i _ _ _ (hlt e me) (M.h2 e (by simp)) fun x1 p1 tk1 hx1 sn1 hp1 => wpAny_pure ?_)
        refine wpAny_pure ?_
        exact ⟨L1 ++ [e], L2, ds ++ [x1], p1, tk1, er, by simp, rfl, M.step S hx1 sn1 hp1⟩
    · rintro b s' ⟨L1, L2, ds, h', tk, er, rfl, rfl, M⟩
      have e2 : L2 = [] := by
        cases L2 with
        | nil => rfl
        | cons e L2 => simp at er
      subst e2
      obtain ⟨spl, ld, h1, _, hsz, kp⟩ := M
      rw [List.append_nil] at spl
      subst spl
      have lds : ds.length = L.length := by have := congrArg List.length ld; simpa using this
      have hsl : ds.toArray.toList.length ≤ sizeLine := by simp [lds, hn]
      refine wpAny_bind (wpAny_newTuple ?_ hsl)
      refine wpAny_pure ⟨_, rfl, ?_⟩
      have hsz2 : h'.objs.size = s.heap.objs.size := by rw [hsz, hs0.1]
      show Q (.ref h'.objs.size) _
      have hT : IsTn (h'.push { cls := .type "tuple", data := .seq ds.toArray }) h'.objs.size ds := Heap.get?_push_size _ rfl
      have hsz3 : (h'.push { cls := .type "tuple", data := .seq ds.toArray }).objs.size = s.heap.objs.size + 1 := by rw [Heap.size_push, hsz2]
      rw [hsz2] at hT ⊢
      have nz : z ∉ L.map ZE.it := fun y => by obtain ⟨e, he, q⟩ := List.mem_map.mp y; exact (S.it e he).1 q
      have nT : TO ∉ L.map ZE.it := fun y => by obtain ⟨e, he, q⟩ := List.mem_map.mp y; exact (S.it e he).2.2.1 q
      refine hQ ds _ tk _ _ olds ld (Heap.get?_push_of_some _ (kp _ _ nz hz0)) hx (Heap.get?_push_of_some _ (kp _ _ nT (hs0.extBut _ _ S.TOz hTO))) lo (h1.keeps fun e he => ⟨fun o q => Heap.get?_push_of_some _ q, fun o q => Heap.get?_push_of_some _ q⟩) hT hsz3 fun c o hc q => Heap.get?_push_of_some _ (kp c o (fun y => hc (by simp only [List.mem_cons]; exact .inr (.inr y))) (hs0.extBut _ _ (fun y => hc (by simp [y])) q))
theorem zn_end {x : Value} {f : Bool} {olds : List Value} {Q : PySem.Fin → Shared → Prop} (hh : A.handled = none) (S : ZSep z TI TO L) (hz : IsZn s.heap z TI TO x f) (hx : ZX x) (hTI : IsTn s.heap TI (L.map fun e => .ref e.it)) (hTO : IsTn s.heap TO olds) (lo : olds.length = L.length) (hL : L ≠ []) (hn : L.length ≤ sizeLine)
    (hI : ZAt s.heap i L) (hle : ∀ e ∈ L, i ≤ e.xs.size) (hend : ∃ e ∈ L, i = e.xs.size)
    (hE : ∀ h' tk e, (∀ c o, c ∉ z :: TO :: L.map ZE.it → s.heap.get? c = some o → h'.get? c = some o) → (∃ o, h'.get? e = some o ∧ o.cls = .type "StopIteration") → E (.ref e) { s with heap := h', toks := tk }) :
    wpAny (model prog w) A (Builtin.«zip.__next__» ⟨[.ref z], []⟩) Q E s := by
  show wpAny _ _ (field (.ref z) 2 >>= _) _ _ _
  refine wpAny_bind (wpAny_field hz rfl (x := .bool false) rfl ?_)
  show wpAny _ _ (field (.ref z) 3 >>= _) _ _ _
  refine wpAny_bind (wpAny_field hz rfl (x := .ref TI) rfl ?_)
  refine wpAny_bind (wpAny_seqItems hTI rfl ?_)
  have he : (L.map fun e => Value.ref e.it).toArray.isEmpty = false := by simp [hL]
  simp only [he, Bool.false_eq_true, if_false]
  show wpAny _ _ (Builtin.SmallTypes.ownedTupleIsFree (.ref z) >>= _) _ _ _
  refine wpAny_bind (zn_free hz hx ?_ fun g0 f' hz0 hs0 => ?_)
  · simp only [if_true]
    refine wpAny_bind (wpAny_rule ?_)
    refine wpAny_bind (wpAny_field hz rfl (x := .ref TO) rfl ?_)
    refine wpAny_bind (wpAny_setField_rec hz (by simp) fun g0 hz0 hs0 => ?_)
    replace hz0 : IsZn g0 z TI TO .ellipsis f := hz0
    replace hs0 : Heap.SameBut z s.heap g0 := hs0
    refine wpAny_bind ?_
    have M0 : ZMid s z TI TO L i f [] L [] olds g0 := ⟨rfl, hz0, hs0.extBut _ _ S.TOz hTO, rfl, lo, (fun _ q => nomatch q), hI.over hs0 fun e he => ⟨(S.it e he).1.symm, (S.it e he).2.2.2.1.symm⟩, hs0.1, fun c o hc q => hs0.extBut _ _ (fun y => hc (by simp [y])) q⟩
    refine wpAny_forIn_list _ (fun rest b s' => ∃ L1 L2 ds olds h' tk, rest = (L2.map fun e => Value.ref e.it).zipIdx L1.length ∧ b = ⟨none, ⟨⟩⟩ ∧ s' = { s with heap := h', toks := tk } ∧ ZMid s z TI TO L i f L1 L2 ds olds h' ∧ ∃ e ∈ L2, i = e.xs.size) _ ?_ ?_ _ _ ⟨[], L, [], olds, g0, s.toks, by simp, rfl, rfl, M0, hend⟩
    · rintro ⟨x, k⟩ rest b s' ⟨L1, L2, ds, olds, h', tk, er, rfl, rfl, M, hen⟩
      cases L2 with
      | nil => simp at er
      | cons e L2 =>
        simp only [List.map_cons, List.zipIdx_cons, List.cons.injEq, Prod.mk.injEq] at er
        obtain ⟨⟨rfl, rfl⟩, er⟩ := er
        have me : e ∈ L := by rw [M.spl]; simp
        have lds : ds.length = L1.length := by have := congrArg List.length M.ld; simpa using this
        obtain ⟨oo, olds, rfl⟩ : ∃ oo os, olds = oo :: os := by
          cases olds with
          | nil => exact absurd M.lo (by simp)
          | cons oo os => exact ⟨oo, os, rfl⟩
        refine wpAny_bind (wpAny_onRaise ?_)
        show wpAny _ _ (Builtin.SmallTypes.nextOf (.ref e.it) >>= _) _ _ _
        have D := draws_k (prog := prog) (w := w) (A := A) e.k hh e.it e.a (S.src e me e me) e.xs
        by_cases hlt : i < e.xs.size
        · refine wpAny_bind (D.item i _ _ _ hlt (M.h2 e (by simp)) fun x1 p1 tk1 hx1 sn1 hp1 => wpAny_pure ?_)
          replace hp1 : Heap.SameBut e.it h' p1 := hp1
          have hU1 : IsTn p1 TO (ds ++ oo :: olds) := hp1.extBut _ _ (S.it e me).2.2.1.symm M.hT
          refine wpAny_bind (wpAny_seqItems (s := { s with heap := p1, toks := tk1 }) hU1 rfl ?_)
          refine wpAny_bind (upd_tn (s := { s with heap := p1, toks := tk1 }) hU1 (by have h1 := congrArg List.length M.spl; have h2 := M.lo; simp at h1 h2 ⊢; omega) fun g1 hT1 hs1 => ?_)
          replace hs1 : Heap.SameBut TO p1 g1 := hs1
          refine wpAny_bind (wpAny_letGo (wpAny_pure ?_))
          refine ⟨L1 ++ [e], L2, ds ++ [x1], olds, g1, tk1, by rw [List.length_append]; exact er, rfl, rfl, M.step S hx1 sn1 hp1 (by rw [lds]; exact hT1) hs1, ?_⟩
          obtain ⟨e', m', q⟩ := hen
          rcases List.mem_cons.mp m' with rfl | m'
          · omega
          · exact ⟨e', m', q⟩
        · have hi : i = e.xs.size := by have := hle e me; omega
          refine wpAny_bind (D.done { s with heap := h', toks := tk } _ _ (by rw [← hi]; exact M.h2 e (by simp)) fun q ee hq he => ?_)
          replace hq : Heap.ExtBut e.it h' q := hq
          obtain ⟨oe, hoe, hce⟩ := he
          replace hoe : q.get? ee = some oe := hoe
          have hzq : IsZn q z TI TO .ellipsis f := hq _ _ (S.it e me).1.symm M.hz
          have hez : ee ≠ z := fun x => by subst x; rw [hzq] at hoe; cases hoe; simp at hce
          refine wpAny_setField_rec (s := { s with heap := q, toks := tk }) hzq (by simp) fun q' _ hq' => ?_
          replace hq' : Heap.SameBut z q q' := hq'
          exact hE q' tk ee (fun c o hc x => hq'.extBut _ _ (fun y => hc (by simp [y])) (hq _ _ (fun y => hc (by rw [y]; simp only [List.mem_cons]; exact .inr (.inr (List.mem_map.mpr ⟨e, me, rfl⟩)))) (M.kp c o hc x))) ⟨oe, hq'.extBut _ _ hez hoe, hce⟩
    · rintro b s' ⟨L1, L2, ds, olds, h', tk, er, rfl, rfl, M, e, m, q⟩
      cases L2 with
      | nil => cases m
      | cons e L2 => simp at er
  · simp only [Bool.false_eq_true, if_false]
    refine wpAny_bind ?_
    rw [← Array.forIn_toList]
    have I0 : ZAt g0 i L := hI.over hs0 fun e he => ⟨(S.it e he).1.symm, (S.it e he).2.2.2.1.symm⟩
    have M0 : ZMidN g0 L i [] L [] g0 := ⟨rfl, rfl, (fun _ q => nomatch q), I0, rfl, fun c o hc q => q⟩
    refine wpAny_forIn_list _ (fun rest b s' => ∃ L1 L2 ds h' tk, rest = (L2.map fun e => Value.ref e.it) ∧ b = ⟨none, ds.toArray⟩ ∧ s' = { s with heap := h', toks := tk } ∧ ZMidN g0 L i L1 L2 ds h' ∧ ∃ e ∈ L2, i = e.xs.size) _ ?_ ?_ _ _ ⟨[], L, [], g0, s.toks, by simp, rfl, rfl, M0, hend⟩
    · rintro x rest b s' ⟨L1, L2, ds, h', tk, er, rfl, rfl, M, hen⟩
      cases L2 with
      | nil => simp at er
      | cons e L2 =>
        simp only [List.map_cons, List.cons.injEq] at er
        obtain ⟨rfl, er⟩ := er
        have me : e ∈ L := by rw [M.spl]; simp
        refine wpAny_bind (wpAny_holding ?_)
        show wpAny _ _ (Builtin.SmallTypes.nextOf (.ref e.it) >>= _) _ _ _
        have D := draws_k (prog := prog) (w := w) (A := A) e.k hh e.it e.a (S.src e me e me) e.xs
        by_cases hlt : i < e.xs.size
        · refine wpAny_bind (D.item i _ _ _ hlt (M.h2 e (by simp)) fun x1 p1 tk1 hx1 sn1 hp1 => wpAny_pure ?_)
          refine wpAny_pure ?_
          refine ⟨L1 ++ [e], L2, ds ++ [x1], p1, tk1, er, by simp, rfl, M.step S hx1 sn1 hp1, ?_⟩
          obtain ⟨e', m', q⟩ := hen
          rcases List.mem_cons.mp m' with rfl | m'
          · omega
          · exact ⟨e', m', q⟩
        · have hi : i = e.xs.size := by have := hle e me; omega
          refine wpAny_bind (D.done { s with heap := h', toks := tk } _ _ (by rw [← hi]; exact M.h2 e (by simp)) fun q ee hq he => ?_)
          exact hE q tk ee (fun c o hc x => hq _ _ (fun y => hc (by rw [y]; simp only [List.mem_cons]; exact .inr (.inr (List.mem_map.mpr ⟨e, me, rfl⟩)))) (M.kp c o (fun y => hc (by simp only [List.mem_cons]; exact .inr (.inr y))) (hs0.extBut _ _ (fun y => hc (by simp [y])) x))) he
    · rintro b s' ⟨L1, L2, ds, h', tk, er, rfl, rfl, M, e, m, q⟩
      cases L2 with
      | nil => cases m
      | cons e L2 => simp at er
end
end DL
namespace DL
open PySem PySem.Spec PyProof.Rows L2
variable [TabsCtx]
theorem typeCall_zip_n (vs : List Value) : checkTypeCall "zip" ⟨vs, []⟩ = pure () := by kernel_rfl
theorem newCall_zip_n : ∀ (vs : List Value), vs.length ≤ 8 → checkBuiltinCall "zip.__new__" ⟨.type "zip" :: vs, []⟩ = pure ()
  | [], _ => by kernel_rfl
  | [x0], _ => by kernel_rfl
  | [x0, x1], _ => by kernel_rfl
  | [x0, x1, x2], _ => by kernel_rfl
  | [x0, x1, x2, x3], _ => by kernel_rfl
  | [x0, x1, x2, x3, x4], _ => by kernel_rfl
  | [x0, x1, x2, x3, x4, x5], _ => by kernel_rfl
  | [x0, x1, x2, x3, x4, x5, x6], _ => by kernel_rfl
  | [x0, x1, x2, x3, x4, x5, x6, x7], _ => by kernel_rfl
  | _ :: _ :: _ :: _ :: _ :: _ :: _ :: _ :: _ :: _, h => by simp at h
theorem args_oi_n (obj : Value) (vs : List Value) : argsOk "object.__init__" ⟨obj :: vs, []⟩ := by unfold argsOk; kernel_rfl
def pushes : Heap → List Obj → Heap
  | h, [] => h
  | h, o :: os => pushes (h.push o) os
theorem pushes_size : ∀ (h : Heap) (os : List Obj), (pushes h os).objs.size = h.objs.size + os.length
  | h, [] => rfl
  | h, o :: os => by show (pushes (h.push o) os).objs.size = _; rw [pushes_size, Heap.size_push]; simp; omega
theorem pushes_get : ∀ (h : Heap) (os : List Obj) (c : Addr) (o : Obj), h.get? c = some o → (pushes h os).get? c = some o
  | h, [], c, o, e => e
  | h, x :: os, c, o, e => pushes_get _ os c o (Heap.get?_push_of_some _ e)
theorem pushes_new (os : List Obj) : ∀ (h : Heap) (j : Nat) (o : Obj), os[j]? = some o → o.isFreed = false → (pushes h os).get? (h.objs.size + j) = some o := by
  induction os with
  | nil => intro h j o e; simp at e
  | cons x os ih =>
    intro h j o e f
    cases j with
    | zero =>
      simp only [List.getElem?_cons_zero, Option.some.injEq] at e
      rw [Nat.add_zero, e]
      exact pushes_get (h.push o) os h.objs.size o (Heap.get?_push_size _ f)
    | succ j =>
      have := ih (h.push x) j o (by simpa using e) f
      rw [Heap.size_push] at this
      have q : h.objs.size + (j + 1) = h.objs.size + 1 + j := by omega
      rw [q]; exact this
/-- the sources, with the numbers of their iterators to come -/
def zeFrom : Nat → List (Kd × Addr) → List ZE
  | _, [] => []
  | n, (k, a) :: r => ⟨k, a, n, #[]⟩ :: zeFrom (n + 1) r
def zRefs (ks : List (Kd × Addr)) : List Value := ks.map fun p => .ref p.2
def zObjs (ks : List (Kd × Addr)) : List Obj := ks.map fun p => beginO p.1 p.2
theorem beginO_free (k : Kd) (a : Addr) : (beginO k a).isFreed = false := by cases k <;> rfl
section
variable {prog : Program} {w : World} {A : Around} {E : Value → Shared → Prop}
theorem iterAll_n {s : Shared} {Q : List Value → Shared → Prop} (ks : List (Kd × Addr)) (h : ∀ p ∈ ks, ∃ items, IsS p.1 s.heap p.2 items)
    (hQ : Q ((zeFrom s.heap.objs.size ks).map fun e => .ref e.it) { s with heap := pushes s.heap (zObjs ks) }) : wpAny (model prog w) A (Builtin.SmallTypes.iterAll (zRefs ks)) Q E s := by
  unfold Builtin.SmallTypes.iterAll
  refine wpAny_bind ?_
  refine wpAny_forIn_list _ (fun rest b s' => ∃ (k1 k2 : List (Kd × Addr)) (h' : Heap), ks = k1 ++ k2 ∧ rest = zRefs k2 ∧ s' = { s with heap := h' } ∧ pushes h' (zObjs k2) = pushes s.heap (zObjs ks) ∧ (∀ c o, s.heap.get? c = some o → h'.get? c = some o) ∧
    b.toList ++ (zeFrom h'.objs.size k2).map (fun e => Value.ref e.it) = (zeFrom s.heap.objs.size ks).map fun e => .ref e.it) _ ?_ ?_ _ _ ⟨[], ks, s.heap, rfl, rfl, rfl, rfl, fun _ _ e => e, by simp⟩
  · rintro x rest b s' ⟨k1, k2, h', e1, e2, rfl, e3, kp, e4⟩
    cases k2 with
    | nil => simp [zRefs] at e2
    | cons p k2 =>
      simp only [zRefs, List.map_cons, List.cons.injEq] at e2
      obtain ⟨rfl, e2⟩ := e2
      obtain ⟨items, hi⟩ := h p (by rw [e1]; simp)
      refine wpAny_bind (wpAny_holding ?_)
      refine (begins_k p.1 p.2 items).iter prog w _ _ _ _ ((begins_k p.1 p.2 items).keeps _ _ hi kp) ?_
      refine wpAny_pure ⟨k1 ++ [p], k2, h'.push (beginO p.1 p.2), by rw [e1]; simp, e2, rfl, e3, fun c o e => Heap.get?_push_of_some _ (kp c o e), ?_⟩
      rw [← e4]
      simp [zeFrom, Heap.size_push]
  · rintro b s' ⟨k1, k2, h', e1, e2, rfl, e3, kp, e4⟩
    have e5 : k2 = [] := by
      cases k2 with
      | nil => rfl
      | cons p k2 => simp [zRefs] at e2
    subst e5
    simp only [zeFrom, List.map_nil, List.append_nil] at e4
    have e6 : h' = pushes s.heap (zObjs ks) := e3
    show wpAny _ _ (pure b.toList) _ _ _
    rw [e4, e6]
    exact wpAny_pure hQ
theorem newClass_zip (vs : List Value) : Builtin.SmallTypes.newClass "zip" ⟨.type "zip" :: vs, []⟩ = pure (.type "zip", vs) := by
  unfold Builtin.SmallTypes.newClass
  simp only [isType, sub_zip, pure_bind, Bool.not_true, Bool.false_eq_true, if_false]
abbrev zT (h : Heap) (ks : List (Kd × Addr)) : Heap := (pushes h (zObjs ks)).push { cls := .type "tuple", data := .seq ((zeFrom h.objs.size ks).map fun e => Value.ref e.it).toArray }
abbrev zO (h : Heap) (ks : List (Kd × Addr)) : Heap := (zT h ks).push { cls := .type "tuple", data := .seq ((zeFrom h.objs.size ks).map fun _ => Value.none).toArray }
abbrev zZ (h : Heap) (ks : List (Kd × Addr)) : Heap := (zO h ks).push { cls := .type "zip", data := .fields #[.none, .bool false, .bool false, .ref (pushes h (zObjs ks)).objs.size, .ref (zT h ks).objs.size] }
theorem zeFrom_length : ∀ (n : Nat) (ks : List (Kd × Addr)), (zeFrom n ks).length = ks.length
  | _, [] => rfl
  | n, (k, a) :: r => by simp [zeFrom, zeFrom_length (n + 1) r]
theorem meets_zip_n (ks : List (Kd × Addr)) (hn : ks.length ≤ 8) :
    Meets (Builtin.«zip.__new__» ⟨.type "zip" :: zRefs ks, []⟩) (fun _ R s => (∀ p ∈ ks, ∃ items, IsS p.1 s.heap p.2 items) ∧
      R (.ok (.ret (.ref (zO s.heap ks).objs.size))) { s with heap := zZ s.heap ks }) :=
  .of_wp fun prog w A R s h => by
    obtain ⟨hp, g, d, tk, os⟩ := s; obtain ⟨h1, h⟩ := h
    have hsub := sub_zip
    have q1 : ∀ {A' : Around} {E : Value → Shared → Prop} {Q : List Value → Shared → Prop}, Q ((zeFrom hp.objs.size ks).map fun e => .ref e.it) ⟨pushes hp (zObjs ks), g, d, tk, os⟩ → wpAny (model prog w) A' (Builtin.SmallTypes.iterAll (zRefs ks)) Q E ⟨hp, g, d, tk, os⟩ :=
      fun q => iterAll_n (s := ⟨hp, g, d, tk, os⟩) ks h1 q
    have l1 : ((zeFrom hp.objs.size ks).map fun e => Value.ref e.it).length ≤ sizeLine := by simp [zeFrom_length]; exact Nat.le_trans hn (by decide)
    have l2 : ((zeFrom hp.objs.size ks).map fun e => Value.none).length ≤ sizeLine := by simp [zeFrom_length]; exact Nat.le_trans hn (by decide)
    unfold Builtin.«zip.__new__»
    refine wpAny_bind (wpAny_of_eq (newClass_zip _) ?_)
    show wpAny _ _ (Builtin.SmallTypes.iterAll (zRefs ks) >>= _) _ _ _
    refine wpAny_bind (q1 ?_)
    refine wpAny_bind (wpAny_newTuple ?_ l1)
    have e2 : ((zeFrom hp.objs.size ks).map fun e => Value.ref e.it).map (fun _ => Value.none) = (zeFrom hp.objs.size ks).map fun _ => Value.none := by rw [List.map_map]; rfl
    rw [e2]
    refine wpAny_bind (wpAny_newTuple ?_ l2)
    refine wpAny_bind ?_
    unfold Builtin.SmallTypes.newRecord
    refine wpAny_newObj_type ?_ (by simp [sizeOk, Builtin.SmallTypes.ownedTupleFields]; decide)
    exact wpAny_pure ⟨_, rfl, h⟩
/-- zip of some: its new cells -/
theorem zip_begins_n {s : Shared} {Q : Value → Shared → Prop} (ks : List (Kd × Addr)) (hn : ks.length ≤ 8) (h1 : ∀ p ∈ ks, ∃ items, IsS p.1 s.heap p.2 items)
    (h : ∀ h', IsZn h' (s.heap.objs.size + ks.length + 2) (s.heap.objs.size + ks.length) (s.heap.objs.size + ks.length + 1) .none false → IsTn h' (s.heap.objs.size + ks.length) ((zeFrom s.heap.objs.size ks).map fun e => .ref e.it) →
      IsTn h' (s.heap.objs.size + ks.length + 1) ((zeFrom s.heap.objs.size ks).map fun _ => .none) → (∀ (j : Nat) (p : Kd × Addr), ks[j]? = some p → h'.get? (s.heap.objs.size + j) = some (beginO p.1 p.2)) →
      (∀ c o, s.heap.get? c = some o → h'.get? c = some o) → Q (.ref (s.heap.objs.size + ks.length + 2)) { s with heap := h' }) :
    wpAny (model prog w) A (call (.type "zip") (zRefs ks)) Q E s := by
  refine callType_new F.called_zip (by decide) (typeCall_zip_n _) (newCall_zip_n _ (by simpa [zRefs] using hn)) (fun obj => args_oi_n obj _) F.entry_zip_new
    (meets_zip_n ks hn) ⟨h1, ?_⟩
  have zp : (pushes s.heap (zObjs ks)).objs.size = s.heap.objs.size + ks.length := by rw [pushes_size]; simp [zObjs]
  have zt : (zT s.heap ks).objs.size = s.heap.objs.size + ks.length + 1 := by rw [Heap.size_push, zp]
  have zo : (zO s.heap ks).objs.size = s.heap.objs.size + ks.length + 2 := by rw [Heap.size_push, zt]
  have gZ : (zZ s.heap ks).get? (zO s.heap ks).objs.size = some { cls := .type "zip", data := .fields #[.none, .bool false, .bool false, .ref (pushes s.heap (zObjs ks)).objs.size, .ref (zT s.heap ks).objs.size] } := Heap.get?_push_size _ rfl
  have gO : (zZ s.heap ks).get? (zT s.heap ks).objs.size = some { cls := .type "tuple", data := .seq ((zeFrom s.heap.objs.size ks).map fun _ => Value.none).toArray } := Heap.get?_push_of_some _ (Heap.get?_push_size _ rfl)
  have gT : (zZ s.heap ks).get? (pushes s.heap (zObjs ks)).objs.size = some { cls := .type "tuple", data := .seq ((zeFrom s.heap.objs.size ks).map fun e => Value.ref e.it).toArray } := Heap.get?_push_of_some _ (Heap.get?_push_of_some _ (Heap.get?_push_size _ rfl))
  have up : ∀ c o, (pushes s.heap (zObjs ks)).get? c = some o → (zZ s.heap ks).get? c = some o := fun c o e => Heap.get?_push_of_some _ (Heap.get?_push_of_some _ (Heap.get?_push_of_some _ e))
  rw [zp, zt, zo] at gZ
  rw [zt] at gO
  rw [zp] at gT
  show _ ∧ _
  rw [zo]
  refine ⟨⟨_, gZ, rfl⟩, h _ gZ gT gO (fun j p e => up _ _ (pushes_new _ _ _ _ (by simp [zObjs, e]) (beginO_free _ _))) fun c o e => up c o (pushes_get _ _ _ _ e)⟩
section
variable {s : Shared} {z TI TO : Addr} {L : List ZE} {i : Nat}
theorem zn_next_item {x : Value} {f : Bool} {olds : List Value} {Q : Option Value → Shared → Prop} (hh : A.in1.handled = none) (S : ZSep z TI TO L) (hz : IsZn s.heap z TI TO x f) (hx : ZX x) (hTI : IsTn s.heap TI (L.map fun e => .ref e.it)) (hTO : IsTn s.heap TO olds) (lo : olds.length = L.length) (hL : L ≠ []) (hn : L.length ≤ sizeLine)
    (hI : ZAt s.heap i L) (hlt : ∀ e ∈ L, i < e.xs.size)
    (hQ : ∀ ds h' tk x' f' olds', ds.map some = L.map (fun e => e.xs[i]?) → IsZn h' z TI TO x' f' → ZX x' → IsTn h' TO olds' → olds'.length = L.length → ZAt h' (i + 1) L → IsTn h' s.heap.objs.size ds → h'.objs.size = s.heap.objs.size + 1 →
      (∀ c o, c ∉ z :: TO :: L.map ZE.it → s.heap.get? c = some o → h'.get? c = some o) → Q (some (.ref s.heap.objs.size)) { s with heap := h', toks := tk }) :
    wpAny (model prog w) A (pyNext (.ref z)) Q E s := by
  have hT : s.TypeIs (.ref z) "zip" := ⟨_, hz, rfl⟩
  unfold pyNext
  exact wpAny_bind (wpAny_attempt (wpAny_callSpecial?_slot (name := Str.ofString "__next__") hT F.slot_zip_next
    (wpAny_call_entry F.slot_zip_next hT F.entry_zip_next
      (zn_item hh S hz hx hTI hTO lo hL hn hI hlt fun ds h' tk x' f' olds' a b c d e g j k l => wpAny_pure (hQ ds h' tk x' f' olds' a b c d e g j k l)) (F.args_zip_next_1 _))))
theorem zn_next_end {x : Value} {f : Bool} {olds : List Value} {Q : Option Value → Shared → Prop} (hh : A.in1.handled = none) (S : ZSep z TI TO L) (hz : IsZn s.heap z TI TO x f) (hx : ZX x) (hTI : IsTn s.heap TI (L.map fun e => .ref e.it)) (hTO : IsTn s.heap TO olds) (lo : olds.length = L.length) (hL : L ≠ []) (hn : L.length ≤ sizeLine)
    (hI : ZAt s.heap i L) (hle : ∀ e ∈ L, i ≤ e.xs.size) (hend : ∃ e ∈ L, i = e.xs.size)
    (hQ : ∀ h' tk, (∀ c o, c ∉ z :: TO :: L.map ZE.it → s.heap.get? c = some o → h'.get? c = some o) → Q none { s with heap := h', toks := tk }) : wpAny (model prog w) A (pyNext (.ref z)) Q E s := by
  have hT : s.TypeIs (.ref z) "zip" := ⟨_, hz, rfl⟩
  unfold pyNext
  refine wpAny_bind (wpAny_attempt (wpAny_callSpecial?_slot (name := Str.ofString "__next__") hT F.slot_zip_next
    (wpAny_call_entry F.slot_zip_next hT F.entry_zip_next (zn_end hh S hz hx hTI hTO lo hL hn hI hle hend fun h' tk e hk he => ?_) (F.args_zip_next_1 _))))
  obtain ⟨o, ho, hc⟩ := he
  refine wpAny_bind (wpAny_isInstance (T := "StopIteration") (b := true) ⟨o, ho, hc⟩ isSubtype_stop ?_)
  exact wpAny_pure (hQ _ _ hk)
theorem zn_go {tg : Expr} {T : Addr} {x : Value} {f : Bool} {Q : Unit → Shared → Prop} (hz : IsZn s.heap z TI TO x f) (hx : ZX x) (hQ : ∀ h' x', IsZn h' z TI TO x' f → ZX x' → Heap.SameBut z s.heap h' → Q () { s with heap := h' }) :
    wpAny (model prog w) A (letOwnedTupleGo tg (.ref z) (.ref T)) Q E s := by
  have key : wpAny (model prog w) A (load z >>= fun o => match o.cls, o.data with
      | .type n, .fields vs =>
        if (["enumerate", "zip", "dict_itemiterator", "dict_reverseitemiterator", "odict_iterator", "itertools.zip_longest", "itertools.pairwise"].contains n && vs[0]? == some (rawInt T)) = true then do
          rule "for.unpacks-the-owned-tuple"
          updateField z 0 .none
        else pure ()
      | _, _ => pure ()) Q E s := by
    refine wpAny_bind (wpAny_load hz ?_)
    dsimp only
    split
    · refine wpAny_bind (wpAny_rule ?_)
      show wpAny _ _ (setField (.ref z) 0 .none) Q E s
      exact wpAny_setField_rec hz (by simp) fun h' hz' hs' => hQ h' .none hz' (.inl rfl) hs'
    · exact wpAny_pure (hQ s.heap x hz hx (Heap.SameBut.refl _ _))
  unfold letOwnedTupleGo
  cases tg <;> first
    | exact wpAny_pure (hQ s.heap x hz hx (Heap.SameBut.refl _ _))
    | exact key
theorem zn_iter {x : Value} {f : Bool} {Q : Value → Shared → Prop} (hz : IsZn s.heap z TI TO x f) (h : Q (.ref z) s) : wpAny (model prog w) A (pyIter (.ref z)) Q E s := by
  have hT : s.TypeIs (.ref z) "zip" := ⟨_, hz, rfl⟩
  refine wpAny_pyIter_slot hT F.slot_zip_iter (wpAny_call_entry F.slot_zip_iter hT F.entry_zip_iter ?_ (F.args_zip_iter_1 _))
  show wpAny _ _ (ret (.ref z)) _ _ s
  exact wpAny_pure ⟨_, rfl, "zip", _, hT, F.slot_zip_next.lookup, h⟩
end
end
end DL
namespace DL
open PySem PySem.Spec PyProof.Rows L2
variable [TabsCtx]
def SqAll (K : PySem.W.Frag) : List (Kd × Addr) → Hp → List (List V) → Prop
  | [], _, xss => xss = []
  | p :: r, H, xss => ∃ xs t, xss = xs :: t ∧ SqK K p.1 H p.2 xs ∧ SqAll K r H t
def ItZn (K : PySem.W.Frag) (ks : List (Kd × Addr)) : It :=
  ⟨fun i H => ∃ xss, SqAll K ks H xss ∧ ∀ xs ∈ xss, i < xs.length,
    fun i H v H' => ∃ T ys, v = .ref T ∧ H T = none ∧ H' = upd H T (.tup ys) ∧ ∀ xss, SqAll K ks H xss → ys.map some = xss.map fun xs => xs[i]?,
    fun i H => ∃ xss, SqAll K ks H xss ∧ (∀ xs ∈ xss, i ≤ xs.length) ∧ ∃ xs ∈ xss, i = xs.length⟩
def ZR : List (List V) → List ZE → Prop
  | [], L => L = []
  | xs :: r, L => ∃ e t, L = e :: t ∧ Vals xs e.xs.toList ∧ ZR r t
theorem ZR.lt {i : Nat} : ∀ {xss : List (List V)} {L : List ZE}, ZR xss L → (∀ xs ∈ xss, i < xs.length) → ∀ e ∈ L, i < e.xs.size
  | [], _, h, _, e, he => by cases h; cases he
  | xs :: r, _, ⟨e, t, rfl, v, z⟩, hl, f, hf => by
    rcases List.mem_cons.mp hf with rfl | hf
    · have := v.length; have h2 := hl xs (by simp); simp at this; omega
    · exact ZR.lt z (fun y hy => hl y (by simp [hy])) f hf
theorem ZR.le {i : Nat} : ∀ {xss : List (List V)} {L : List ZE}, ZR xss L → (∀ xs ∈ xss, i ≤ xs.length) → ∀ e ∈ L, i ≤ e.xs.size
  | [], _, h, _, e, he => by cases h; cases he
  | xs :: r, _, ⟨e, t, rfl, v, z⟩, hl, f, hf => by
    rcases List.mem_cons.mp hf with rfl | hf
    · have := v.length; have h2 := hl xs (by simp); simp at this; omega
    · exact ZR.le z (fun y hy => hl y (by simp [hy])) f hf
theorem ZR.ends {i : Nat} : ∀ {xss : List (List V)} {L : List ZE}, ZR xss L → (∃ xs ∈ xss, i = xs.length) → ∃ e ∈ L, i = e.xs.size
  | [], _, h, ⟨_, hx, _⟩ => by cases hx
  | xs :: r, _, ⟨e, t, rfl, v, z⟩, ⟨y, hy, q⟩ => by
    rcases List.mem_cons.mp hy with rfl | hy
    · have := v.length; simp at this; exact ⟨e, by simp, by omega⟩
    · obtain ⟨f, hf, q'⟩ := ZR.ends z ⟨y, hy, q⟩
      exact ⟨f, by simp [hf], q'⟩
theorem ZR.row {i : Nat} : ∀ {xss : List (List V)} {L : List ZE} {ds : List Value}, ZR xss L → ds.map some = L.map (fun e => e.xs[i]?) → ∃ ys : List V, Vals ys ds ∧ ys.map some = xss.map fun xs => xs[i]?
  | [], _, ds, h, hd => by cases h; cases ds with
    | nil => exact ⟨[], .nil, rfl⟩
    | cons _ _ => simp at hd
  | xs :: r, _, ds, ⟨e, t, rfl, v, z⟩, hd => by
    cases ds with
    | nil => simp at hd
    | cons d ds =>
      simp only [List.map_cons, List.cons.injEq] at hd
      obtain ⟨ys, h1, h2⟩ := ZR.row z hd.2
      have hd1 : e.xs.toList[i]? = some d := by rw [Array.getElem?_toList]; exact hd.1.symm
      obtain ⟨y, hy⟩ : ∃ y, xs[i]? = some y := by
        cases q : xs[i]? with
        | none => rw [v.none_of q] at hd1; cases hd1
        | some y => exact ⟨y, rfl⟩
      obtain ⟨u, hu, ry⟩ := v.get hy
      rw [hd1] at hu; cases hu
      exact ⟨y :: ys, .cons ry h1, by simp [h2, hy]⟩
section
variable {X : Cx} {pins : List (Addr × Obj)} {σ : Sg} {H : Hp} {s : Shared}
theorem sqall_inj (I : Inv X pins σ H s) : ∀ {ks : List (Kd × Addr)} {xss yss : List (List V)}, SqAll X.K ks H xss → SqAll X.K ks H yss → xss = yss
  | [], _, _, h, h' => by cases h; cases h'; rfl
  | p :: r, _, _, ⟨xs, t, rfl, a, b⟩, ⟨ys, u, rfl, a', b'⟩ => by rw [sqk_inj I a a', sqall_inj I b b']
theorem sqall_ze (I : Inv X pins σ H s) : ∀ {ks : List (Kd × Addr)} {xss : List (List V)} (n : Nat), SqAll X.K ks H xss → ∃ L : List ZE, (L.map fun e => (e.k, e.a, e.it)) = ((zeFrom n ks).map fun e => (e.k, e.a, e.it)) ∧ (∀ e ∈ L, IsS e.k s.heap e.a e.xs) ∧ ZR xss L
  | [], _, n, h => by cases h; exact ⟨[], rfl, (fun _ q => nomatch q), rfl⟩
  | (k, a) :: r, _, n, ⟨xs, t, rfl, h, b⟩ => by
    obtain ⟨L, e1, e2, e3⟩ := sqall_ze I (n + 1) b
    obtain ⟨its, rv, p⟩ := sqk_vals I h
    refine ⟨⟨k, a, n, its.toArray⟩ :: L, by simp [zeFrom, e1], fun e he => ?_, ⟨_, _, rfl, by simpa using rv, e3⟩⟩
    rcases List.mem_cons.mp he with rfl | he
    · exact p
    · exact e2 e he
end
theorem zeFrom_num : ∀ (n : Nat) (ks : List (Kd × Addr)) (e : ZE), e ∈ zeFrom n ks → n ≤ e.it ∧ e.it < n + ks.length ∧ (e.k, e.a) ∈ ks
  | _, [], e, h => by cases h
  | n, (k, a) :: r, e, h => by
    rcases List.mem_cons.mp h with rfl | h
    · exact ⟨Nat.le_refl _, by simp, by simp⟩
    · obtain ⟨h1, h2, h3⟩ := zeFrom_num (n + 1) r e h
      exact ⟨by omega, by simp; omega, by simp [h3]⟩
theorem zeFrom_nd : ∀ (n : Nat) (ks : List (Kd × Addr)), ((zeFrom n ks).map ZE.it).Nodup
  | _, [] => .nil
  | n, (k, a) :: r => by
    refine List.nodup_cons.mpr ⟨fun h => ?_, zeFrom_nd (n + 1) r⟩
    obtain ⟨e, he, q⟩ := List.mem_map.mp h
    have := (zeFrom_num (n + 1) r e he).1
    have q' : e.it = n := q
    omega
theorem zeFrom_get : ∀ (n : Nat) (ks : List (Kd × Addr)) (e : ZE), e ∈ zeFrom n ks → ∃ j, ks[j]? = some (e.k, e.a) ∧ e.it = n + j
  | _, [], e, h => by cases h
  | n, (k, a) :: r, e, h => by
    rcases List.mem_cons.mp h with rfl | h
    · exact ⟨0, rfl, rfl⟩
    · obtain ⟨j, h1, h2⟩ := zeFrom_get (n + 1) r e h
      exact ⟨j + 1, h1, by omega⟩
theorem zeSep {n : Nat} {ks : List (Kd × Addr)} (h : ∀ p ∈ ks, p.2 < n) : ZSep (n + ks.length + 2) (n + ks.length) (n + ks.length + 1) (zeFrom n ks) where
  TIz := Nat.ne_of_lt (by omega)
  TOz := Nat.ne_of_lt (by omega)
  TITO := Nat.ne_of_lt (by omega)
  it := fun e he => by
    obtain ⟨h1, h2, h3⟩ := zeFrom_num n ks e he
    have t : e.a < n := h _ h3
    exact ⟨Nat.ne_of_lt (by omega), Nat.ne_of_lt (by omega), Nat.ne_of_lt (by omega), Nat.ne_of_lt (by omega), Nat.ne_of_lt (by omega)⟩
  nd := zeFrom_nd n ks
  src := fun e he f hf => by
    obtain ⟨h1, h2, h3⟩ := zeFrom_num n ks e he
    obtain ⟨g1, g2, g3⟩ := zeFrom_num n ks f hf
    have t : e.a < n := h _ h3
    exact Nat.ne_of_lt (by omega)
theorem ZSep.of {z TI TO : Addr} {L L0 : List ZE} (S : ZSep z TI TO L0) (e : (L.map fun e => (e.k, e.a, e.it)) = (L0.map fun e => (e.k, e.a, e.it))) : ZSep z TI TO L := by
  have tr : ∀ x ∈ L, ∃ y ∈ L0, (y.k, y.a, y.it) = (x.k, x.a, x.it) := fun x hx => by
    have : (x.k, x.a, x.it) ∈ L0.map fun e => (e.k, e.a, e.it) := by rw [← e]; exact List.mem_map.mpr ⟨x, hx, rfl⟩
    obtain ⟨y, hy, q⟩ := List.mem_map.mp this
    exact ⟨y, hy, q⟩
  refine ⟨S.TIz, S.TOz, S.TITO, fun x hx => ?_, ?_, fun x hx y hy => ?_⟩
  · obtain ⟨y, hy, q⟩ := tr x hx
    simp only [Prod.mk.injEq] at q
    have := S.it y hy
    rw [q.2.1, q.2.2] at this
    exact this
  · have e2 : L.map ZE.it = L0.map ZE.it := by
      have := congrArg (List.map fun p : Kd × Addr × Addr => p.2.2) e
      simpa [List.map_map, Function.comp_def] using this
    rw [e2]; exact S.nd
  · obtain ⟨x', hx', q⟩ := tr x hx
    obtain ⟨y', hy', q'⟩ := tr y hy
    simp only [Prod.mk.injEq] at q q'
    have := S.src x' hx' y' hy'
    rw [q.2.1, q'.2.2] at this
    exact this
/-- the zip's cells ahead of turn i -/
structure ZSt (z TI TO n : Nat) (ks : List (Kd × Addr)) (i : Nat) (h : Heap) : Prop where
  ex : ∃ x f olds, IsZn h z TI TO x f ∧ ZX x ∧ IsTn h TO olds ∧ olds.length = ks.length
  tI : IsTn h TI ((zeFrom n ks).map fun e => .ref e.it)
  at_ : ∀ e ∈ zeFrom n ks, ItS e.k h e.it e.a i
theorem turn_zn {P : Program} {w : World} {K : PySem.W.Frag} {tg : Expr} {z TI TO n : Addr} {ks : List (Kd × Addr)} (hne : ks ≠ []) (hn : ks.length ≤ 8) (S0 : ZSep z TI TO (zeFrom n ks)) :
    Turn P w K tg (ItZn K ks) (z :: TI :: TO :: (zeFrom n ks).map ZE.it) z (ZSt z TI TO n ks) where
  mem := by simp
  obj := fun i h st c hc => by
    obtain ⟨⟨x, f, olds, hz, hx, hT, lo⟩, hTI, ha⟩ := st
    simp only [List.mem_cons] at hc
    rcases hc with q | q | q | q
    · rw [q]; exact ⟨_, hz, fun v q => nomatch q⟩
    · rw [q]; exact ⟨_, hTI, fun v q => nomatch q⟩
    · rw [q]; exact ⟨_, hT, fun v q => nomatch q⟩
    · obtain ⟨e, he, rfl⟩ := List.mem_map.mp q
      exact its_obj (ha e he)
  keep := fun i h h' st kp => by
    obtain ⟨⟨x, f, olds, hz, hx, hT, lo⟩, hTI, ha⟩ := st
    exact ⟨⟨x, f, olds, kp z (by simp) _ hz, hx, kp TO (by simp) _ hT, lo⟩, kp TI (by simp) _ hTI, fun e he => its_at (ha e he) fun o q => kp e.it (by simp only [List.mem_cons]; exact .inr (.inr (.inr (List.mem_map.mpr ⟨e, he, rfl⟩)))) o q⟩
  item := by
    intro X hP hw hK hc i pins s σ H E I hf st hg
    subst hP hw hK
    obtain ⟨⟨x, f, olds, hz, hx, hT, lo⟩, hTI, ha⟩ := st
    obtain ⟨xss, hq, hlt⟩ := hg
    obtain ⟨L, eb, hS, zr⟩ := sqall_ze I n hq
    have S := S0.of eb
    have eit : L.map ZE.it = (zeFrom n ks).map ZE.it := by
      have := congrArg (List.map fun p : Kd × Addr × Addr => p.2.2) eb
      simpa [List.map_map, Function.comp_def] using this
    have eref : (L.map fun e => Value.ref e.it) = (zeFrom n ks).map fun e => Value.ref e.it := by
      have := congrArg (List.map fun p : Kd × Addr × Addr => Value.ref p.2.2) eb
      simpa [List.map_map, Function.comp_def] using this
    have elen : L.length = ks.length := by have := congrArg List.length eb; simpa [zeFrom_length] using this
    have back : ∀ e ∈ L, ∃ y ∈ zeFrom n ks, (y.k, y.a, y.it) = (e.k, e.a, e.it) := fun x hx => by
      have : (x.k, x.a, x.it) ∈ (zeFrom n ks).map fun e => (e.k, e.a, e.it) := by rw [← eb]; exact List.mem_map.mpr ⟨x, hx, rfl⟩
      obtain ⟨y, hy, q⟩ := List.mem_map.mp this
      exact ⟨y, hy, q⟩
    have forth : ∀ e ∈ zeFrom n ks, ∃ y ∈ L, (y.k, y.a, y.it) = (e.k, e.a, e.it) := fun x hx => by
      have : (x.k, x.a, x.it) ∈ L.map fun e => (e.k, e.a, e.it) := by rw [eb]; exact List.mem_map.mpr ⟨x, hx, rfl⟩
      obtain ⟨y, hy, q⟩ := List.mem_map.mp this
      exact ⟨y, hy, q⟩
    have hI : ZAt s.heap i L := fun e he => by
      obtain ⟨y, hy, q⟩ := back e he
      simp only [Prod.mk.injEq] at q
      have := ha y hy
      rw [q.1, q.2.1, q.2.2] at this
      exact ⟨this, hS e he⟩
    have hL : L ≠ [] := fun q => hne (List.eq_nil_of_length_eq_zero (by rw [← elen, q]; rfl))
    have hsz : L.length ≤ sizeLine := by rw [elen]; exact Nat.le_trans hn (by decide)
    refine zn_next_item (A := X.A) (I.ok.hd hc) S hz hx (by rw [eref]; exact hTI) hT (by rw [elen]; exact lo) hL hsz hI (zr.lt hlt) fun ds h' tk x' f' olds' hds hz' hx' hTO' lo' hI' hTT _ hk => ?_
    obtain ⟨ys, rys, eys⟩ := zr.row hds
    refine ⟨.ref s.heap.objs.size, rfl, zn_go (s := { s with heap := h', toks := tk }) hz' hx' fun h'' x'' hz'' hx'' hs => ?_⟩
    replace hs : Heap.SameBut z h' h'' := hs
    have zlt : z < s.heap.objs.size := Heap.lt_size hz
    have Tz : s.heap.objs.size ≠ z := Nat.ne_of_gt zlt
    have hT2 : h''.IsTuple s.heap.objs.size ds.toArray := ⟨_, hs.extBut _ _ Tz hTT, rfl, _, rfl⟩
    have lys : ys.length = ds.length := rys.length
    have lds : ds.length = L.length := by have := congrArg List.length hds; simpa using this
    have new : ObjOk X.prog X.w (upd H s.heap.objs.size (.tup ys)) h'' s.heap.objs.size (.tup ys) :=
      ⟨by show ys.length ≤ sizeLine; omega, ds, rys, hT2⟩
    have I1 : Inv X pins σ (upd H s.heap.objs.size (.tup ys)) { s with heap := h'', toks := tk } :=
      I.turnedNew (ch := z :: TI :: TO :: (zeFrom n ks).map ZE.it) (fun c ob hb q => hs.extBut _ _ (fun y => hb (by simp [y])) (hk c ob (fun hm => hb (by
        rw [eit] at hm
        simp only [List.mem_cons] at hm ⊢
        rcases hm with q | q | q
        · exact .inl q
        · exact .inr (.inr (.inl q))
        · exact .inr (.inr (.inr q)))) q)) hf (Nat.le_refl _) new
    have nTI : TI ∉ z :: TO :: L.map ZE.it := fun hm => by
      simp only [List.mem_cons] at hm
      rcases hm with q | q | q
      · exact S.TIz q
      · exact S.TITO q
      · obtain ⟨e, he, q'⟩ := List.mem_map.mp q
        exact (S.it e he).2.1 q'
    refine ⟨.ref s.heap.objs.size, _, I1, rfl, ⟨s.heap.objs.size, ys, rfl, I.hok.fresh (Nat.le_refl _), rfl, fun xss' h' => by rw [sqall_inj I h' hq]; exact eys⟩, ?_, fun c hcm => ?_⟩
    · refine ⟨⟨x'', f', olds', hz'', hx'', hs.extBut _ _ S.TOz hTO', by rw [lo', elen]⟩, hs.extBut _ _ S.TIz (hk _ _ nTI hTI), fun e he => ?_⟩
      obtain ⟨y, hy, q⟩ := forth e he
      simp only [Prod.mk.injEq] at q
      have := its_at (hI' y hy).1 fun o q1 => hs.extBut _ _ (S.it y hy).1 q1
      rw [q.1, q.2.1, q.2.2] at this
      exact this
    · have hcs : ∃ o, s.heap.get? c = some o := by
        simp only [List.mem_cons] at hcm
        rcases hcm with q | q | q | q
        · rw [q]; exact ⟨_, hz⟩
        · rw [q]; exact ⟨_, hTI⟩
        · rw [q]; exact ⟨_, hT⟩
        · obtain ⟨e, he, rfl⟩ := List.mem_map.mp q
          obtain ⟨o, q, _⟩ := its_obj (ha e he); exact ⟨o, q⟩
      obtain ⟨o, ho⟩ := hcs
      rw [upd_ne (Nat.ne_of_lt (Heap.lt_size ho))]
      exact (hf c hcm).1
  done := by
    intro X hP hw hK hc i pins s σ H E I hf st hg
    subst hP hw hK
    obtain ⟨⟨x, f, olds, hz, hx, hT, lo⟩, hTI, ha⟩ := st
    obtain ⟨xss, hq, hle, hend⟩ := hg
    obtain ⟨L, eb, hS, zr⟩ := sqall_ze I n hq
    have S := S0.of eb
    have eit : L.map ZE.it = (zeFrom n ks).map ZE.it := by
      have := congrArg (List.map fun p : Kd × Addr × Addr => p.2.2) eb
      simpa [List.map_map, Function.comp_def] using this
    have eref : (L.map fun e => Value.ref e.it) = (zeFrom n ks).map fun e => Value.ref e.it := by
      have := congrArg (List.map fun p : Kd × Addr × Addr => Value.ref p.2.2) eb
      simpa [List.map_map, Function.comp_def] using this
    have elen : L.length = ks.length := by have := congrArg List.length eb; simpa [zeFrom_length] using this
    have hI : ZAt s.heap i L := fun x hx => by
      have : (x.k, x.a, x.it) ∈ (zeFrom n ks).map fun e => (e.k, e.a, e.it) := by rw [← eb]; exact List.mem_map.mpr ⟨x, hx, rfl⟩
      obtain ⟨y, hy, q⟩ := List.mem_map.mp this
      simp only [Prod.mk.injEq] at q
      have := ha y hy
      rw [q.1, q.2.1, q.2.2] at this
      exact ⟨this, hS x hx⟩
    have hL : L ≠ [] := fun q => hne (List.eq_nil_of_length_eq_zero (by rw [← elen, q]; rfl))
    have hsz : L.length ≤ sizeLine := by rw [elen]; exact Nat.le_trans hn (by decide)
    refine zn_next_end (A := X.A) (I.ok.hd hc) S hz hx (by rw [eref]; exact hTI) hT (by rw [elen]; exact lo) hL hsz hI (zr.le hle) (zr.ends hend) fun h' tk hk => ⟨rfl, I.turnedL (ch := z :: TI :: TO :: (zeFrom n ks).map ZE.it) (fun c o hb q => hk c o (fun hm => hb ?_) q) hf⟩
    rw [eit] at hm
    simp only [List.mem_cons] at hm ⊢
    rcases hm with q | q | q
    · exact .inl q
    · exact .inr (.inr (.inl q))
    · exact .inr (.inr (.inr q))
  self := fun A i s Q E st h => by obtain ⟨⟨x, f, olds, hz, _⟩, _⟩ := st; exact zn_iter hz h
end DL
namespace DL
open PySem PySem.Spec PyProof.Rows L2
variable [TabsCtx]
/-- the rows walked side by side -/
def zipN (rows : List (List D)) : List D := match rows with
  | [] => []
  | r :: rs => (List.range (rs.foldl (fun n x => min n x.length) r.length)).map fun i => .tup (rows.map fun x => x.getD i .non)
def rowsI (st : Store) : List D → Option (List (List D) × List Nat)
  | [] => some ([], [])
  | d :: ds => (seqI st d).bind fun p => (rowsI st ds).map fun q => (p.1 :: q.1, p.2 ++ q.2)
def znI (st : Store) (d : D) : Option (List D × List Nat) := (seqI st d).bind fun p => (rowsI st p.1).bind fun q => if q.1.length = 0 ∨ 8 < q.1.length then none else some (zipN q.1, q.2)
def iZnF (f : Fe) : Fi := fun ρ st => (f ρ st).bind fun d s1 => liftI (znI s1 d) s1
theorem foldmin_le : ∀ (rs : List (List D)) (n : Nat), rs.foldl (fun n x => min n x.length) n ≤ n ∧ ∀ x ∈ rs, rs.foldl (fun n x => min n x.length) n ≤ x.length
  | [], n => ⟨Nat.le_refl _, fun _ q => nomatch q⟩
  | r :: rs, n => by
    obtain ⟨h1, h2⟩ := foldmin_le rs (min n r.length)
    simp only [List.foldl_cons]
    refine ⟨by omega, fun x hx => ?_⟩
    rcases List.mem_cons.mp hx with rfl | hx
    · omega
    · exact h2 x hx
theorem foldmin_mem : ∀ (rs : List (List D)) (n : Nat), rs.foldl (fun n x => min n x.length) n = n ∨ ∃ x ∈ rs, rs.foldl (fun n x => min n x.length) n = x.length
  | [], n => .inl rfl
  | r :: rs, n => by
    simp only [List.foldl_cons]
    rcases foldmin_mem rs (min n r.length) with h | ⟨x, hx, h⟩
    · rcases Nat.le_total n r.length with q | q
      · exact .inl (by rw [h]; omega)
      · exact .inr ⟨r, by simp, by rw [h]; omega⟩
    · exact .inr ⟨x, by simp [hx], h⟩
theorem zipN_len {rows : List (List D)} (hne : rows ≠ []) : (∀ x ∈ rows, (zipN rows).length ≤ x.length) ∧ ∃ x ∈ rows, (zipN rows).length = x.length := by
  cases rows with
  | nil => exact absurd rfl hne
  | cons r rs =>
    have e : (zipN (r :: rs)).length = rs.foldl (fun n x => min n x.length) r.length := by simp [zipN]
    rw [e]
    obtain ⟨h1, h2⟩ := foldmin_le rs r.length
    refine ⟨fun x hx => ?_, ?_⟩
    · rcases List.mem_cons.mp hx with rfl | hx
      · exact h1
      · exact h2 x hx
    · rcases foldmin_mem rs r.length with h | ⟨x, hx, h⟩
      · exact ⟨r, by simp, h⟩
      · exact ⟨x, by simp [hx], h⟩
theorem zipN_get {rows : List (List D)} {i : Nat} {d : D} (h : (zipN rows)[i]? = some d) : d = .tup (rows.map fun x => x.getD i .non) := by
  cases rows with
  | nil => simp [zipN] at h
  | cons r rs =>
    unfold zipN at h
    simp only [List.getElem?_map] at h
    obtain ⟨j, h1, h2⟩ := Option.map_eq_some_iff.mp h
    obtain ⟨hl, e⟩ := List.getElem?_eq_some_iff.mp h1
    simp at e
    rw [← h2, e]
/-- each row's values, now and later -/
def SrcN (K : PySem.W.Frag) (B : List Addr) (ks : List (Kd × Addr)) (rows : List (List D)) (ws : List Nat) (s1 : Store) (H1 : Hp) (m1 : List Addr) : Prop :=
  ∀ (B' : List Addr) (H : Hp) (m : List Addr) (st : Store), (∀ b ∈ B', b ∈ B ∨ H1 b = none) → Evo H1 m1 H m → RepSt ⟨K, B'⟩ H m st → sameAt ws s1 st = true → ∃ xss, SqAll K ks H xss ∧ RowsR K B' H m rows xss
where RowsR (K : PySem.W.Frag) (B' : List Addr) (H : Hp) (m : List Addr) : List (List D) → List (List V) → Prop
  | [], xss => xss = []
  | r :: rs, xss => ∃ xs t, xss = xs :: t ∧ RepL ⟨K, B'⟩ H m r xs ∧ RowsR K B' H m rs t
section
variable {K : PySem.W.Frag} {B B' : List Addr} {H H1 : Hp} {m m1 : List Addr} {s1 : Store}
theorem same_app {w1 w2 : List Nat} {s1 st : Store} (h : sameAt (w1 ++ w2) s1 st = true) : sameAt w1 s1 st = true ∧ sameAt w2 s1 st = true := by
  unfold sameAt at h ⊢
  rw [List.all_append, Bool.and_eq_true] at h
  exact h
theorem rowsI_src (rs : RepSt ⟨K, B⟩ H1 m1 s1) : ∀ {ds : List D} {vs : List V} {q : List (List D) × List Nat}, RepL ⟨K, B⟩ H1 m1 ds vs → rowsI s1 ds = some q →
    ∃ ks : List (Kd × Addr), vs = ks.map (fun p => V.ref p.2) ∧ ks.length = q.1.length ∧ (∀ p ∈ ks, ∃ xs, SqK K p.1 H1 p.2 xs) ∧ SrcN K B ks q.1 q.2 s1 H1 m1
  | [], vs, q, r, h => by
    cases r.inv_nil
    cases h
    exact ⟨[], rfl, rfl, (fun _ q => nomatch q), fun B' H m st hb e rs' w => ⟨[], rfl, rfl⟩⟩
  | d :: ds, vs, q, r, h => by
    obtain ⟨v, vs, rfl, r1, r2⟩ := r.inv_cons
    simp only [rowsI] at h
    cases hp : seqI s1 d with
    | none => rw [hp] at h; cases h
    | some p =>
      rw [hp] at h
      cases hr : rowsI s1 ds with
      | none => rw [hr] at h; cases h
      | some q' =>
        rw [hr] at h
        cases h
        obtain ⟨a, k, rfl, ex, S⟩ := seqI_src rs r1 hp
        obtain ⟨ks, e1, e2, e3, S'⟩ := rowsI_src rs r2 hr
        refine ⟨(k, a) :: ks, by rw [e1]; rfl, by simp [e2], fun z hz => ?_, fun B' H m st hb e rs' w => ?_⟩
        · rcases List.mem_cons.mp hz with rfl | hz
          · exact ex
          · exact e3 z hz
        · obtain ⟨w1, w2⟩ := same_app w
          obtain ⟨xs, a1, a2⟩ := S B' H m st hb e rs' w1
          obtain ⟨xss, b1, b2⟩ := S' B' H m st hb e rs' w2
          exact ⟨xs :: xss, ⟨xs, xss, rfl, a1, b1⟩, ⟨xs, xss, rfl, a2, b2⟩⟩
theorem RowsR.lens : ∀ {rows : List (List D)} {xss : List (List V)}, SrcN.RowsR K B H m rows xss → rows.map List.length = xss.map List.length
  | [], _, h => by cases h; rfl
  | r :: rs, _, ⟨xs, t, rfl, a, b⟩ => by simp [a.length, RowsR.lens b]
theorem RowsR.row {i : Nat} : ∀ {rows : List (List D)} {xss : List (List V)} {ys : List V}, SrcN.RowsR K B H m rows xss → ys.map some = xss.map (fun xs => xs[i]?) → (∀ r ∈ rows, i < r.length) → RepL ⟨K, B⟩ H m (rows.map fun x => x.getD i .non) ys
  | [], _, ys, h, e, _ => by
    cases h
    cases ys with
    | nil => exact .nil
    | cons _ _ => simp at e
  | r :: rs, _, ys, ⟨xs, t, rfl, a, b⟩, e, hl => by
    cases ys with
    | nil => simp at e
    | cons y ys =>
      simp only [List.map_cons, List.cons.injEq] at e
      have hr := hl r (by simp)
      have h1 : r[i]? = some (r.getD i .non) := by simp [hr]
      obtain ⟨v, h2, h3⟩ := a.get h1
      rw [h2] at e
      cases e.1
      exact .cons h3 (RowsR.row b e.2 fun z hz => hl z (by simp [hz]))
theorem it_zn {ks : List (Kd × Addr)} {rows : List (List D)} {ws : List Nat} (hne : rows ≠ []) (S : SrcN K B ks rows ws s1 H1 m1) : ItRep K B (ItZn K ks) (zipN rows) ws s1 H1 m1 := by
  obtain ⟨z1, z2⟩ := zipN_len hne
  have memL : ∀ {xss : List (List V)} {P : Nat → Prop}, rows.map List.length = xss.map List.length → (∀ x ∈ rows, P x.length) → ∀ xs ∈ xss, P xs.length := fun {xss P} e h xs hx => by
    have : xs.length ∈ rows.map List.length := by rw [e]; exact List.mem_map.mpr ⟨xs, hx, rfl⟩
    obtain ⟨r, hr, q⟩ := List.mem_map.mp this
    rw [← q]; exact h r hr
  refine ⟨fun B' i H m st hb hi e rs w => ?_, fun B' H m st hb e rs w => ?_, fun B' i d H m st x H' hb hi e rs w y => ?_⟩
  · obtain ⟨xss, q, r⟩ := S B' H m st hb e rs w
    exact ⟨xss, q, memL (P := fun n => i < n) (RowsR.lens r) fun x hx => Nat.lt_of_lt_of_le hi (z1 x hx)⟩
  · obtain ⟨xss, q, r⟩ := S B' H m st hb e rs w
    refine ⟨xss, q, memL (P := fun n => (zipN rows).length ≤ n) (RowsR.lens r) z1, ?_⟩
    obtain ⟨x, hx, ex⟩ := z2
    have : x.length ∈ xss.map List.length := by rw [← RowsR.lens r]; exact List.mem_map.mpr ⟨x, hx, rfl⟩
    obtain ⟨xs, hxs, q'⟩ := List.mem_map.mp this
    exact ⟨xs, hxs, by rw [q']; exact ex⟩
  · obtain ⟨xss, q, r⟩ := S B' H m st hb e rs w
    obtain ⟨T, ys, rfl, hT, rfl, hy⟩ := y
    rw [zipN_get hi]
    have hlt : i < (zipN rows).length := (List.getElem?_eq_some_iff.mp hi).1
    exact ⟨Grow.upd hT, Rep.newT rs hT (RowsR.row r (hy xss q) fun x hx => Nat.lt_of_lt_of_le hlt (z1 x hx))⟩
end
theorem seqI_same {s1 : Store} {d : D} {p : List D × List Nat} (hp : seqI s1 d = some p) : sameAt p.2 s1 s1 = true := by
  cases d with
  | loc l =>
    simp only [seqI] at hp
    cases hl : s1[l]? with
    | none => rw [hl] at hp; cases hp
    | some c =>
      rw [hl] at hp
      cases c with
      | lst ds => cases hp; simp [sameAt, hl, Cell.beq_refl]
      | dic _ => cases hp
      | dik _ => cases hp
      | ins _ _ => cases hp
  | tup _ => cases hp; rfl
  | lst _ => cases hp; rfl
  | rol _ => cases hp; rfl
  | non => cases hp
  | bl _ => cases hp
  | int _ => cases hp
  | str _ => cases hp
  | ty _ => cases hp
  | ob _ => cases hp
  | fn _ => cases hp
  | dct _ _ => cases hp
  | obj _ _ => cases hp
  | exo _ _ _ => cases hp
def iZn (K : PySem.W.Frag) (te : TE) : TI := fun σ H R => te σ H fun v H1 => ∃ (a0 : Addr) (ks : List (Kd × Addr)), v = .ref a0 ∧ (SqT K H1 a0 (ks.map fun p => V.ref p.2) ∨ SqL K H1 a0 (ks.map fun p => V.ref p.2)) ∧ ks ≠ [] ∧ ks.length ≤ 8 ∧ (∀ p ∈ ks, ∃ xs, SqK K p.1 H1 p.2 xs) ∧ R (ItZn K ks) H1
theorem callWith_S_type {M : Model} {A : Around} {E : Value → Shared → Prop} {s : Shared} {env : Env} {pos p : Pos} {T : String} {e : Expr} {Q : Value → Shared → Prop}
    (h : wpAny M A (eval e env) (fun v s₁ => PySem.W.StarOf M A E v (fun vs s₂ => wpAny M A (call (.type T) vs) Q E s₂) s₁) E s)
    (he : starEach [.Starred e p] env = [(true, eval e env)] := by rfl) :
    wpAny M A (callWith pos (.type T) [] (backTo pos (starEach [.Starred e p] env)) []) Q E s := by
  rw [he]
  refine PySem.W.ks_call (P := fun _ => True) rfl (fun h _ => ⟨.machine, .inr (.inl rfl), PySem.W.Looks.of_pure rfl⟩) (PySem.W.ks_lone (wpAny_mono h (fun v s₁ h₁ => ?_) fun _ _ x => x))
  unfold PySem.W.StarOf at h₁ ⊢
  exact wpAny_mono h₁ (fun b s2 ⟨e1, h2⟩ => ⟨e1, wpAny_mono h2 (fun vs s3 h3 => ⟨trivial, h3⟩) fun _ _ x => x⟩) fun _ _ x => x
theorem refs_vals : ∀ {ks : List (Kd × Addr)} {us : List Value}, Vals (ks.map fun p => V.ref p.2) us → us = zRefs ks
  | [], us, h => by cases h; rfl
  | p :: r, us, h => by
    cases h with
    | cons a b => cases a; rw [refs_vals b]; rfl
theorem pi_zn {X : Cx} {e : Expr} {te : TE} {p sp pos : Pos} {tg : Expr} (hg : Gl X "zip") (hm : X.mg "zip" = none) (he : PE X e te)
    (hs : starEach [.Starred e sp] X.env = [(true, eval e X.env)] := by rfl) : PI X tg (.Call (.Name "zip" p) [.Starred e sp] [] pos) (iZn X.K te) := by
  refine ⟨fun pins s σ H R I h => Call_ (ld_blt I hg hm PyProof.Rows.boot_zip (callWith_S_type (thn (he.run pins s σ H _ I h) fun u s1 ⟨y, H1, I1, ry, a0, ks, ey, hx, hne, hn, hk, q⟩ => ?_) hs))⟩
  subst ey
  obtain rfl : u = Value.ref a0 := ry
  refine StX.star_any I1 hx fun us s2 I2 rv => ?_
  cases refs_vals rv
  have hk2 : ∀ p ∈ ks, ∃ items, IsS p.1 s2.heap p.2 items := fun p hp => by
    obtain ⟨xs, hq⟩ := hk p hp
    obtain ⟨its, _, i⟩ := sqk_vals I2 hq
    exact ⟨_, i⟩
  have hlt : ∀ p ∈ ks, p.2 < s2.heap.objs.size := fun p hp => by
    obtain ⟨items, i⟩ := hk2 p hp
    obtain ⟨o, ho⟩ := iss_lt i
    exact Heap.lt_size ho
  refine zip_begins_n ks hn hk2 fun h' hz hTI hTO hits hkp => zn_iter hz ?_
  have I3 : Inv X pins σ H1 { s2 with heap := h' } := I2.kept (t' := s2.toks) hkp
  refine ⟨s2.heap.objs.size + ks.length + 2, _, _, _, H1, rfl, I3, turn_zn hne hn (zeSep hlt), ⟨⟨_, _, _, hz, .inl rfl, hTO, by simp [zeFrom_length]⟩, hTI, fun e he => ?_⟩, fun c hcm => ?_, q⟩
  · obtain ⟨j, h1, h2⟩ := zeFrom_get _ _ e he
    have := hits j _ h1
    rw [← h2] at this
    exact its_begin this
  · have hle : s2.heap.objs.size ≤ c := by
      simp only [List.mem_cons] at hcm
      rcases hcm with z | z | z | z
      · rw [z]; exact Nat.le_trans (Nat.le_add_right _ _) (Nat.le_add_right _ _)
      · rw [z]; exact Nat.le_add_right _ _
      · rw [z]; exact Nat.le_trans (Nat.le_add_right _ _) (Nat.le_add_right _ _)
      · obtain ⟨e, he, rfl⟩ := List.mem_map.mp z
        exact (zeFrom_num _ _ e he).1
    exact I2.fpOk hle (I2.hok.fresh hle)
theorem di_zn {X : Cx} {W : WX} {e : Expr} {f : Fe} {p sp pos : Pos} {tg : Expr} (hm : X.mg "zip" = none) (h : DE X W e f) (hg : Gl X "zip" := by rfl) (hs : starEach [.Starred e sp] X.env = [(true, eval e X.env)] := by rfl) :
    DI X W tg (.Call (.Name "zip" p) [.Starred e sp] [] pos) (iZnF f) := by
  obtain ⟨t, pe, q⟩ := h
  refine ⟨_, pi_zn hg hm pe hs, fun B σ H ρ st m R re rs h => ?_⟩
  refine q B σ H ρ st m _ re rs (good_bindI h fun d s1 x H1 m1 e1 r1 rs1 h1 => ?_)
  cases hz : znI s1 d with
  | none => rw [hz] at h1; exact h1.elim
  | some z =>
    rw [hz] at h1
    unfold znI at hz
    cases hp : seqI s1 d with
    | none => rw [hp] at hz; cases hz
    | some p =>
      rw [hp] at hz
      simp only [Option.bind_some] at hz
      cases hr : rowsI s1 p.1 with
      | none => rw [hr] at hz; cases hz
      | some q' =>
        rw [hr] at hz
        simp only [Option.bind_some] at hz
        split at hz
        · cases hz
        · rename_i hn
          cases hz
          obtain ⟨a, k, rfl, _, S⟩ := seqI_src rs1 r1 hp
          obtain ⟨vs, sq, rv⟩ := S B H1 m1 s1 (fun b hb => .inl hb) .refl rs1 (seqI_same hp)
          obtain ⟨ks, rfl, e2, e3, S'⟩ := rowsI_src rs1 rv hr
          have hne : q'.1 ≠ [] := fun z => hn (.inl (by rw [z]; rfl))
          refine ⟨a, ks, rfl, ?_, fun z => hne (List.eq_nil_of_length_eq_zero (by rw [← e2, z]; rfl)), by rw [e2]; omega, e3, h1 _ H1 m1 .refl rs1 (it_zn hne S')⟩
          cases k with
          | l => exact .inr sq
          | t => exact .inl sq
end DL
namespace DL
open PySem PySem.Spec PyProof.Rows L2
variable [TabsCtx]
theorem zip_no_len : typeLookup (.type "zip") "__len__" = pure none := by rw [typeLookup_type, builtinLookup_eq_fast]; kernel_rfl
theorem zip_no_hint : typeLookup (.type "zip") "__length_hint__" = pure none := by rw [typeLookup_type, builtinLookup_eq_fast]; kernel_rfl
def LstAt (h : Heap) (S : Addr) (acc : Array Value) (c : Nat) : Prop := h.get? S = some { cls := .type "list", dict := none, data := .seq acc c, slots := #[] }
/-- the zip ahead of turn i, with its sources -/
structure ZStL (z TI TO : Addr) (L : List ZE) (i : Nat) (h : Heap) : Prop where
  ex : ∃ x f olds, IsZn h z TI TO x f ∧ ZX x ∧ IsTn h TO olds ∧ olds.length = L.length
  tI : IsTn h TI (L.map fun e => .ref e.it)
  at_ : ZAt h i L
theorem ZStL.keeps {z TI TO : Addr} {L : List ZE} {i : Nat} {h h' : Heap} (Z : ZStL z TI TO L i h) (k : ∀ c o, (c = z ∨ c = TI ∨ c = TO ∨ ∃ e ∈ L, c = e.it ∨ c = e.a) → h.get? c = some o → h'.get? c = some o) : ZStL z TI TO L i h' := by
  obtain ⟨⟨x, f, olds, hz, hx, hT, lo⟩, hTI, ha⟩ := Z
  exact ⟨⟨x, f, olds, k _ _ (.inl rfl) hz, hx, k _ _ (.inr (.inr (.inl rfl))) hT, lo⟩, k _ _ (.inr (.inl rfl)) hTI, ha.keeps fun e he => ⟨fun o q => k _ _ (.inr (.inr (.inr ⟨e, he, .inl rfl⟩))) q, fun o q => k _ _ (.inr (.inr (.inr ⟨e, he, .inr rfl⟩))) q⟩⟩
def RowsAt (h : Heap) (base : Nat) (L : List ZE) (n : Nat) : Prop := ∀ j, j < n → ∃ ds : List Value, IsTn h (base + j) ds ∧ ds.map some = L.map fun e => e.xs[j]?
section
variable {prog : Program} {w : World} {A : Around} {E : Value → Shared → Prop} {z TI TO : Addr} {L : List ZE} {R : Result → Shared → Prop}
theorem zl_loop (hh : A.handled = none) (S : ZSep z TI TO L) (hL : L ≠ []) (hn : L.length ≤ sizeLine) {N : Nat} (hle : ∀ e ∈ L, N ≤ e.xs.size) (hend : ∃ e ∈ L, N = e.xs.size) (hN : N ≤ sizeLine) {Sl base : Nat} (res : Value)
    (hSz : z < Sl ∧ TI < Sl ∧ TO < Sl) (hSe : ∀ e ∈ L, e.it < Sl ∧ e.a < Sl) (hsb : Sl < base) : ∀ (r i : Nat) (s : Shared) (acc : Array Value) (c : Nat), i + r = N → ZStL z TI TO L i s.heap → s.heap.objs.size = base + i → LstAt s.heap Sl acc c → ItemsOf (fun j v => v = .ref (base + j)) acc i → RowsAt s.heap base L i →
      (∀ h' tk acc' c', (∀ b o, b ∉ Sl :: z :: TO :: L.map ZE.it → s.heap.get? b = some o → h'.get? b = some o) → LstAt h' Sl acc' c' → ItemsOf (fun j v => v = .ref (base + j)) acc' N → RowsAt h' base L N → R (.ok (.ret res)) { s with heap := h', toks := tk }) →
      codeAny (model prog w) A (.builtin "list.extend.loop" ⟨[.ref Sl, .ref z, res], []⟩) R s := by
  have nS : Sl ∉ z :: TO :: L.map ZE.it := fun hm => by
    simp only [List.mem_cons] at hm
    rcases hm with q | q | q
    · exact absurd hSz.1 (by rw [q]; exact Nat.lt_irrefl _)
    · exact absurd hSz.2.2 (by rw [q]; exact Nat.lt_irrefl _)
    · obtain ⟨e, he, q⟩ := List.mem_map.mp q
      exact absurd (hSe e he).1 (by rw [q]; exact Nat.lt_irrefl _)
  have low : ∀ c : Nat, c ∈ z :: TO :: L.map ZE.it → c < Sl := fun c hm => by
    simp only [List.mem_cons] at hm
    rcases hm with q | q | q
    · rw [q]; exact hSz.1
    · rw [q]; exact hSz.2.2
    · obtain ⟨e, he, q⟩ := List.mem_map.mp q
      rw [← q]; exact (hSe e he).1
  intro r
  induction r with
  | zero =>
    intro i s acc c hi Z hsz hS hacc hrows hR
    have hi : i = N := by omega
    subst hi
    obtain ⟨⟨x, f, olds, hz, hx, hT, lo⟩, hTI, ha⟩ := Z
    refine codeAny_builtin F.entry_extend_loop ?_
    rw [Around.under_plainId F.plain_extend_loop _]
    show wpAny _ A.in1 (pyNext (.ref z) >>= _) _ _ s
    refine wpAny_bind (zn_next_end (A := A.in1) hh S hz hx hTI hT lo hL hn ha hle hend fun h' tk hk => ?_)
    have hk2 : ∀ b o, b ∉ z :: TO :: L.map ZE.it → s.heap.get? b = some o → h'.get? b = some o := hk
    refine wpAny_pure (hR h' tk acc c (fun b o hb q => hk b o (fun m => hb (List.mem_cons_of_mem _ m)) q) (hk _ _ nS hS) hacc (fun j hj => ?_))
    obtain ⟨ds, h1, h2⟩ := hrows j hj
    exact ⟨ds, hk2 _ _ (fun m => absurd (low _ m) (by show ¬ base + j < Sl; omega)) h1, h2⟩
  | succ r ih =>
    intro i s acc c hi Z hsz hS hacc hrows hR
    have hlt : i < N := by omega
    obtain ⟨⟨x, f, olds, hz, hx, hT, lo⟩, hTI, ha⟩ := id Z
    refine codeAny_builtin F.entry_extend_loop ?_
    rw [Around.under_plainId F.plain_extend_loop _]
    show wpAny _ A.in1 (pyNext (.ref z) >>= _) _ _ s
    refine wpAny_bind (zn_next_item (A := A.in1) hh S hz hx hTI hT lo hL hn ha (fun e he => Nat.lt_of_lt_of_le hlt (hle e he)) fun ds h' tk x' f' olds' hds hz' hx' hT' lo' hI' hTT hsz' hk => ?_)
    have hk2 : ∀ b o, b ∉ z :: TO :: L.map ZE.it → s.heap.get? b = some o → h'.get? b = some o := hk
    have hS' : LstAt h' Sl acc c := hk2 _ _ nS hS
    show wpAny _ A.in1 (updateSeq Sl (·.push (.ref s.heap.objs.size)) >>= _) _ _ { s with heap := h', toks := tk }
    refine wpAny_bind ?_
    refine wpAny_updateSeq (s := { s with heap := h', toks := tk }) hS' rfl (wpAny_pure ⟨plainId_quiet F.plain_extend_loop _, ih (i + 1) _ (acc.push (.ref s.heap.objs.size)) _ (by omega) ?_ ?_ (Heap.get?_update_self _ hS' rfl) (hacc.push (by rw [hsz])) ?_ fun h2 tk2 acc2 c2 hk3 hS2 hacc2 hrows2 => ?_⟩)
      (by rw [hacc.1]; omega) (by show (acc.push _).size ≤ sizeLine + 1; rw [Array.size_push, hacc.1]; omega)
    · have nTI : TI ∉ z :: TO :: L.map ZE.it := fun hm => by
        simp only [List.mem_cons] at hm
        rcases hm with q | q | q
        · exact S.TIz q
        · exact S.TITO q
        · obtain ⟨e, he, q'⟩ := List.mem_map.mp q
          exact (S.it e he).2.1 q'
      have Z' : ZStL z TI TO L (i + 1) h' := ⟨⟨x', f', olds', hz', hx', hT', lo'⟩, hk2 _ _ nTI hTI, hI'⟩
      refine Z'.keeps fun c o hc q => (Heap.get?_update_other _ _ (fun h : Sl = c => ?_)).trans q
      rcases hc with q | q | q | ⟨e, he, q | q⟩
      · exact absurd hSz.1 (by rw [h, q]; exact Nat.lt_irrefl _)
      · exact absurd hSz.2.1 (by rw [h, q]; exact Nat.lt_irrefl _)
      · exact absurd hSz.2.2 (by rw [h, q]; exact Nat.lt_irrefl _)
      · exact absurd (hSe e he).1 (by rw [h, q]; exact Nat.lt_irrefl _)
      · exact absurd (hSe e he).2 (by rw [h, q]; exact Nat.lt_irrefl _)
    · show (h'.update Sl _).objs.size = _
      rw [Heap.size_update, hsz', hsz]; omega
    · intro j hj
      rcases Nat.lt_or_ge j i with q | q
      · obtain ⟨ds', h1, h2⟩ := hrows j q
        exact ⟨ds', (Heap.get?_update_other _ _ (by show Sl ≠ base + j; omega)).trans (hk2 _ _ (fun m => absurd (low _ m) (by show ¬ base + j < Sl; omega)) h1), h2⟩
      · have e : j = i := by omega
        subst e
        rw [← hsz]
        exact ⟨ds, (Heap.get?_update_other _ _ (by show Sl ≠ s.heap.objs.size; rw [hsz]; omega)).trans hTT, hds⟩
    · refine hR h2 tk2 acc2 c2 (fun b o hb q => hk3 b o hb ((Heap.get?_update_other _ _ (fun h : Sl = b => hb (by rw [h]; simp))).trans (hk2 b o (fun m => hb (List.mem_cons_of_mem _ m)) q))) hS2 hacc2 hrows2
theorem zl_extend {s : Shared} (hh : A.handled = none) (S : ZSep z TI TO L) (hL : L ≠ []) (hn : L.length ≤ sizeLine) {N : Nat} (hle : ∀ e ∈ L, N ≤ e.xs.size) (hend : ∃ e ∈ L, N = e.xs.size) (hN : N ≤ sizeLine) {Sl : Nat} (res : Value) (c0 : Nat)
    (hSz : z < Sl ∧ TI < Sl ∧ TO < Sl) (hSe : ∀ e ∈ L, e.it < Sl ∧ e.a < Sl) (Z : ZStL z TI TO L 0 s.heap) (hsz : s.heap.objs.size = Sl + 1) (hS : LstAt s.heap Sl #[] c0)
    (hR : ∀ h' tk acc' c', (∀ b o, b ∉ Sl :: z :: TO :: L.map ZE.it → s.heap.get? b = some o → h'.get? b = some o) → LstAt h' Sl acc' c' → ItemsOf (fun j v => v = .ref (Sl + 1 + j)) acc' N → RowsAt h' (Sl + 1) L N → R (.ok (.ret res)) { s with heap := h', toks := tk }) :
    wpAny (model prog w) A.in1 (Builtin.List.listExtendWith (.ref Sl) (.ref z) res)
      (fun fin s' => match fin with | .done f => R (.ok f) s' | .again c' => c'.quiet = true ∧ codeAny (model prog w) A c' R s') (fun e s' => R (.error e) s') s := by
  obtain ⟨⟨x, f, olds, hz, hx, hT, lo⟩, hTI, ha⟩ := id Z
  have hTy : s.TypeIs (.ref z) "zip" := ⟨_, hz, rfl⟩
  unfold Builtin.List.listExtendWith
  refine wpAny_bind (wpAny_typeOf hTy ?_)
  have h1 : Builtin.List.listSameRef (.ref Sl) (.ref z) = false := by
    have : Sl ≠ z := fun q => absurd hSz.1 (by rw [q]; exact Nat.lt_irrefl _)
    simp [Builtin.List.listSameRef, this]
  have h2 : (Value.type "zip" == Value.type "list") = false := by decide
  have h3 : (Value.type "zip" == Value.type "tuple") = false := by decide
  simp only [h1, h2, h3, Bool.or_false, Bool.false_eq_true, if_false]
  refine wpAny_bind (zn_iter hz ?_)
  refine wpAny_bind (wpAny_holding ?_)
  unfold Builtin.List.listLengthHint
  refine wpAny_bind (wpAny_specialOf hTy zip_no_len ?_)
  show wpAny _ A.in1 (specialOf (Value.ref z) (Str.ofString "__length_hint__") >>= _) _ _ _
  refine wpAny_bind (wpAny_specialOf hTy zip_no_hint ?_)
  refine wpAny_pure ?_
  show wpAny _ A.in1 (rule "list.extend.makes-room" >>= fun _ => Builtin.List.listTouch (.ref Sl) >>= fun _ =>
    again (.builtin "list.extend.loop" ⟨[.ref Sl, .ref z, res], []⟩)) _ _ _
  refine wpAny_bind (wpAny_rule ?_)
  refine wpAny_bind ?_
  show wpAny _ A.in1 (updateSeq Sl (·.push .none) >>= fun _ => updateSeq Sl (·.pop)) _ _ _
  refine wpAny_bind (wpAny_updateSeq hS rfl ?_)
  have hS₂ := Heap.get?_update_self (Obj.mapSeq (·.push Value.none)) hS rfl
  refine wpAny_updateSeq (hz := by seq_fits) hS₂ rfl ?_
  have hS₃ := Heap.get?_update_self (Obj.mapSeq (·.pop)) hS₂ rfl
  have oth : ∀ b o, b ≠ Sl → s.heap.get? b = some o → ((s.heap.update Sl (Obj.mapSeq (·.push Value.none))).update Sl (Obj.mapSeq (·.pop))).get? b = some o :=
    fun b o hb e => (Heap.get?_update_other _ _ (Ne.symm hb)).trans ((Heap.get?_update_other _ _ (Ne.symm hb)).trans e)
  refine wpAny_pure ⟨plainId_quiet F.plain_extend_loop _, zl_loop hh S hL hn hle hend hN res hSz hSe (Nat.lt_succ_self _) N 0 _ _ _ (by omega) (Z.keeps fun c o hc q => oth c o (fun h => ?_) q) ?_ hS₃ (ItemsOf.nil _) (fun j hj => absurd hj (Nat.not_lt_zero _)) fun h' tk acc' c' hk hS' hacc hrows => ?_⟩
  · rcases hc with q | q | q | ⟨e, he, q | q⟩
    · exact absurd hSz.1 (by rw [← h, q]; exact Nat.lt_irrefl _)
    · exact absurd hSz.2.1 (by rw [← h, q]; exact Nat.lt_irrefl _)
    · exact absurd hSz.2.2 (by rw [← h, q]; exact Nat.lt_irrefl _)
    · exact absurd (hSe e he).1 (by rw [← h, q]; exact Nat.lt_irrefl _)
    · exact absurd (hSe e he).2 (by rw [← h, q]; exact Nat.lt_irrefl _)
  · show ((s.heap.update Sl _).update Sl _).objs.size = _
    rw [Heap.size_update, Heap.size_update, hsz]
  · exact hR h' tk acc' c' (fun b o hb e => hk b o hb (oth b o (fun h => hb (by rw [h]; simp)) e)) hS' hacc hrows
theorem zl_init {s : Shared} (hh : A.handled = none) (S : ZSep z TI TO L) (hL : L ≠ []) (hn : L.length ≤ sizeLine) {N : Nat} (hle : ∀ e ∈ L, N ≤ e.xs.size) (hend : ∃ e ∈ L, N = e.xs.size) (hN : N ≤ sizeLine) {Sl : Nat}
    (hSz : z < Sl ∧ TI < Sl ∧ TO < Sl) (hSe : ∀ e ∈ L, e.it < Sl ∧ e.a < Sl) (Z : ZStL z TI TO L 0 s.heap) (hsz : s.heap.objs.size = Sl + 1) (hS : s.heap.get? Sl = some { cls := .type "list", data := .seq #[] })
    (hR : ∀ h' tk acc' c', (∀ b o, b ∉ Sl :: z :: TO :: L.map ZE.it → s.heap.get? b = some o → h'.get? b = some o) → LstAt h' Sl acc' c' → ItemsOf (fun j v => v = .ref (Sl + 1 + j)) acc' N → RowsAt h' (Sl + 1) L N → R (.ok (.ret .none)) { s with heap := h', toks := tk }) :
    wpAny (model prog w) A.in1 (Builtin.«list.__init__» ⟨[.ref Sl, .ref z], []⟩)
      (fun fin s' => match fin with | .done f => R (.ok f) s' | .again c' => c'.quiet = true ∧ codeAny (model prog w) A c' R s') (fun e s' => R (.error e) s') s := by
  show wpAny _ A.in1 (do let old ← Builtin.List.listItems (.ref Sl); Builtin.List.listUpdate (.ref Sl) (fun _ => #[]); letGo old.toList.reverse; Builtin.List.listExtendWith (.ref Sl) (.ref z) .none) _ _ s
  refine wpAny_bind ?_
  unfold Builtin.List.listItems
  refine wpAny_bind (wpAny_seqItems hS rfl (wpAny_pure ?_))
  show wpAny _ A.in1 (updateSeq Sl (fun _ => #[]) >>= fun _ => letGo (#[] : Array Value).toList.reverse >>= fun _ => Builtin.List.listExtendWith (.ref Sl) (.ref z) .none) _ _ s
  refine wpAny_bind (wpAny_updateSeq hS rfl ?_)
  have hS₂ := Heap.get?_update_self (Obj.mapSeq (fun _ => (#[] : Array Value))) hS rfl
  have oth : ∀ b o, b ≠ Sl → s.heap.get? b = some o → (s.heap.update Sl (Obj.mapSeq (fun _ => (#[] : Array Value)))).get? b = some o :=
    fun b o hb e => (Heap.get?_update_other _ _ (Ne.symm hb)).trans e
  refine wpAny_bind (wpAny_letGo ?_)
  refine zl_extend hh S hL hn hle hend hN .none _ hSz hSe (Z.keeps fun c o hc q => oth c o (fun h => ?_) q) ?_ hS₂ fun h' tk acc' c' hk hS' hacc hrows => ?_
  · rcases hc with q | q | q | ⟨e, he, q | q⟩
    · exact absurd hSz.1 (by rw [← h, q]; exact Nat.lt_irrefl _)
    · exact absurd hSz.2.1 (by rw [← h, q]; exact Nat.lt_irrefl _)
    · exact absurd hSz.2.2 (by rw [← h, q]; exact Nat.lt_irrefl _)
    · exact absurd (hSe e he).1 (by rw [← h, q]; exact Nat.lt_irrefl _)
    · exact absurd (hSe e he).2 (by rw [← h, q]; exact Nat.lt_irrefl _)
  · show (s.heap.update Sl _).objs.size = _
    rw [Heap.size_update, hsz]
  · exact hR h' tk acc' c' (fun b o hb e => hk b o hb (oth b o (fun h => hb (by rw [h]; simp)) e)) hS' hacc hrows
theorem call_list_zip {s : Shared} {Q : Value → Shared → Prop} (hh : A.handled = none) (S : ZSep z TI TO L) (hL : L ≠ []) (hn : L.length ≤ sizeLine) {N : Nat} (hle : ∀ e ∈ L, N ≤ e.xs.size) (hend : ∃ e ∈ L, N = e.xs.size) (hN : N ≤ sizeLine)
    (hSz : z < s.heap.objs.size ∧ TI < s.heap.objs.size ∧ TO < s.heap.objs.size) (hSe : ∀ e ∈ L, e.it < s.heap.objs.size ∧ e.a < s.heap.objs.size) (Z : ZStL z TI TO L 0 s.heap)
    (hQ : ∀ h' tk acc' c', (∀ b o, b ∉ z :: TO :: L.map ZE.it → s.heap.get? b = some o → h'.get? b = some o) → LstAt h' s.heap.objs.size acc' c' → ItemsOf (fun j v => v = .ref (s.heap.objs.size + 1 + j)) acc' N → RowsAt h' (s.heap.objs.size + 1) L N → Q (.ref s.heap.objs.size) { s with heap := h', toks := tk }) :
    wpAny (model prog w) A (call (.type "list") [.ref z]) Q E s := by
  refine callType_codes (Q₁ := fun obj s₁ => obj = .ref s.heap.objs.size ∧ s₁ = { s with heap := s.heap.push { cls := .type "list", data := .seq #[] } }) F.called_list (F.typeCall_list_1 _) F.entry_list_init
    (code_list_new _ ⟨rfl, rfl⟩) fun obj s₁ h₁ => ?_
  obtain ⟨rfl, rfl⟩ := h₁
  have hS : (s.heap.push { cls := .type "list", data := .seq #[] }).get? s.heap.objs.size = some { cls := .type "list", data := .seq #[] } := Heap.get?_push_size _ rfl
  refine ⟨⟨_, hS, rfl⟩, F.args_list_init_2 _ _, zl_init (A := A.in1) hh S hL hn hle hend hN hSz hSe (Z.keeps fun c o _ q => Heap.get?_push_of_some _ q) (Heap.size_push ..) hS fun h' tk acc' c' hk hS' hacc hrows => ?_⟩
  exact ⟨rfl, hQ h' tk acc' c' (fun b o hb e => hk b o (fun m => by
    rcases List.mem_cons.mp m with q | q
    · exact absurd (Heap.lt_size e) (by rw [q]; exact Nat.lt_irrefl _)
    · exact hb q) (Heap.get?_push_of_some _ e)) hS' hacc hrows⟩
end
end DL
namespace DL
open PySem PySem.Spec PyProof.Rows L2
variable [TabsCtx]
def trunc (h : Heap) (n : Nat) : Heap := ⟨h.objs.take n, h.life⟩
theorem trunc_get {h : Heap} {n c : Nat} (hc : c < n) : (trunc h n).get? c = h.get? c := by
  unfold trunc Heap.get?
  simp only [Array.take_eq_extract, Array.getElem?_extract]
  by_cases q : c < h.objs.size
  · rw [if_pos (by omega)]
    simp
  · rw [if_neg (by omega)]
    rw [Array.getElem?_eq_none (by omega)]
theorem trunc_lt {h : Heap} {n c : Nat} {o : Obj} (q : (trunc h n).get? c = some o) : c < n := by
  have := Heap.lt_size q
  have h2 : (trunc h n).objs.size ≤ n := by simp [trunc, Array.take_eq_extract]; omega
  have : c < (trunc h n).objs.size := this
  omega
theorem trunc_size (h : Heap) (n : Nat) : (trunc h n).objs.size ≤ n := by simp [trunc, Array.take_eq_extract]; omega
def updT : Hp → Nat → List (List V) → Hp
  | H, _, [] => H
  | H, b, r :: rs => updT (upd H b (.tup r)) (b + 1) rs
theorem updT_low : ∀ (rows : List (List V)) (H : Hp) (b c : Nat), c < b → updT H b rows c = H c
  | [], H, b, c, h => rfl
  | r :: rs, H, b, c, h => by
    show updT (upd H b (.tup r)) (b + 1) rs c = H c
    rw [updT_low rs _ (b + 1) c (by omega), upd_ne (Nat.ne_of_lt h)]
theorem updT_at : ∀ (rows : List (List V)) (H : Hp) (b j : Nat) (r : List V), rows[j]? = some r → updT H b rows (b + j) = some (.tup r)
  | r :: rs, H, b, 0, y, h => by
    simp only [List.getElem?_cons_zero, Option.some.injEq] at h
    subst h
    show updT (upd H b (.tup r)) (b + 1) rs b = _
    rw [updT_low rs _ (b + 1) b (Nat.lt_succ_self b), upd_same]
  | r :: rs, H, b, j + 1, y, h => by
    have := updT_at rs (upd H b (.tup r)) (b + 1) j y (by simpa using h)
    have e : b + 1 + j = b + (j + 1) := by omega
    rw [e] at this
    exact this
theorem updT_grow : ∀ (rows : List (List V)) (H : Hp) (b : Nat), (∀ c, b ≤ c → H c = none) → Grow H (updT H b rows)
  | [], H, b, h => Grow.refl
  | r :: rs, H, b, h => by
    refine (Grow.upd (h b (Nat.le_refl _))).trans (updT_grow rs _ (b + 1) fun c hc => ?_)
    rw [upd_ne (Nat.ne_of_gt (Nat.lt_of_lt_of_le (Nat.lt_succ_self b) hc))]
    exact h c (by omega)
section
variable {X : Cx} {pins : List (Addr × Obj)} {σ : Sg}
theorem inv_rows {s : Shared} {h' : Heap} {tk : Nat} : ∀ (rows : List (List V)) (H : Hp) (b : Nat), Inv X pins σ H { s with heap := trunc h' b, toks := tk } → (∀ (j : Nat) (r : List V), rows[j]? = some r → r.length ≤ sizeLine ∧ ∃ ds, Vals r ds ∧ IsTn h' (b + j) ds) →
    Inv X pins σ (updT H b rows) { s with heap := trunc h' (b + rows.length), toks := tk }
  | [], H, b, I, _ => I
  | r :: rs, H, b, I, h => by
    obtain ⟨l0, ds, v0, t0⟩ := h 0 r rfl
    have t1 : (trunc h' (b + 1)).IsTuple b ds.toArray := by
      have : (trunc h' (b + 1)).get? b = some { cls := .type "tuple", data := .seq ds.toArray } := by rw [trunc_get (Nat.lt_succ_self b)]; exact t0
      exact ⟨_, this, rfl, _, rfl⟩
    have I1 : Inv X pins σ (upd H b (.tup r)) { s with heap := trunc h' (b + 1), toks := tk } :=
      I.laid (t' := tk) (h' := trunc h' (b + 1)) (fun c u q => by
        have hc := trunc_lt q
        rw [trunc_get hc] at q
        rw [trunc_get (Nat.lt_succ_of_lt hc)]
        exact q) (trunc_size h' b) (show ObjOk X.prog X.w _ _ _ (.tup r) from ⟨l0, ds, v0, t1⟩)
    have := inv_rows rs (upd H b (.tup r)) (b + 1) I1 fun j y hy => by
      obtain ⟨l1, ds', v1, t1⟩ := h (j + 1) y (by simpa using hy)
      have e : b + 1 + j = b + (j + 1) := by omega
      exact ⟨l1, ds', v1, by rw [e]; exact t1⟩
    have e : b + 1 + rs.length = b + (r :: rs).length := by simp; omega
    rw [e] at this
    exact this
end
/-- what the zip's argument must be -/
def tZ (K : PySem.W.Frag) (te : TE) (k : List (Kd × Addr) → Hp → Prop) (σ : Sg) (H : Hp) : Prop :=
  te σ H fun v H1 => ∃ (a0 : Addr) (ks : List (Kd × Addr)), v = .ref a0 ∧ (SqT K H1 a0 (ks.map fun p => V.ref p.2) ∨ SqL K H1 a0 (ks.map fun p => V.ref p.2)) ∧ ks ≠ [] ∧ ks.length ≤ 8 ∧ (∀ p ∈ ks, ∃ xs, SqK K p.1 H1 p.2 xs) ∧ k ks H1
theorem zip_eval {X : Cx} {e : Expr} {te : TE} {p sp pos : Pos} (hg : Gl X "zip") (hm : X.mg "zip" = none) (he : PE X e te) {k : List (Kd × Addr) → Hp → Prop}
    {pins : List (Addr × Obj)} {s : Shared} {σ : Sg} {H : Hp} (I : Inv X pins σ H s) (h : tZ X.K te k σ H) (hs : starEach [.Starred e sp] X.env = [(true, eval e X.env)] := by rfl) :
    wpAny (model X.prog X.w) X.A (eval (.Call (.Name "zip" p) [.Starred e sp] [] pos) X.env) (fun v s3 => ∃ (s2 : Shared) (h3 : Heap) (H1 : Hp) (ks : List (Kd × Addr)), v = .ref (s2.heap.objs.size + ks.length + 2) ∧ s3 = { s2 with heap := h3 } ∧ Inv X pins σ H1 s2 ∧
      (∀ c o, s2.heap.get? c = some o → h3.get? c = some o) ∧ ZSt (s2.heap.objs.size + ks.length + 2) (s2.heap.objs.size + ks.length) (s2.heap.objs.size + ks.length + 1) s2.heap.objs.size ks 0 h3 ∧ (∀ p ∈ ks, p.2 < s2.heap.objs.size) ∧ ks ≠ [] ∧ ks.length ≤ 8 ∧ k ks H1) X.xe s := by
  refine Call_ (ld_blt I hg hm PyProof.Rows.boot_zip (callWith_S_type (thn (he.run pins s σ H _ I h) fun u s1 ⟨y, H1, I1, ry, a0, ks, ey, hx, hne, hn, hk, q⟩ => ?_) hs))
  subst ey
  obtain rfl : u = Value.ref a0 := ry
  refine StX.star_any I1 hx fun us s2 I2 rv => ?_
  cases refs_vals rv
  have hk2 : ∀ p ∈ ks, ∃ items, IsS p.1 s2.heap p.2 items := fun p hp => by
    obtain ⟨xs, hq⟩ := hk p hp
    obtain ⟨its, _, i⟩ := sqk_vals I2 hq
    exact ⟨_, i⟩
  have hlt : ∀ p ∈ ks, p.2 < s2.heap.objs.size := fun p hp => by
    obtain ⟨items, i⟩ := hk2 p hp
    obtain ⟨o, ho⟩ := iss_lt i
    exact Heap.lt_size ho
  refine zip_begins_n ks hn hk2 fun h' hz hTI hTO hits hkp => ?_
  refine ⟨s2, h', H1, ks, rfl, rfl, I2, hkp, ⟨⟨_, _, _, hz, .inl rfl, hTO, by simp [zeFrom_length]⟩, hTI, fun e he => ?_⟩, hlt, hne, hn, q⟩
  obtain ⟨j, h1, h2⟩ := zeFrom_get _ _ e he
  have := hits j _ h1
  rw [← h2] at this
  exact its_begin this
def tLstZ (K : PySem.W.Frag) (te : TE) : TE := fun σ H Q => tZ K te (fun ks H1 => ∃ (xss : List (List V)) (N : Nat), SqAll K ks H1 xss ∧ (∀ xs ∈ xss, N ≤ xs.length) ∧ (∃ xs ∈ xss, N = xs.length) ∧ N ≤ sizeLine ∧
    ∀ (q : Nat) (rows : List (List V)), (∀ c, q ≤ c → H1 c = none) → rows.length = N → (∀ (j : Nat) (ys : List V), rows[j]? = some ys → ys.map some = xss.map fun xs => xs[j]?) →
      Q (.ref q) (updT (upd H1 q (.lst ((List.range N).map fun j => V.ref (q + 1 + j)))) (q + 1) rows)) σ H
theorem vals_range {acc : Array Value} {b N : Nat} (h : ItemsOf (fun j v => v = .ref (b + j)) acc N) : Vals ((List.range N).map fun j => V.ref (b + j)) acc.toList := by
  have e : acc.toList = (List.range N).map fun j => Value.ref (b + j) := by
    apply List.ext_getElem
    · simp [h.1]
    · intro j h1 h2
      have := h.2 j acc[j] (by simp at h1; simp [h1])
      simp at h1 ⊢
      exact this
  rw [e]
  generalize List.range N = l
  induction l with
  | nil => exact .nil
  | cons a l ih => exact .cons rfl ih
theorem pe_listZn {X : Cx} {e : Expr} {te : TE} {p p2 sp pos pos2 : Pos} (hc : X.calm = true) (hgl : Gl X "list") (hml : X.mg "list" = none) (hg : Gl X "zip") (hm : X.mg "zip" = none) (he : PE X e te)
    (hs : starEach [.Starred e sp] X.env = [(true, eval e X.env)] := by rfl)
    (na : starEach [.Call (.Name "zip" p) [.Starred e sp] [] pos] X.env = (false, eval (.Call (.Name "zip" p) [.Starred e sp] [] pos) X.env) :: starEach [] X.env := by rfl) :
    PE X (.Call (.Name "list" p2) [.Call (.Name "zip" p) [.Starred e sp] [] pos] [] pos2) (tLstZ X.K te) := by
  refine ⟨fun pins s σ H Q I h => ?_⟩
  refine Call_ (ld_blt I hgl hml boot_list (PyProof.Rows.callWith_type1 (args_cons (thn (zip_eval hg hm he I h hs) fun v s3 ⟨s2, h3, H1, ks, ev, es, I2, hkp, Z, hlt, hne, hn, xss, N, hq, hle, hend, hN, hQ⟩ => args_nil ?_) na) na))
  subst ev es
  have I3 : Inv X pins σ H1 { s2 with heap := h3 } := I2.kept (t' := s2.toks) hkp
  obtain ⟨L, eb, hS, zr⟩ := sqall_ze I3 s2.heap.objs.size hq
  have S0 := zeSep hlt
  have S := S0.of eb
  have eref : (L.map fun e => Value.ref e.it) = (zeFrom s2.heap.objs.size ks).map fun e => Value.ref e.it := by
    have := congrArg (List.map fun p : Kd × Addr × Addr => Value.ref p.2.2) eb
    simpa [List.map_map, Function.comp_def] using this
  have elen : L.length = ks.length := by have := congrArg List.length eb; simpa [zeFrom_length] using this
  have back : ∀ e ∈ L, ∃ y ∈ zeFrom s2.heap.objs.size ks, (y.k, y.a, y.it) = (e.k, e.a, e.it) := fun x hx => by
    have : (x.k, x.a, x.it) ∈ (zeFrom s2.heap.objs.size ks).map fun e => (e.k, e.a, e.it) := by rw [← eb]; exact List.mem_map.mpr ⟨x, hx, rfl⟩
    obtain ⟨y, hy, q⟩ := List.mem_map.mp this
    exact ⟨y, hy, q⟩
  obtain ⟨⟨x, f, olds, hz, hx, hT, lo⟩, hTI, ha⟩ := Z
  have ZL : ZStL (s2.heap.objs.size + ks.length + 2) (s2.heap.objs.size + ks.length) (s2.heap.objs.size + ks.length + 1) L 0 h3 := ⟨⟨x, f, olds, hz, hx, hT, by rw [lo, elen]⟩, by rw [eref]; exact hTI, fun e he => by
    obtain ⟨y, hy, q⟩ := back e he
    simp only [Prod.mk.injEq] at q
    have := ha y hy
    rw [q.1, q.2.1, q.2.2] at this
    exact ⟨this, hS e he⟩⟩
  have hL : L ≠ [] := fun q => hne (List.eq_nil_of_length_eq_zero (by rw [← elen, q]; rfl))
  have zlt : s2.heap.objs.size + ks.length + 2 < h3.objs.size := Heap.lt_size hz
  have itlt : ∀ e ∈ L, s2.heap.objs.size ≤ e.it ∧ e.it < s2.heap.objs.size + ks.length ∧ e.a < s2.heap.objs.size := fun e he => by
    obtain ⟨y, hy, q⟩ := back e he
    simp only [Prod.mk.injEq] at q
    obtain ⟨h1, h2, h4⟩ := zeFrom_num _ _ y hy
    have h5 : y.a < s2.heap.objs.size := hlt _ h4
    rw [q.2.2] at h1 h2
    rw [q.2.1] at h5
    exact ⟨h1, h2, h5⟩
  refine call_list_zip (s := { s2 with heap := h3 }) (I3.ok.hd hc) S hL (by rw [elen]; exact Nat.le_trans hn (by decide)) (zr.le hle) (zr.ends hend) hN ⟨zlt, ?_, ?_⟩ (fun e he => ?_) ZL fun h' tk acc' c' hk hS' hacc hrows => ?_
  · show s2.heap.objs.size + ks.length < h3.objs.size; omega
  · show s2.heap.objs.size + ks.length + 1 < h3.objs.size; omega
  · obtain ⟨h1, h2, h4⟩ := itlt e he
    show e.it < h3.objs.size ∧ e.a < h3.objs.size
    omega
  · have hk3 : ∀ b o, s2.heap.get? b = some o → h'.get? b = some o := fun b o q => by
      have bl : b < s2.heap.objs.size := Heap.lt_size q
      refine hk b o (fun hm => ?_) (hkp b o q)
      simp only [List.mem_cons] at hm
      rcases hm with z | z | z
      · exact absurd bl (by rw [z]; exact Nat.not_lt.mpr (by omega))
      · exact absurd bl (by rw [z]; exact Nat.not_lt.mpr (by omega))
      · obtain ⟨e, he, z⟩ := List.mem_map.mp z
        have := itlt e he
        exact absurd bl (by rw [← z]; exact Nat.not_lt.mpr (by omega))
    have rowsEx : ∃ rows : List (List V), rows.length = N ∧ ∀ (j : Nat) (ys : List V), rows[j]? = some ys → ys.map some = xss.map (fun xs => xs[j]?) ∧ ys.length ≤ sizeLine ∧ ∃ ds, Vals ys ds ∧ IsTn h' (h3.objs.size + 1 + j) ds := by
      have each : ∀ j, j < N → ∃ ys : List V, ys.map some = xss.map (fun xs => xs[j]?) ∧ ys.length ≤ sizeLine ∧ ∃ ds, Vals ys ds ∧ IsTn h' (h3.objs.size + 1 + j) ds := fun j hj => by
        obtain ⟨ds, t, hd⟩ := hrows j hj
        obtain ⟨ys, v, e⟩ := zr.row hd
        have l1 := v.length
        have l2 : ds.length = L.length := by have := congrArg List.length hd; simpa using this
        refine ⟨ys, e, ?_, ds, v, t⟩
        rw [l1, l2, elen]; exact Nat.le_trans hn (by decide)
      have gen : ∀ M, M ≤ N → ∃ rows : List (List V), rows.length = M ∧ ∀ (j : Nat) (ys : List V), rows[j]? = some ys → ys.map some = xss.map (fun xs => xs[j]?) ∧ ys.length ≤ sizeLine ∧ ∃ ds, Vals ys ds ∧ IsTn h' (h3.objs.size + 1 + j) ds := by
        intro M
        induction M with
        | zero => intro _; exact ⟨[], rfl, fun j ys q => by simp at q⟩
        | succ M ih =>
          intro hM
          obtain ⟨rows, h1, h2⟩ := ih (by omega)
          obtain ⟨ys, hy⟩ := each M (by omega)
          refine ⟨rows ++ [ys], by simp [h1], fun j zs q => ?_⟩
          rcases Nat.lt_or_ge j rows.length with r | r
          · rw [List.getElem?_append_left r] at q
            exact h2 j zs q
          · rw [List.getElem?_append_right r] at q
            have : j - rows.length = 0 := by
              rcases Nat.eq_zero_or_pos (j - rows.length) with w | w
              · exact w
              · rw [List.getElem?_eq_none (by simp; omega)] at q; cases q
            rw [this] at q
            simp at q
            subst q
            have : j = M := by omega
            subst this
            exact hy
      exact gen N (Nat.le_refl _)
    obtain ⟨rows, rl, rh⟩ := rowsEx
    have hSlt : h3.objs.size < h'.objs.size := Heap.lt_size hS'
    have I4 : Inv X pins σ (upd H1 h3.objs.size (.lst ((List.range N).map fun j => V.ref (h3.objs.size + 1 + j)))) { s2 with heap := trunc h' (h3.objs.size + 1), toks := tk } :=
      I2.laid (t' := tk) (h' := trunc h' (h3.objs.size + 1)) (fun c u q => by
        have cl : c < s2.heap.objs.size := Heap.lt_size q
        rw [trunc_get (Nat.lt_of_lt_of_le cl (by omega))]
        exact hk3 c u q) (by show s2.heap.objs.size ≤ h3.objs.size; omega) (show ObjOk X.prog X.w _ _ _ (.lst _) from ⟨by simpa using hN, acc'.toList, c', vals_range hacc, by
          rw [trunc_get (Nat.lt_succ_self _), Array.toArray_toList]; exact hS'⟩)
    have I5 := inv_rows rows _ (h3.objs.size + 1) I4 fun j r hr => ⟨(rh j r hr).2.1, (rh j r hr).2.2⟩
    have I6 : Inv X pins σ (updT (upd H1 h3.objs.size (.lst ((List.range N).map fun j => V.ref (h3.objs.size + 1 + j)))) (h3.objs.size + 1) rows) { s2 with heap := h', toks := tk } :=
      I5.kept (t' := tk) fun c u q => by
        have cl := trunc_lt q
        rw [trunc_get cl] at q
        exact q
    exact ⟨.ref h3.objs.size, _, I6, rfl, hQ _ rows (fun c hc => I3.hok.fresh hc) rl fun j ys hj => (rh j ys hj).1⟩
theorem rowsI_same {s1 : Store} : ∀ {ds : List D} {q : List (List D) × List Nat}, rowsI s1 ds = some q → sameAt q.2 s1 s1 = true
  | [], q, h => by cases h; rfl
  | d :: ds, q, h => by
    simp only [rowsI] at h
    cases hp : seqI s1 d with
    | none => rw [hp] at h; cases h
    | some p =>
      rw [hp] at h
      cases hr : rowsI s1 ds with
      | none => rw [hr] at h; cases h
      | some q' =>
        rw [hr] at h
        cases h
        have h1 := seqI_same hp
        have h2 := rowsI_same hr
        unfold sameAt at h1 h2 ⊢
        rw [List.all_append, h1, h2]; rfl
theorem repL_of {K : KB} {H : Hp} {m : List Addr} : ∀ {ds : List D} {vs : List V}, ds.length = vs.length → (∀ (j : Nat) (d : D) (v : V), ds[j]? = some d → vs[j]? = some v → Rep K H m d v) → RepL K H m ds vs
  | [], [], _, _ => .nil
  | d :: ds, v :: vs, hl, h => .cons (h 0 d v rfl rfl) (repL_of (by simpa using hl) fun j d' v' h1 h2 => h (j + 1) d' v' (by simpa using h1) (by simpa using h2))
  | [], _ :: _, hl, _ => by simp at hl
  | _ :: _, [], hl, _ => by simp at hl
def xListZn (f : Fe) : Fe := fun ρ st => (f ρ st).bind fun d s1 => match (seqI s1 d).bind fun p => rowsI s1 p.1 with
  | some q => if q.1.length = 0 ∨ 8 < q.1.length ∨ 1000 < (zipN q.1).length then .fail else .ok (.lst (zipN q.1)) s1
  | none => .fail
theorem de_listZn {X : Cx} {W : WX} {e : Expr} {f : Fe} {p p2 sp pos pos2 : Pos} (hc : X.calm = true) (hml : X.mg "list" = none) (hm : X.mg "zip" = none) (h : DE X W e f) (hgl : Gl X "list" := by rfl) (hg : Gl X "zip" := by rfl)
    (hs : starEach [.Starred e sp] X.env = [(true, eval e X.env)] := by rfl)
    (na : starEach [.Call (.Name "zip" p) [.Starred e sp] [] pos] X.env = (false, eval (.Call (.Name "zip" p) [.Starred e sp] [] pos) X.env) :: starEach [] X.env := by rfl) :
    DE X W (.Call (.Name "list" p2) [.Call (.Name "zip" p) [.Starred e sp] [] pos] [] pos2) (xListZn f) := by
  obtain ⟨t, pe, q⟩ := h
  refine ⟨_, pe_listZn hc hgl hml hg hm pe hs na, fun B σ H ρ st m Q re rs h => ?_⟩
  unfold tLstZ tZ
  refine q B σ H ρ st m _ re rs (good_bind h fun d s1 x H1 m1 e1 r1 rs1 h1 => ?_)
  cases hp : seqI s1 d with
  | none => rw [hp] at h1; exact h1.elim
  | some p =>
    rw [hp] at h1
    simp only [Option.bind_some] at h1
    cases hr : rowsI s1 p.1 with
    | none => rw [hr] at h1; exact h1.elim
    | some q' =>
      rw [hr] at h1
      simp only at h1
      split at h1
      · exact h1.elim
      · rename_i hn
        obtain ⟨a, k, rfl, _, S⟩ := seqI_src rs1 r1 hp
        obtain ⟨vs, sq, rv⟩ := S B H1 m1 s1 (fun b hb => .inl hb) .refl rs1 (seqI_same hp)
        obtain ⟨ks, rfl, e2, e3, S'⟩ := rowsI_src rs1 rv hr
        have hne : q'.1 ≠ [] := fun z => hn (.inl (by rw [z]; rfl))
        obtain ⟨z1, z2⟩ := zipN_len hne
        obtain ⟨xss, sqa, rr⟩ := S' B H1 m1 s1 (fun b hb => .inl hb) .refl rs1 (rowsI_same hr)
        have lens := RowsR.lens rr
        have memL : ∀ xs ∈ xss, ∃ r ∈ q'.1, r.length = xs.length := fun xs hx => by
          have : xs.length ∈ q'.1.map List.length := by rw [lens]; exact List.mem_map.mpr ⟨xs, hx, rfl⟩
          obtain ⟨r, h1, h2⟩ := List.mem_map.mp this
          exact ⟨r, h1, h2⟩
        have hlen : (zipN q'.1).length ≤ 1000 := by omega
        refine ⟨a, ks, rfl, ?_, fun z => hne (List.eq_nil_of_length_eq_zero (by rw [← e2, z]; rfl)), by rw [e2]; omega, e3, xss, (zipN q'.1).length, sqa, fun xs hx => ?_, ?_, Nat.le_trans hlen (by decide), fun qa rows hfree hl hrows => ?_⟩
        · cases k with
          | l => exact .inr sq
          | t => exact .inl sq
        · obtain ⟨r, hr, e⟩ := memL xs hx
          rw [← e]; exact z1 r hr
        · obtain ⟨x, hx, ex⟩ := z2
          have : x.length ∈ xss.map List.length := by rw [← lens]; exact List.mem_map.mpr ⟨x, hx, rfl⟩
          obtain ⟨xs, hxs, q2⟩ := List.mem_map.mp this
          exact ⟨xs, hxs, by rw [q2]; exact ex⟩
        · have hq : H1 qa = none := hfree qa (Nat.le_refl _)
          have g : Grow H1 (updT (upd H1 qa (.lst ((List.range (zipN q'.1).length).map fun j => V.ref (qa + 1 + j)))) (qa + 1) rows) :=
            (Grow.upd hq).trans (updT_grow rows _ (qa + 1) fun c hc => by
              rw [upd_ne (Nat.ne_of_gt (Nat.lt_of_lt_of_le (Nat.lt_succ_self qa) hc))]
              exact hfree c (by omega))
          refine h1 _ _ m1 g.evo (Rep.lst_iff.mpr ⟨qa, (List.range (zipN q'.1).length).map fun j => V.ref (qa + 1 + j), rfl, ⟨?_, rs1.fresh hq, rs1.freshB hq⟩, ?_⟩) (rs1.grow g)
          · rw [updT_low rows _ (qa + 1) qa (Nat.lt_succ_self qa), upd_same]
          · refine repL_of (by simp) fun j d v hd hv => ?_
            have hj : j < (zipN q'.1).length := (List.getElem?_eq_some_iff.mp hd).1
            have ev : v = .ref (qa + 1 + j) := by
              simp only [List.getElem?_map, List.getElem?_range hj, Option.map_some, Option.some.injEq] at hv
              exact hv.symm
            subst ev
            obtain ⟨ys, hys⟩ : ∃ ys, rows[j]? = some ys := ⟨rows[j]'(by rw [hl]; exact hj), List.getElem?_eq_getElem _⟩
            rw [zipN_get hd]
            have hT := updT_at rows (upd H1 qa (.lst ((List.range (zipN q'.1).length).map fun j => V.ref (qa + 1 + j)))) (qa + 1) j ys hys
            have hn1 : H1 (qa + 1 + j) = none := hfree _ (by omega)
            exact Rep.tup_iff.mpr ⟨qa + 1 + j, ys, rfl, .inl ⟨.inl hT, rs1.fresh hn1, rs1.freshB hn1⟩, RepL.evo g.evo _ _ (RowsR.row rr (hrows j ys hys) fun r hr => Nat.lt_of_lt_of_le hj (z1 r hr))⟩
end DL
namespace DL
open PySem PySem.Spec PyProof.Rows L2
variable [TabsCtx]
section
variable {X : Cx} {W : WX} {e : Expr} {es : List Expr} {f : Fe} {fs : Fa} {p pos : Pos}
structure DAS (X : Cx) (W : WX) (es : List Expr) (f : Fa) : Prop where
  ex : ∃ t : TA, PA X es t ∧ ∀ (B : List Addr) (σ : Sg) (H : Hp) (ρ : DEnv) (st : Store) (m : List Addr) (Q : List V → Hp → Prop), RepE ⟨X.K, B⟩ H m ρ σ → RepSt ⟨X.K, B⟩ H m st → GoodR (RepL ⟨X.K, B⟩) (f ρ st) Q (fun c d H' => W c d σ H') ⟨X.K, B⟩ H m → t σ H Q
theorem das_nil : DAS X W [] aNil := ⟨da_nil.ex⟩
theorem das_cons (h1 : DE X W e f) (h2 : DAS X W es fs) (hs : starEach (e :: es) X.env = (false, eval e X.env) :: starEach es X.env := by rfl) : DAS X W (e :: es) (aCons f fs) := by
  obtain ⟨ta, pa, qa⟩ := h1
  obtain ⟨tb, pb, qb⟩ := h2
  refine ⟨_, pa_cons pa pb hs, fun B σ H ρ st m Q re rs h => ?_⟩
  refine qa B σ H ρ st m _ re rs (good_bind h fun d s1 x H1 m1 e1 r1 rs1 h1 => ?_)
  refine qb B σ H1 ρ s1 m1 _ (re.evo e1) rs1 (good_bind h1 fun ds s2 xs H2 m2 e2 r2 rs2 h2 => ?_)
  exact good_ok h2 (RepL.cons (Rep.evo e2 _ _ r1) r2) rs2
/-- *e: the items of a list or a tuple -/
def aStar (f : Fe) (fs : Fa) : Fa := fun ρ st => (f ρ st).bind fun d s1 => match seqV s1 d with
  | some xs => (fs ρ s1).bind fun ds s2 => .ok (xs ++ ds) s2
  | none => .fail
theorem das_star (h1 : DE X W e f) (h2 : DAS X W es fs) (hs : starEach (.Starred e p :: es) X.env = (true, eval e X.env) :: starEach es X.env := by rfl) : DAS X W (.Starred e p :: es) (aStar f fs) := by
  obtain ⟨ta, pa, qa⟩ := h1
  obtain ⟨tb, pb, qb⟩ := h2
  refine ⟨_, StX.pa_star pa pb hs, fun B σ H ρ st m Q re rs h => ?_⟩
  refine qa B σ H ρ st m _ re rs (good_bind h fun d s1 x H1 m1 e1 r1 rs1 h1 => ?_)
  cases hv : seqV s1 d with
  | none => rw [hv] at h1; exact h1.elim
  | some xs =>
    rw [hv] at h1
    obtain ⟨a, vs, rfl, hq, rl⟩ := seqV_rep rs1 r1 hv
    refine ⟨a, vs, rfl, hq.symm, ?_⟩
    refine qb B σ H1 ρ s1 m1 _ (re.evo e1) rs1 (good_bind h1 fun ds s2 xs H2 m2 e2 r2 rs2 h2 => ?_)
    exact good_ok h2 (RepL.append (RepL.evo e2 _ _ rl) r2) rs2
def xLstS (fs : Fa) : Fe := fun ρ st => (fs ρ st).bind fun ds s1 => if ds.length ≤ sizeLine then .ok (.lst ds) s1 else .fail
def xTupS (fs : Fa) : Fe := fun ρ st => (fs ρ st).bind fun ds s1 => if ds.length ≤ sizeLine then .ok (.tup ds) s1 else .fail
def xNewS (fs : Fa) : Fe := fun ρ st => (fs ρ st).bind fun ds s1 => if ds.length ≤ sizeLine then .ok (.loc s1.length) (s1 ++ [.lst ds]) else .fail
theorem de_tupS {k : Nat} (h : DAS X W es fs) : DE X W (.Tuple es k pos) (xTupS fs) := by
  obtain ⟨t, p, q⟩ := h
  refine ⟨_, pe_tup p, fun B σ H ρ st m Q re rs h => ?_⟩
  refine q B σ H ρ st m _ re rs (good_bind h fun ds s1 xs H1 m1 e1 r1 rs1 h => ?_)
  split at h
  · rename_i hl
    exact ⟨by rw [← r1.length]; exact hl, fun p hp => h (.ref p) _ m1 (Grow.upd hp).evo (Rep.newT rs1 hp r1) (rs1.grow (Grow.upd hp))⟩
  · exact h.elim
theorem de_lstS (h : DAS X W es fs) : DE X W (.List es pos) (xLstS fs) := by
  obtain ⟨t, p, q⟩ := h
  refine ⟨_, pe_lst p, fun B σ H ρ st m Q re rs h => ?_⟩
  refine q B σ H ρ st m _ re rs (good_bind h fun ds s1 xs H1 m1 e1 r1 rs1 h => ?_)
  split at h
  · rename_i hl
    exact ⟨by rw [← r1.length]; exact hl, fun p hp => h (.ref p) _ m1 (Grow.upd hp).evo (Rep.newL rs1 hp r1) (rs1.grow (Grow.upd hp))⟩
  · exact h.elim
theorem de_newS (h : DAS X W es fs) : DE X W (.List es pos) (xNewS fs) := by
  obtain ⟨t, p, q⟩ := h
  refine ⟨_, pe_lst p, fun B σ H ρ st m Q re rs h => ?_⟩
  refine q B σ H ρ st m _ re rs (good_bind h fun ds s1 xs H1 m1 e1 r1 rs1 h => ?_)
  split at h
  · rename_i hl
    refine ⟨by rw [← r1.length]; exact hl, fun p hp => ?_⟩
    obtain ⟨a1, a2, a3⟩ := new_place rs1 r1 hp
    exact h (.ref p) _ _ a1 a2 a3
  · exact h.elim
end
end DL
namespace DL
open PySem PySem.Spec PyProof.Rows L2
section
variable {prog : Program} {w : World} {A : Around} {R : Result → Shared → Prop} {I S : Addr} {fp wr : List Addr} {n : Nat} {P : Nat → Value → Prop} {St : Nat → Heap → Prop} {G : Heap → Prop} {bt : Nat → Nat → Bool}
/-- items are compared as long as G stands of the heap -/
structure CmpG (prog : Program) (w : World) (A : Around) (G : Heap → Prop) (P : Nat → Value → Prop) (bt : Nat → Nat → Bool) : Prop where
  run : ∀ (i j : Nat) (x y : Value) (u : Shared) (Q : Value → Shared → Prop) (E : Value → Shared → Prop), G u.heap → P i x → P j y → Q (.bool (bt i j)) u → wpAny (model prog w) A (richCompare .Lt x y) Q E u
theorem least_loop (W : Walks prog w A.in1 I fp wr n P St) (cg : CmpG prog w A.in1 G P bt) (kg : ∀ h h' : Heap, G h → (∀ b o, b ∉ wr → b ≠ S → h.get? b = some o → h'.get? b = some o) → G h') (nS : S ∉ fp) (k : Nat) :
    ∀ (j : Nat) (u : Shared) (x : Value) (c : Nat), n - (j + 1) = k → j + 1 ≤ n → St (j + 1) u.heap → G u.heap → P (argBest bt j) x → u.heap.get? S = some { cls := .type "list", dict := none, data := .seq #[x, x] c, slots := #[] } →
    (∀ y h' tk, P (argBest bt (n - 1)) y → (∀ b o, b ∉ wr → b ≠ S → u.heap.get? b = some o → h'.get? b = some o) → R (.ok (.ret y)) { u with heap := h', toks := tk }) → codeAny (model prog w) A (.builtin "min.loop" ⟨[.ref I, .none, .ref S], []⟩) R u := by
  have nw : S ∉ wr := fun z => nS (W.sub _ z)
  have nm : (toString "min" ++ toString ".loop" : String) = "min.loop" := by decide
  induction k with
  | zero =>
    intro j u x c ek hj st g px eS fin
    have ej : j + 1 = n := by omega
    refine codeAny_builtin PySem.F.entry_min_loop ?_
    rw [Around.under_plainId PySem.F.plain_min_loop _]
    show wpAny _ A.in1 (seqItems? (.ref S) >>= _) _ _ u
    refine wpAny_bind (wpAny_seqItems eS rfl ?_)
    show wpAny _ A.in1 (tryCatch (pyNext (.ref I)) _ >>= _) _ _ u
    refine wpAny_bind (wpAny_tryCatch (W.done u _ _ (by rw [← ej]; exact st) fun h1 tk k1 => ?_))
    have eS1 := k1 S _ nw eS
    show wpAny _ A.in1 (updateSeq S (fun _ => #[]) >>= _) _ _ _
    refine wpAny_bind (wpAny_updateSeq eS1 rfl (wpAny_bind (wpAny_letGo (wpAny_pure (fin x _ tk (by rw [← ej]; exact px) fun b o n1 n2 e => ?_)))))
    exact (Heap.get?_update_other _ _ (Ne.symm n2)).trans (k1 b o n1 e)
  | succ k ih =>
    intro j u x c ek hj st g px eS fin
    have hl : j + 1 < n := by omega
    refine codeAny_builtin PySem.F.entry_min_loop ?_
    rw [Around.under_plainId PySem.F.plain_min_loop _]
    show wpAny _ A.in1 (seqItems? (.ref S) >>= _) _ _ u
    refine wpAny_bind (wpAny_seqItems eS rfl ?_)
    show wpAny _ A.in1 (tryCatch (pyNext (.ref I)) _ >>= _) _ _ u
    refine wpAny_bind (wpAny_tryCatch (W.item (j + 1) u _ _ hl st fun y h1 tk py st1 k1 => ?_))
    have eS1 := k1 S _ nw eS
    have g1 : G h1 := kg _ _ g fun b o n1 _ e => k1 b o n1 e
    show wpAny _ A.in1 (tryCatch (holding [y, y] (richCompare .Lt y x >>= _)) _ >>= _) _ _ _
    refine wpAny_bind (wpAny_tryCatch (wpAny_holding (wpAny_bind (cg.run (j + 1) (argBest bt j) y x _ _ _ g1 py px ?_))))
    refine wpAny_bind (wpAny_holding (wpAny_truthy_bool (wpAny_bind (wpAny_letGo (wpAny_pure ?_)))))
    cases hb : bt (j + 1) (argBest bt j) with
    | true =>
      simp only [if_true]
      refine wpAny_bind (wpAny_updateSeq eS1 rfl (wpAny_bind (wpAny_letGo ?_)))
      rw [nm]
      have ch : ∀ b o, b ∉ wr → b ≠ S → h1.get? b = some o → (h1.update S (Obj.mapSeq fun _ => #[y, y])).get? b = some o := fun b o _ n2 e => (Heap.get?_update_other _ _ (Ne.symm n2)).trans e
      refine wpAny_pure ⟨plainId_quiet PySem.F.plain_min_loop _, ih (j + 1) _ y _ (by omega) hl (W.frame _ _ _ st1 fun b hbf o e => ?_) (kg _ _ g1 ch) (by simp only [argBest, hb, if_true]; exact py) (Heap.get?_update_self _ eS1 rfl) fun z h2 tk2 pz k2 => ?_⟩
      · exact (Heap.get?_update_other _ _ (fun z : S = b => nS (by rw [z]; exact hbf))).trans e
      · exact fin z h2 tk2 pz fun b o n1 n2 e => k2 b o n1 n2 (ch b o n1 n2 (k1 b o n1 e))
    | false =>
      simp only [Bool.false_eq_true, if_false]
      refine wpAny_bind (wpAny_letGo ?_)
      rw [nm]
      refine wpAny_pure ⟨plainId_quiet PySem.F.plain_min_loop _, ih (j + 1) _ x c (by omega) hl st1 g1 (by simp only [argBest, hb, Bool.false_eq_true, if_false]; exact px) eS1 fun z h2 tk2 pz k2 => ?_⟩
      exact fin z h2 tk2 pz fun b o n1 n2 e => k2 b o n1 n2 (k1 b o n1 e)
theorem least_first (W : Walks prog w A.in1 I fp wr n P St) (cg : CmpG prog w A.in1 G P bt) (kg : ∀ h h' : Heap, G h → (∀ b o, b ∉ wr → b ≠ S → h.get? b = some o → h'.get? b = some o) → G h') (nS : S ∉ fp) (hn : 0 < n) {u : Shared} {c : Nat} (st : St 0 u.heap) (g : G u.heap)
    (eS : u.heap.get? S = some { cls := .type "list", dict := none, data := .seq #[] c, slots := #[] })
    (fin : ∀ y h' tk, P (argBest bt (n - 1)) y → (∀ b o, b ∉ wr → b ≠ S → u.heap.get? b = some o → h'.get? b = some o) → R (.ok (.ret y)) { u with heap := h', toks := tk }) : codeAny (model prog w) A (.builtin "min.loop" ⟨[.ref I, .none, .ref S], []⟩) R u := by
  have nw : S ∉ wr := fun z => nS (W.sub _ z)
  have nm : (toString "min" ++ toString ".loop" : String) = "min.loop" := by decide
  refine codeAny_builtin PySem.F.entry_min_loop ?_
  rw [Around.under_plainId PySem.F.plain_min_loop _]
  show wpAny _ A.in1 (seqItems? (.ref S) >>= _) _ _ u
  refine wpAny_bind (wpAny_seqItems eS rfl ?_)
  show wpAny _ A.in1 (tryCatch (pyNext (.ref I)) _ >>= _) _ _ u
  refine wpAny_bind (wpAny_tryCatch (W.item 0 u _ _ hn st fun y h1 tk py st1 k1 => ?_))
  have eS1 := k1 S _ nw eS
  have g1 : G h1 := kg _ _ g fun b o n1 _ e => k1 b o n1 e
  show wpAny _ A.in1 (updateSeq S (fun _ => #[y, y]) >>= _) _ _ _
  refine wpAny_bind (wpAny_updateSeq eS1 rfl ?_)
  rw [nm]
  have ch : ∀ b o, b ∉ wr → b ≠ S → h1.get? b = some o → (h1.update S (Obj.mapSeq fun _ => #[y, y])).get? b = some o := fun b o _ n2 e => (Heap.get?_update_other _ _ (Ne.symm n2)).trans e
  refine wpAny_pure ⟨plainId_quiet PySem.F.plain_min_loop _, least_loop W cg kg nS _ 0 _ y _ rfl hn (W.frame _ _ _ st1 fun b hbf o e => ?_) (kg _ _ g1 ch) py (Heap.get?_update_self _ eS1 rfl) fun z h2 tk2 pz k2 => ?_⟩
  · exact (Heap.get?_update_other _ _ (fun z : S = b => nS (by rw [z]; exact hbf))).trans e
  · exact fin z h2 tk2 pz fun b o n1 n2 e => k2 b o n1 n2 (ch b o n1 n2 (k1 b o n1 e))
end
section
variable {prog : Program} {w : World} {A : Around} {E : Value → Shared → Prop} {s : Shared} {l : Addr} {items : Array Value} {bt : Nat → Nat → Bool}
theorem least_of {Q : Value → Shared → Prop} (hh : A.handled = none) (hl : s.heap.IsList l items) (hne : 0 < items.size)
    (cg : CmpG prog w A.in1 (fun h => ∀ b o, s.heap.get? b = some o → h.get? b = some o) (fun i v => items[i]? = some v) bt)
    (fin : ∀ v h' tk, items[argBest bt (items.size - 1)]? = some v → (∀ b o, s.heap.get? b = some o → h'.get? b = some o) → Q v { s with heap := h', toks := tk }) : wpAny (model prog w) A (call (.builtin "min") [.ref l]) Q E s := by
  have nm : (toString "min" ++ toString ".loop" : String) = "min.loop" := by decide
  have hlt : l < s.heap.objs.size := by obtain ⟨_, e, _⟩ := hl; exact Heap.lt_size e
  refine call_function_tree PySem.F.kind_min PySem.F.plain_min PySem.F.entry_min (PySem.F.args_min1 _) ?_
  show wpAny _ A.in1 (Builtin.Builtins.bindParams "min" ["key", "default"] 0 ⟨[], []⟩ >>= _) _ _ s
  refine wpAny_bind (wpAny_of_eq (show Builtin.Builtins.bindParams "min" ["key", "default"] 0 ⟨[], []⟩ = pure [none, none] from rfl) (wpAny_bind (wpAny_pure ?_)))
  refine wpAny_bind (wpAny_pyIter_list hl ?_)
  refine wpAny_bind (wpAny_newObj_type ?_)
  rw [nm]
  have W : Walks prog w A.in1 s.heap.objs.size [s.heap.objs.size, l] [s.heap.objs.size] items.size (fun i v => items[i]? = some v) (fun i h => h.IsListIter s.heap.objs.size l i ∧ h.IsList l items) := Walks.list (A := A.in1) hh _ l (Nat.ne_of_lt hlt) items
  have old : ∀ b o, s.heap.get? b = some o → ((s.heap.push { cls := .type "list_iterator", data := .fields #[.ref l, .int 0 0] }).push { cls := .type "list", data := .seq ([] : List Value).toArray }).get? b = some o := fun b o e => Heap.get?_push_of_some _ (Heap.get?_push_of_some _ e)
  have sz : (s.heap.push { cls := .type "list_iterator", data := .fields #[.ref l, .int 0 0] }).objs.size = s.heap.objs.size + 1 := Heap.size_push ..
  refine wpAny_pure ⟨plainId_quiet PySem.F.plain_min_loop _, least_first (S := (s.heap.push { cls := .type "list_iterator", data := .fields #[.ref l, .int 0 0] }).objs.size) W cg (fun h h' g k b o e => k b o ?_ ?_ (g b o e)) ?_ hne ⟨⟨_, Heap.get?_push_of_some _ (Heap.get?_push_size _ rfl), rfl, rfl⟩, (hl.push _).push _⟩ old (Heap.get?_push_size _ rfl) fun v h' tk hP hk => ?_⟩
  · intro z
    simp only [List.mem_singleton] at z
    exact absurd (Heap.lt_size e) (by rw [z]; exact Nat.lt_irrefl _)
  · intro z
    rw [sz] at z
    exact absurd (Heap.lt_size e) (by rw [z]; exact Nat.not_lt.mpr (Nat.le_succ _))
  · intro z
    simp only [List.mem_cons, List.not_mem_nil, or_false] at z
    rw [sz] at z
    rcases z with z | z
    · exact absurd z (Nat.succ_ne_self _)
    · exact absurd hlt (by rw [← z]; exact Nat.not_lt.mpr (Nat.le_succ _))
  · refine fin v h' tk hP fun b o e => hk b o ?_ ?_ (old b o e)
    · intro z
      simp only [List.mem_singleton] at z
      exact absurd (Heap.lt_size e) (by rw [z]; exact Nat.lt_irrefl _)
    · intro z
      rw [sz] at z
      exact absurd (Heap.lt_size e) (by rw [z]; exact Nat.not_lt.mpr (Nat.le_succ _))
end
variable [TabsCtx]
section
variable {X : Cx}
def rMinT (K : PySem.W.Frag) : List V → Hp → VK → Prop := fun vs H Q => ∃ (a : Addr) (xs : List V) (nss : List (List Int)), vs = [V.ref a] ∧ SqL K H a xs ∧ xs.length = nss.length ∧ 0 < nss.length ∧
  (∀ (i : Nat) (x : V) (ns : List Int), xs[i]? = some x → nss[i]? = some ns → ∃ t, x = .ref t ∧ SqT K H t (ns.map V.int)) ∧ ∀ x, xs[argBest (fun i j => HT.lexLt (nss.getD i []) (nss.getD j [])) (nss.length - 1)]? = some x → Q x H
theorem cr_minT (hc : X.calm = true) (hu : X.A.units + 2 < cLine) : CallR X (.builtin "min") (rMinT X.K) := by
  intro pins s σ H vs us Q I r h
  obtain ⟨a, xs, nss, rfl, hs, hl, hne, ht, q⟩ := h
  obtain ⟨its, rv, pl, _⟩ := I.list hs
  rw [Vals.ref1 r]
  have el := rv.length
  have at_ : ∀ (i : Nat) (v : Value), its.toArray[i]? = some v → ∃ (t : Addr) (ns : List Int) (arr : List Value), v = .ref t ∧ nss[i]? = some ns ∧ IsTup s.heap t arr.toArray ∧ IntsAre arr.toArray.toList ns := fun i v e => by
    have e : its[i]? = some v := by simpa using e
    have hi : i < its.length := (List.getElem?_eq_some_iff.mp e).1
    have hi1 : i < xs.length := by omega
    have hi2 : i < nss.length := by omega
    obtain ⟨u, e2, r2⟩ := rv.get (List.getElem?_eq_getElem hi1)
    rw [e] at e2
    cases e2
    obtain ⟨t, ex, hq⟩ := ht i _ _ (List.getElem?_eq_getElem hi1) (List.getElem?_eq_getElem hi2)
    rw [ex] at r2
    obtain rfl : v = Value.ref t := r2
    obtain ⟨arr, r1, p1, _⟩ := I.tuple hq
    exact ⟨t, _, arr, rfl, List.getElem?_eq_getElem hi2, p1, by simpa using intsAre_of r1⟩
  refine least_of (items := its.toArray) (bt := fun i j => HT.lexLt (nss.getD i []) (nss.getD j [])) (I.ok.hd hc) pl.isList (by rw [List.size_toArray]; omega) ⟨fun i j x y u Q E g px py hq => ?_⟩ fun v h' tk hP hk => ?_
  · obtain ⟨t1, n1, a1, rfl, k1, p1, i1⟩ := at_ i x px
    obtain ⟨t2, n2, a2, rfl, k2, p2, i2⟩ := at_ j y py
    have up : ∀ {t : Addr} {arr : List Value}, IsTup s.heap t arr.toArray → IsTup u.heap t arr.toArray := fun ⟨o, e, z⟩ => ⟨o, g _ _ e, z⟩
    have d1 : nss.getD i [] = n1 := by rw [List.getD_eq_getElem?_getD, k1]; rfl
    have d2 : nss.getD j [] = n2 := by rw [List.getD_eq_getElem?_getD, k2]; rfl
    refine HT.lt_tupInts (up p1) (up p2) i1 i2 (by show X.A.units + 1 < cLine; omega) ?_
    rw [d1, d2] at hq
    exact hq
  · have e : its[argBest (fun i j => HT.lexLt (nss.getD i []) (nss.getD j [])) (nss.length - 1)]? = some v := by
      rw [List.size_toArray, show its.length = nss.length by omega] at hP
      simpa using hP
    have hi := (List.getElem?_eq_some_iff.mp e).1
    obtain ⟨u, e2, r2⟩ := rv.get (List.getElem?_eq_getElem (show argBest (fun i j => HT.lexLt (nss.getD i []) (nss.getD j [])) (nss.length - 1) < xs.length by omega))
    rw [e] at e2
    cases e2
    exact ⟨_, H, I.kept hk, r2, q _ (List.getElem?_eq_getElem _)⟩
def tupI : D → Option (List Int)
  | .tup ds => dInts ds
  | _ => none
def allTI : List D → Option (List (List Int))
  | [] => some []
  | d :: ds => (tupI d).bind fun ns => (allTI ds).bind fun nss => some (ns :: nss)
theorem allTI_rep {K : KB} {H : Hp} {m : List Addr} : ∀ {ds : List D} {vs : List V} {nss : List (List Int)}, RepL K H m ds vs → allTI ds = some nss → vs.length = nss.length ∧ ∀ (i : Nat) (x : V) (ns : List Int), vs[i]? = some x → nss[i]? = some ns → ∃ t, x = .ref t ∧ SqT K.K H t (ns.map V.int)
  | [], vs, nss, r, h => by
    cases h
    rw [r.inv_nil]
    exact ⟨rfl, fun i x ns e => by simp at e⟩
  | d :: ds, vs, nss, r, h => by
    obtain ⟨v, vr, rfl, r1, r2⟩ := r.inv_cons
    obtain ⟨n1, h1, h⟩ := Option.bind_eq_some_iff.mp h
    obtain ⟨nr, h2, h⟩ := Option.bind_eq_some_iff.mp h
    cases h
    obtain ⟨e, ih⟩ := allTI_rep r2 h2
    refine ⟨by simp [e], fun i x ns hx hn => ?_⟩
    cases i with
    | zero =>
      simp at hx hn
      subst hx hn
      cases d with
      | tup es =>
        obtain ⟨a, ws, rfl, hq, rl⟩ := r1.tup_sq
        obtain ⟨rfl, _⟩ := dInts_rep rl h1
        exact ⟨a, rfl, hq⟩
      | _ => cases h1
    | succ i => exact ih i x ns (by simpa using hx) (by simpa using hn)
def minTD (nss : List (List Int)) (xs : List D) : Option D := xs[argBest (fun i j => HT.lexLt (nss.getD i []) (nss.getD j [])) (nss.length - 1)]?
/-- min of ints, or of a list of tuples of ints -/
def gMinT : GL := fun st ds => match ds with
  | [d] => match lstV st d with
    | some xs => match allTI xs with
      | some (ns :: nss) => minTD (ns :: nss) xs
      | _ => gMin st ds
    | none => gMin st ds
  | _ => gMin st ds
theorem dc_minT (hc : X.calm = true) (hu : X.A.units + 64 < cLine) : DCall X (.builtin "min") gMinT := by
  obtain ⟨r0, c0, q0⟩ := dc_min (X := X) hc
  refine ⟨_, c0.or (cr_minT hc (by omega)), fun B xs H m st ds d Q rs r h q => ?_⟩
  unfold gMinT at h
  split at h
  · rename_i d1
    split at h
    · rename_i ys hy
      split at h
      · rename_i ns nss ha
        obtain ⟨v, rfl, r1⟩ := one_inv r
        obtain ⟨a, vs, rfl, hs, rl⟩ := lstV_rep rs r1 hy
        obtain ⟨e, z⟩ := allTI_rep rl ha
        refine .inr ⟨a, vs, ns :: nss, rfl, hs, e, by simp, z, fun x hx => ?_⟩
        obtain ⟨v2, e2, r2⟩ := rl.get h
        rw [hx] at e2
        cases e2
        exact q _ H Grow.refl r2
      · exact .inl (q0 B xs H m st _ d Q rs r h q)
    · exact .inl (q0 B xs H m st _ d Q rs r h q)
  · exact .inl (q0 B xs H m st _ d Q rs r h q)
def gIsX : G2 := fun st a b => match a, b with
  | .bl x, .bl y => some (.bl (decide (x = y)))
  | _, _ => gIsN st a b
def gNotX : G2 := fun st a b => match a, b with
  | .bl x, .bl y => some (.bl (!decide (x = y)))
  | _, _ => gNotN st a b
theorem dop_isX : DOp X (compareOp .Is) gIsX := by
  obtain ⟨r0, c0, q0⟩ := (dop_isN (X := X))
  refine ⟨_, c0.or op_is_bl, fun B x y H m st da db d Q rs ra rb h q => ?_⟩
  unfold gIsX at h
  split at h
  · cases h
    cases Rep.bl_iff.mp ra
    cases Rep.bl_iff.mp rb
    exact .inr ⟨_, _, rfl, rfl, q _ H Grow.refl (Rep.bl_iff.mpr rfl)⟩
  · exact .inl (q0 B x y H m st _ _ d Q rs ra rb h q)
theorem dop_notX : DOp X (compareOp .IsNot) gNotX := by
  obtain ⟨r0, c0, q0⟩ := (dop_notN (X := X))
  refine ⟨_, c0.or op_isnot_bl, fun B x y H m st da db d Q rs ra rb h q => ?_⟩
  unfold gNotX at h
  split at h
  · cases h
    cases Rep.bl_iff.mp ra
    cases Rep.bl_iff.mp rb
    exact .inr ⟨_, _, rfl, rfl, q _ H Grow.refl (Rep.bl_iff.mpr rfl)⟩
  · exact .inl (q0 B x y H m st _ _ d Q rs ra rb h q)
theorem ClsOk.scN {K : PySem.W.Frag} {T : SlTab} {c : Str} (C : ClsOk K T) (h : T.any (fun p => decide (p.1 = c)) = true) : SlX.SCls K (He.ga K c) := by
  obtain ⟨p, hp, rfl⟩ := any_name h
  exact C.sc p hp
end
end DL
namespace DL
open PySem PySem.Spec PyProof.Rows L2
variable [TabsCtx]
def zeroR (r : Res D) (st : Store) : Res D := match pure0 r with
  | .ok d _ => .ok d st
  | .exc c fs _ => .exc c fs st
  | .fail => .fail
section
variable {K : PySem.W.Frag} {B : List Addr} {H H' : Hp} {m : List Addr}
theorem zero_res {r : Res D} {st : Store} {Q : VK} {E : WH} (rs : RepSt ⟨K, B⟩ H m st) (h : GoodR (Rep ⟨K, B⟩) (zeroR r st) Q E ⟨K, B⟩ H m) : GoodR (Rep ⟨K, B ++ m⟩) r Q E ⟨K, B ++ m⟩ H [] := by
  unfold zeroR at h
  refine pure_run (st := []) (zero_st rs) ?_
  show GoodR _ (pureR 0 [] _) _ _ _ _ _
  rw [pureR_zero]
  cases er : pure0 r with
  | ok d s =>
    rw [er] at h
    obtain ⟨hd, rfl⟩ := pure0_ok er
    intro v H1 m1 e1 r1 rs1
    have hm : m1 = [] := List.eq_nil_of_length_eq_zero rs1.len
    subst hm
    obtain ⟨ev, rs2⟩ := evo_zero rs e1
    exact h v H1 m ev (r1.lift rs2 hd) rs2
  | exc c fs s =>
    rw [er] at h
    obtain ⟨hl, rfl⟩ := pure0_exc er
    intro dx H1 m1 e1 rx rs1
    have hm : m1 = [] := List.eq_nil_of_length_eq_zero rs1.len
    subst hm
    obtain ⟨ev, rs2⟩ := evo_zero rs e1
    refine h dx H1 m ev ?_ rs2
    cases fs with
    | none => exact rx
    | some l =>
      obtain ⟨a, vs, q1, q2, q3, q4⟩ := rx
      exact ⟨a, vs, q1, q2, ne_place rs2 q2 (fun _ z => nomatch z) (fun _ z => nomatch z) (fun _ _ _ _ z => by unfold SlX.SlO at z; cases z) (fun _ _ z => nomatch z), q4.lift rs2 (hl l rfl)⟩
  | fail => rw [er] at h; exact h.elim
end
section
variable {X : Cx} {W : WX} {pos p : Pos} {e : Expr} {es : List Expr} {fa : Fa} {x : Str}
def mkR (c : Str) (F : Fd) (ds : List D) : Res D := (F (.loc 0 :: ds) [.ins c []]).bind fun r s2 => match r with
  | .non => .ok (.loc 0) s2
  | _ => .fail
def xMkZ (c : Str) (F : Fd) (fa : Fa) : Fe := fun ρ st => (fa ρ st).bind fun ds s1 => if D.undL 0 ds = true then zeroR (mkR c F ds) s1 else .fail
theorem de_mkZ {k n : Nat} {f : Addr} {fd : FuncData} {ps : List Str} {F : Fd} (M : Mk X.K (He.ga X.K x) f) (G : FnG X.prog X.w X.K X.mg X.base k f fd ps (spD X.K n F)) (hr : Room (k + 1) X.A) (hx : XOk X W) (hb : Binds X.K fd ps []) (hm : X.mg x = some (.ref (He.ga X.K x))) (ha : DA X W (e :: es) fa)
    (hg : Gl X x := by rfl) (hn : (e :: es).length + 1 = n := by rfl)
    (hdb : (x == ("__debug__" : Str)) = false := by decide) (he : starEach (e :: es) X.env = (false, eval e X.env) :: starEach es X.env := by rfl) (hpl : (backTo pos (starEach es X.env)).any (·.1) = false := by rfl) : DE X W (.Call (.Name x p) (e :: es) [] pos) (xMkZ x F fa) := by
  obtain ⟨⟨t, pt, q⟩, hl⟩ := ha
  refine ⟨_, pe_makeD M G hr hx hb hg hm pt hdb he hpl, fun B σ H ρ st ml Q re rs h => ?_⟩
  unfold xMkZ at h
  cases er : fa ρ st with
  | fail => rw [er] at h; exact h.elim
  | exc c f s => exact q B σ H ρ st ml _ re rs (by rw [er] at h ⊢; exact h)
  | ok ds s1 =>
    refine q B σ H ρ st ml _ re rs ?_
    rw [er] at h ⊢
    simp only [Res.bind_ok] at h
    intro vs H1 m1 e1 r1 rs1 a dx ha hdx hne
    split at h
    · rename_i hu
      have h1 := GoodR.evo h e1
      have g1 := zero_res rs1 h1
      have rs2 : RepSt ⟨X.K, B ++ m1⟩ (upd H1 dx (.xd [])) [] [] := (zero_st rs1).grow (Grow.upd hdx)
      have ha2 : upd H1 dx (.xd []) a = none := by rw [upd_ne (Ne.symm hne)]; exact ha
      have ev : Evo H1 [] (upd (upd H1 dx (.xd [])) a (SlX.SlO a (He.ga X.K x) dx [])) ([] ++ [a]) := (Grow.upd hdx).evo.trans (.push ha2)
      have rs3 : RepSt ⟨X.K, B ++ m1⟩ (upd (upd H1 dx (.xd [])) a (SlX.SlO a (He.ga X.K x) dx [])) ([] ++ [a]) ([] ++ [.ins x []]) := by
        refine rs2.push ha2 ⟨dx, [], upd_same, by rw [upd_ne hne, upd_same], ?_, (zero_st rs1).freshB hdx, rfl⟩
        simp only [List.nil_append, List.mem_singleton]
        exact hne
      refine ⟨B ++ m1, .loc 0 :: ds, [.ins x []], [a], ?_, RepL.cons (Rep.loc_iff.mpr ⟨a, rfl, rfl⟩) (RepL.evo ev _ _ (RepL.drop0 r1 hu)), rs3, ?_⟩
      · rw [← hn]
        simp only [List.length_cons]
        rw [hl _ _ _ _ er, List.length_cons]
      · have h := GoodR.evo g1 ev
        unfold mkR at h
        cases hF : F (.loc 0 :: ds) [.ins x []] with
        | fail => rw [hF] at h; exact h.elim
        | exc c f s => rw [hF] at h; exact fun dx2 H' m' e1 rx rs => untag_of (h dx2 H' m' e1 rx rs)
        | ok d s =>
          rw [hF] at h
          simp only [Res.bind_ok] at h
          intro v H2 m2 e2 r2 rs4
          cases d with
          | non => exact ⟨Rep.non_iff.mp r2, h (.ref a) H2 m2 e2 (Rep.loc_iff.mpr ⟨a, rfl, e2.get rfl⟩) rs4⟩
          | _ => exact h.elim
    · exact h.elim
/-- from a table: what is made of known data -/
theorem ev_mkZ {c : Str} {F : Fd} {fa : Fa} {ρ : DEnv} {st s1 : Store} {ds : List D} {d : D} (ha : fa ρ st = .ok ds s1) (hu : D.undL 0 ds = true) (h : pure0 (mkR c F ds) = .ok d []) : xMkZ c F fa ρ st = .ok d s1 := by
  unfold xMkZ zeroR
  rw [ha, Res.bind_ok, if_pos hu, h]
end
end DL
namespace DL
open PySem PySem.Spec PyProof.Rows L2
variable [TabsCtx]
section
variable {X : Cx} {W : WX} {pos : Pos} {kx vx tg iter : Expr} {ifs : List Expr} {scope : Scope} {own : List (Str × Nat)} {fi : Fi} {g : Fg} {is : List Nat} {ft : Ft} {fk fv : Fe}
theorem de_dcN (hx : XOk X W) (hi : DI X W tg iter fi) (ok : BlkOk X.N X.env.scope scope own)
    (hg : Blk X scope fun Y => DG Y tg is g) (ht : Blk X scope fun Y => DTs Y WF ifs ft) (hk : Blk X scope fun Y => DE Y WF kx fk) (hv : Blk X scope fun Y => DE Y WF vx fv) (his : (is.all fun i => (own.map (·.2)).contains i) = true := by rfl) (hs : ∀ x, foldedSetIterable iter X.env x = pure x := by intro _; rfl) :
    DE X W (.DictComp kx vx [⟨tg, iter, ifs, 0⟩] scope pos) (xDcN fi g ft fk fv (own.map (·.2))) := by
  obtain ⟨wi, pi, pg, pt, pk, pv, q⟩ := dcp_all hx hi hg ht hk hv his
  refine ⟨_, pe_dc hx.calm hx.nd pi ok pg pt pk pv hs, fun B σ H ρ st m Q re rs h => ?_⟩
  unfold xDcN at h
  cases er : xDcF fi g ft fk fv (own.map (·.2)) ρ st with
  | fail => rw [er] at h; exact h.elim
  | exc c fs s => rw [er] at h; exact q B σ H ρ st m _ re rs (fun c' fs' s' e => by rw [er] at e; cases e; exact h) ⟨[], s, .inr ⟨c, fs, er⟩⟩ (fun ds s e => by rw [er] at e; cases e)
  | ok ds s =>
    rw [er] at h
    refine q B σ H ρ st m _ re rs (fun c' fs' s' e => by rw [er] at e; cases e) ⟨ds, s, .inl er⟩ fun ds' s' e D' H1 m1 H' m' ws e1 hD hB e2 rs' hl r => ?_
    rw [er] at e
    injection e with e3 e4
    subst e3 e4
    obtain ⟨a1, a2, a3⟩ := dcp_finN e1 hD hB e2 rs' hl r
    exact h (.ref D') H' _ a1 a2 a3
/-- x() -/
theorem de_call0 {k : Nat} {g : Addr} {fd : FuncData} {ps : List Str} {F : Fd} {x : Str} {p : Pos} (G : FnG X.prog X.w X.K X.mg X.base k g fd ps (spD X.K 0 F)) (hr : Room k X.A) (hx : XOk X W) (hm : X.mg x = some (.ref g)) (hk : PySem.W.keepIn X.K (.ref g) = true)
    (hb : Binds X.K fd ps []) (hg : Gl X x := by rfl) (hdb : (x == ("__debug__" : Str)) = false := by decide) : DE X W (.Call (.Name x p) [] [] pos) (xApply F aNil) := by
  refine ⟨fun σ H Q => spD X.K 0 F [] H Q fun c d H' => untag X.K W c d σ H', ⟨fun pins s σ H Q I h => ?_⟩, fun B σ H ρ st m Q re rs h => ?_⟩
  · refine wpAny_Call_Name_kw (ld_glob I hg hm ?_ hdb)
    exact PySem.W.callWith_K0 (first := []) I.kIn hk (runG (us := []) (vs := []) G hr hx hb I .nil h)
  · exact ⟨B, [], st, m, rfl, RepL.nil, rs, GoodR.imp (r := F [] st) h fun c d H' q => untag_of q⟩
def gLtX : G2 := fun st a b => match a, b with
  | .str x, .str y => some (.bl (ltS x y))
  | _, _ => gLt st a b
def gLeX : G2 := fun st a b => match a, b with
  | .str x, .str y => some (.bl (!ltS y x))
  | _, _ => gLe st a b
theorem dop_ltX : DOp X (compareOp .Lt) gLtX := by
  obtain ⟨r0, c0, q0⟩ := (dop_lt (X := X))
  refine ⟨_, c0.or op_lt_str, fun B x y H m st da db d Q rs ra rb h q => ?_⟩
  unfold gLtX at h
  split at h
  · cases h
    cases Rep.str_iff.mp ra
    cases Rep.str_iff.mp rb
    exact .inr ⟨_, _, rfl, rfl, q _ H Grow.refl (Rep.bl_iff.mpr rfl)⟩
  · exact .inl (q0 B x y H m st _ _ d Q rs ra rb h q)
theorem dop_leX : DOp X (compareOp .LtE) gLeX := by
  obtain ⟨r0, c0, q0⟩ := (dop_le (X := X))
  refine ⟨_, c0.or op_le_str, fun B x y H m st da db d Q rs ra rb h q => ?_⟩
  unfold gLeX at h
  split at h
  · cases h
    cases Rep.str_iff.mp ra
    cases Rep.str_iff.mp rb
    exact .inr ⟨_, _, rfl, rfl, q _ H Grow.refl (Rep.bl_iff.mpr rfl)⟩
  · exact .inl (q0 B x y H m st _ _ d Q rs ra rb h q)
end
end DL
namespace DL
open PySem PySem.Spec PyProof.Rows L2
variable [TabsCtx]
def rTE (K : PySem.W.Frag) (neg : Bool) : R2 := fun x y H Q => ∃ a b xs ys, x = .ref a ∧ y = .ref b ∧ SqT K H a xs ∧ SqT K H b ys ∧ (xs = [] ∨ ys = []) ∧ Q (.bl (if neg then !(xs.length == ys.length) else (xs.length == ys.length))) H
section
variable {X : Cx}
theorem te_val {its its2 : List Value} (h : its = [] ∨ its2 = []) : ((List.range (min its.toArray.size its2.toArray.size)).all (fun _ => true) && its.toArray.size == its2.toArray.size) = (its.length == its2.length) := by
  rcases h with h | h <;> subst h <;> simp
theorem op_eqTE (hu : X.A.units < cLine) : OpR X (compareOp .Eq) (rTE X.K false) := by
  intro pins s σ H x y v u Q I rx ry h
  obtain ⟨a, b, xs, ys, rfl, rfl, ha, hb, he, q⟩ := h
  obtain rfl : v = Value.ref a := rx
  obtain rfl : u = Value.ref b := ry
  obtain ⟨its, r1, p1, _⟩ := I.tuple ha
  obtain ⟨its2, r2, p2, _⟩ := I.tuple hb
  have h0 : its = [] ∨ its2 = [] := he.imp (fun z => by subst z; exact List.eq_nil_of_length_eq_zero r1.length.symm) (fun z => by subst z; exact List.eq_nil_of_length_eq_zero r2.length.symm)
  refine SeqAt.RcAt.tuples (e := fun _ => true) p1 p2 hu (fun j h1 h2 => ?_) _ _ _ _ ?_
  · rcases h0 with z | z <;> subst z
    · simp at h1
    · simp at h2
  · rw [te_val h0, ← r1.length, ← r2.length]
    exact ⟨.bl _, H, I, rfl, q⟩
theorem op_neTE (hu : X.A.units < cLine) : OpR X (compareOp .NotEq) (rTE X.K true) := by
  intro pins s σ H x y v u Q I rx ry h
  obtain ⟨a, b, xs, ys, rfl, rfl, ha, hb, he, q⟩ := h
  obtain rfl : v = Value.ref a := rx
  obtain rfl : u = Value.ref b := ry
  obtain ⟨its, r1, p1, _⟩ := I.tuple ha
  obtain ⟨its2, r2, p2, _⟩ := I.tuple hb
  have h0 : its = [] ∨ its2 = [] := he.imp (fun z => by subst z; exact List.eq_nil_of_length_eq_zero r1.length.symm) (fun z => by subst z; exact List.eq_nil_of_length_eq_zero r2.length.symm)
  refine SeqAt.RcNeAt.tuples (e := fun _ => true) p1 p2 hu (fun j h1 h2 => ?_) _ _ _ _ ?_
  · rcases h0 with z | z <;> subst z
    · simp at h1
    · simp at h2
  · rw [te_val h0, ← r1.length, ← r2.length]
    exact ⟨.bl _, H, I, rfl, q⟩
def eqT (neg : Bool) (g : G2) : G2 := fun st a b => match a, b with
  | .tup xs, .tup ys => if xs.isEmpty || ys.isEmpty then some (.bl (if neg then !(xs.length == ys.length) else (xs.length == ys.length))) else g st a b
  | _, _ => g st a b
theorem eqT_aux {neg : Bool} {F : Value → Value → Sem Value} {g : G2} (o1 : DOp X F g) (o2 : OpR X F (rTE X.K neg)) : DOp X F (eqT neg g) := by
  obtain ⟨r0, c0, q0⟩ := o1
  refine ⟨_, c0.or o2, fun B x y H m st da db d Q rs ra rb h q => ?_⟩
  unfold eqT at h
  split at h
  · rename_i xs ys
    split at h
    · rename_i he
      cases h
      obtain ⟨a, vs, rfl, h1, l1⟩ := ra.tup_sq
      obtain ⟨b, ws, rfl, h2, l2⟩ := rb.tup_sq
      refine .inr ⟨a, b, vs, ws, rfl, rfl, h1, h2, ?_, ?_⟩
      · rw [Bool.or_eq_true] at he
        refine he.imp (fun z => ?_) (fun z => ?_)
        · have := l1.length
          rw [List.isEmpty_iff.mp z] at this
          exact List.eq_nil_of_length_eq_zero this.symm
        · have := l2.length
          rw [List.isEmpty_iff.mp z] at this
          exact List.eq_nil_of_length_eq_zero this.symm
      · rw [← l1.length, ← l2.length]
        exact q _ H Grow.refl (Rep.bl_iff.mpr rfl)
    · exact .inl (q0 B x y H m st _ _ d Q rs ra rb h q)
  · exact .inl (q0 B x y H m st _ _ d Q rs ra rb h q)
theorem dop_eqT (hu : X.A.units + 64 < cLine) : DOp X (compareOp .Eq) (eqT false gEq) := eqT_aux (dop_eq hu) (op_eqTE (by omega))
theorem dop_neT (hu : X.A.units + 64 < cLine) : DOp X (compareOp .NotEq) (eqT true gNe) := eqT_aux (dop_ne hu) (op_neTE (by omega))
end
end DL
namespace DL
open PySem PySem.Spec PyProof.Rows L2
section
variable {prog : Program} {w : World} {A : Around} {E : Value → Shared → Prop} {s : Shared}
theorem put_pairs {d : Addr} {kvs : List (Key × Value)} {k : Key} {key v : Value} {Q : Unit → Shared → Prop} (hkey : keyIs k key = true) (hm : s.heap.DictOf (mixKind prog w) d kvs) (hsz : kvs.length ≤ sizeLine)
    (hQ : ∀ h', h'.DictOf (mixKind prog w) d (stored kvs k v) → Heap.SameBut d s.heap h' → Q () { s with heap := h' }) : wpAny (model prog w) A (dictPut d (keyH w k) key v) Q E s := by
  obtain ⟨o, es, ep, ho, hc, hd, hk, hp, hn⟩ := hm
  have hes : es.size ≤ sizeLine := by
    have e1 := hp.length
    have e2 : es.toList.length = es.size := by simp
    omega
  unfold dictPut
  refine wpAny_bind (wpAny_dictFind_of (knd := mixKind prog w) hkey ho hd hk ?_)
  have hidx : (es.findIdx? fun e => keyIs k e.key) = kvs.findIdx? fun kv => decide (kv.1 = k) := by
    have z := hp.findIdx k
    rw [← z]
    obtain ⟨l⟩ := es
    simp
    rfl
  cases hi : es.findIdx? fun e => keyIs k e.key with
  | some i =>
    have hi2 : (es.findIdx? fun e => (mixKind prog w).is k e.key) = some i := hi
    rw [hi2]
    refine wpAny_updateDict ho hd (hQ _ ⟨_, _, ep, Heap.get?_update_self _ ho (Obj.isFreed_of_dict (Obj.data_mapDict hd _)), hc.mapDict _, Obj.data_mapDict hd _, hk.modify _ _, ?_, ?_⟩ (Heap.SameBut.update ..))
    · rw [stored, if_pos (any_of_findIdx_some (hidx ▸ hi))]
      have hl : (es.toList.findIdx? fun e => (mixKind prog w).is k e.key) = some i := by
        rw [← hi2]
        obtain ⟨l⟩ := es
        simp
      have z := hp.modify hn hl v
      obtain ⟨l⟩ := es
      simpa using z
    · rw [stored, if_pos (any_of_findIdx_some (hidx ▸ hi)), keys_map_store]
      exact hn
  | none =>
    have hi2 : (es.findIdx? fun e => (mixKind prog w).is k e.key) = none := hi
    rw [hi2]
    have no : k ∉ kvs.map (·.1) := not_mem_of_findIdx_none (hidx ▸ hi)
    have no2 : ¬ (kvs.any fun kv => decide (kv.1 = k)) = true := by
      rw [List.any_eq_true]
      rintro ⟨kv, hkv, he⟩
      exact no (List.mem_map.mpr ⟨kv, hkv, of_decide_eq_true he⟩)
    refine wpAny_updateDictKeys (hz := hes) ho hd (hQ _ ⟨_, _, ep + 1, Heap.get?_update_self _ ho (Obj.isFreed_of_dict (Obj.data_mapDictKeys hd _)), hc.mapDictKeys _, Obj.data_mapDictKeys hd _, hk.push hkey _, ?_, ?_⟩ (Heap.SameBut.update ..))
    · rw [stored, if_neg no2]
      have z := hp.append (knd := mixKind prog w) hkey (keyH w k) v
      obtain ⟨l⟩ := es
      simpa using z
    · rw [stored, if_neg no2, List.map_append, List.nodup_append]
      refine ⟨hn, by simp, fun a ha b hb => ?_⟩
      simp only [List.map_cons, List.map_nil, List.mem_singleton] at hb
      subst hb
      exact fun e => no (e ▸ ha)
theorem merge_dict {d a : Addr} {kvs more : List (Key × Value)} {Q : Unit → Shared → Prop} (hne : d ≠ a) (ha : (a == sysModules) = false) (hd : s.heap.DictOf (mixKind prog w) d kvs) (hm : s.heap.DictOf (mixKind prog w) a more) (hsz : kvs.length + more.length ≤ sizeLine)
    (hQ : ∀ h', h'.DictOf (mixKind prog w) d (merged kvs more) → Heap.SameBut d s.heap h' → Q () { s with heap := h' }) : wpAny (model prog w) A (mergeMapping d (.ref a) false) Q E s := by
  obtain ⟨od, esd, epd, hod, hcd, hdd, hkd, hpd, hnd⟩ := id hd
  obtain ⟨oo, eso, epo, hoo, hco, hdo, hko, hpo, hno⟩ := id hm
  have hlen : more.length = eso.size := by rw [← hpo.length]; simp
  unfold mergeMapping
  refine wpAny_bind (wpAny_isInstance hm.typeIs isSubtype_dict_dict ?_)
  dsimp only
  rw [if_pos rfl]
  refine wpAny_bind (wpAny_specialOf hm.typeIs PySem.F.slot_dict_iter.lookup ?_)
  simp only [beq_self_eq_true, pure_bind]
  rw [if_neg (by rw [ha]; exact Bool.false_ne_true)]
  refine wpAny_bind (wpAny_dictEntries hod hdd ?_)
  have loop : wpAny (model prog w) A (do
      let l ← dictEntries a
      let epoch ← dictEpoch a
      forIn (List.range l.size) PUnit.unit fun i (_ : PUnit) => (do
          let l' ← dictEntries a
          match l'[i]? with
            | some e => do
              holding [e.key, e.val] (dictPut d e.hash e.key e.val)
              let ep' ← dictEpoch a
              if (ep' != epoch) = true then do
                  (unsupported "dict.changed-during-merge" : Sem PUnit)
                  pure (ForInStep.yield PUnit.unit)
                else pure (ForInStep.yield PUnit.unit)
            | _ => do
              (unsupported "dict.changed-during-merge" : Sem PUnit)
              pure (ForInStep.yield PUnit.unit) : Sem (ForInStep PUnit))
      pure ()) Q E s := by
    refine wpAny_bind (wpAny_dictEntries hoo hdo (wpAny_bind (wpAny_dictEpoch hoo hdo (wpAny_bind ?_))))
    refine wpAny_forIn_list _ (fun rest _ u => ∃ h' i, u = { s with heap := h' } ∧ rest = List.range' i (eso.size - i) ∧ i ≤ eso.size ∧ h'.DictOf (mixKind prog w) d (merged kvs (more.take i)) ∧ h'.get? a = some oo ∧ Heap.SameBut d s.heap h') _ ?_ ?_ _ _
      ⟨s.heap, 0, rfl, by simp [List.range_eq_range'], Nat.zero_le _, by simpa [merged] using hd, hoo, Heap.SameBut.refl _ _⟩
    · rintro x rest b u ⟨h', i, rfl, hr, hi, hd1, ho1, hs1⟩
      have hlt : i < eso.size := by
        rcases Nat.lt_or_ge i eso.size with h | h
        · exact h
        · rw [Nat.sub_eq_zero_of_le h] at hr
          simp at hr
      obtain ⟨rfl, hrest⟩ : x = i ∧ rest = List.range' (i + 1) (eso.size - (i + 1)) := by
        rw [show eso.size - i = (eso.size - (i + 1)) + 1 by omega, List.range'_succ] at hr
        injection hr with h1 h2
        exact ⟨h1, h2⟩
      refine wpAny_bind (wpAny_dictEntries ho1 hdo ?_)
      rw [Array.getElem?_eq_getElem hlt]
      obtain ⟨⟨k, v⟩, hkv⟩ : ∃ kv, more[x]? = some kv := ⟨more[x]'(by rw [hlen]; exact hlt), List.getElem?_eq_getElem _⟩
      obtain ⟨hkey, hval⟩ := hpo.get? (e := eso[x]) (by simp [hlt]) hkv
      obtain ⟨k', hkey', hhash⟩ := hko eso[x] (Array.getElem_mem hlt)
      obtain rfl : k' = k := (mixKind prog w).inj _ _ _ hkey' hkey
      show wpAny _ _ (holding [eso[x].key, eso[x].val] (dictPut d eso[x].hash eso[x].key eso[x].val) >>= _) _ _ _
      rw [hhash, hval]
      have hmx : (merged kvs (more.take x)).length ≤ sizeLine := by
        have e1 := merged_length_le kvs (more.take x)
        have e2 : (more.take x).length ≤ more.length := by rw [List.length_take]; omega
        omega
      refine wpAny_bind (wpAny_holding (put_pairs hkey hd1 hmx fun h2 hd2 hs2 => ?_))
      have ho2 : h2.get? a = some oo := (hs2.2 a (Ne.symm hne)).trans ho1
      refine wpAny_bind (wpAny_dictEpoch ho2 hdo ?_)
      rw [if_neg (by simp)]
      exact wpAny_pure ⟨h2, x + 1, rfl, hrest, hlt, by rw [merged_take_succ kvs more x (k', v) hkv]; exact hd2, ho2, hs1.trans hs2⟩
    · rintro b u ⟨h', i, rfl, hr, hi, hd1, ho1, hs1⟩
      have hin : i = eso.size := by
        rcases Nat.lt_or_ge i eso.size with h | h
        · rw [show eso.size - i = (eso.size - (i + 1)) + 1 by omega, List.range'_succ] at hr
          exact nomatch hr
        · exact Nat.le_antisymm hi h
      refine wpAny_pure (hQ h' ?_ hs1)
      rw [hin, ← hlen, List.take_length] at hd1
      exact hd1
  split
  · refine wpAny_bind (wpAny_dictEntries hoo hdo (wpAny_bind ?_))
    rw [← Array.forIn_toList]
    refine wpAny_forIn_list _ (fun rest _ u => u = s ∧ ∀ e ∈ rest, e ∈ eso) _ ?_ ?_ _ _ ⟨rfl, fun e he => by simpa using he⟩
    · rintro e rest b u ⟨rfl, he⟩
      obtain ⟨k, hk, _⟩ := hko e (he e (by simp))
      have nr : ∀ p, e.key ≠ .ref p := fun p z => by
        rw [z] at hk
        rcases keyIs_shape hk with ⟨i, t, _, e2⟩ | ⟨x, t, _, e2⟩ <;> cases e2
      split
      · rename_i p hp
        exact absurd hp (nr p)
      · exact wpAny_pure ⟨rfl, fun e' h' => he e' (by simp [h'])⟩
    · rintro b u ⟨rfl, _⟩
      exact loop
  · exact loop
end
section
variable {X : Cx} {W : WX}
def tMg (i j : Nat) : TE := fun σ H Q => ∃ a b ks ls, σ[i]? = some (some (V.ref a)) ∧ Rd H a (.dK ks) ∧ σ[j]? = some (some (V.ref b)) ∧ Rd H b (.dK ls) ∧ ks.length + ls.length ≤ sizeLine ∧ ∀ p, H p = none → Q (.ref p) (upd H p (.dK (mergeK (mergeK [] ks) ls)))
theorem pe_mg {i j : Nat} {x y : Str} {p1 p2 pos : Pos} (h1 : PE X (.Name x p1) (tVar i)) (h2 : PE X (.Name y p2) (tVar j)) : PE X (.Dict [none, none] [.Name x p1, .Name y p2] pos) (tMg i j) := by
  refine ⟨fun pins s σ H Q I q => ?_⟩
  obtain ⟨a, b, ks, ls, e1, d1, e2, d2, hz, k⟩ := q
  have hn := I.hok.fresh (Nat.le_refl s.heap.objs.size)
  rw [eval]
  refine wpAny_bind (wpAny_standAt ?_)
  unfold dictDisplay
  simp only [evalEachOpt, evalEach, evalOpt, List.map_cons, List.map_nil, List.zip_cons_cons, List.zip_nil_left, List.forIn_cons, List.isEmpty_nil, if_true, pure_bind]
  have I1 := I.laid (a := s.heap.objs.size) (o := .dK []) (h' := s.heap.push { cls := .type "dict", data := .dict #[] }) (t' := s.toks) (fun _ _ q => Heap.get?_push_of_some _ q) (Nat.le_refl _) (dk_empty s.heap I.big)
  obtain ⟨p, hp⟩ : ∃ p, s.heap.objs.size = p := ⟨_, rfl⟩
  rw [hp] at hn I1
  have nn : ∀ {c : Addr} {u : HO}, Rd H c u → c ≠ p := fun {c u} z w => by
    rw [w] at z
    rcases z with q | ⟨o, q⟩ <;> rw [hn] at q <;> cases q
  have up : ∀ {c : Addr} {u w : HO}, c ≠ p → Rd H c u → Rd (upd H p w) c u := fun {c u w} n z => by
    rcases z with z | ⟨o, z⟩
    · exact .inl (by rw [upd_ne n]; exact z)
    · exact .inr ⟨o, by rw [upd_ne n]; exact z⟩
  have one : ∀ {c : Addr} {cur ms : List (Key × V)} {z : Expr} {l : Nat} {β : Type} {Q2 : β → Shared → Prop} {s1 : Shared} (kk : Sem β), PE X z (tVar l) → σ[l]? = some (some (V.ref c)) → Rd H c (.dK ms) → cur.length + ms.length ≤ sizeLine → Inv X pins σ (upd H p (.dK cur)) s1 →
      (∀ s2, Inv X pins σ (upd H p (.dK (mergeK cur ms))) s2 → wpAny (model X.prog X.w) X.A kk Q2 X.xe s2) → ∀ (R : Value → Sem Unit) (T U : Value → Value → Sem Unit),
      wpAny (model X.prog X.w) X.A (do
        let m ← holding [Value.ref p] (do
          let x ← eval z X.env
          standAt pos
          pure x)
        (((holding [Value.ref p, m] (mergeMapping p m false)).onRaise (T m)).tryCatch (U m)).onRaise R
        kk) Q2 X.xe s1 := fun {c cur ms z l β Q2 s1} kk pe es dc zc J fin R T U => by
    have nc := nn dc
    refine wpAny_bind (wpAny_holding (wpAny_bind (thn (pe.run pins s1 σ _ (fun v H' => v = V.ref c ∧ H' = upd H p (.dK cur)) J ⟨V.ref c, es, rfl, rfl⟩) fun u s2 ⟨v, H2, I2, rv, ev, eH⟩ => wpAny_bind (wpAny_standAt (wpAny_pure ?_)))))
    subst ev eH
    obtain rfl : u = Value.ref c := rv
    obtain ⟨zl, hd, vs, rel, dd⟩ := dk_of I2.hok (show upd H p (.dK cur) p = some (.dK cur) from upd_same)
    obtain ⟨_, hc, ws, rel2, dd2⟩ := dk_rd I2.hok (up nc dc)
    refine wpAny_bind (wpAny_onRaise (wpAny_tryCatch (wpAny_onRaise (wpAny_holding (merge_dict (Ne.symm nc) hc dd dd2 (by rw [← rel.length, ← rel2.length]; exact zc) fun h' dd' hs => fin _ ?_)))))
    have hz2 : (mergeK cur ms).length ≤ sizeLine := Nat.le_trans (length_mergeK ms cur) zc
    have he : ∃ q, h'.get? p = some q := let ⟨q, _, _, hq, _⟩ := dd'; ⟨q, hq⟩
    have J2 := d_write (t' := s2.toks) I2 (show Mut (upd H p (.dK cur) p) by rw [upd_same]; exact True.intro) hs he (dk_new hz2 hd (rel2.merge rel) dd')
    rw [upd_upd] at J2
    exact J2
  refine wpAny_bind (wpAny_bind (wpAny_bind (wpAny_alloc ?_)))
  rw [hp]
  refine one _ h1 e1 d1 (by rw [List.length_nil]; omega) I1 (fun s2 I2 => wpAny_pure ?_) _ _ _
  dsimp only
  refine wpAny_bind (wpAny_bind (wpAny_pure ?_))
  dsimp only
  have zz : (mergeK [] ks).length + ls.length ≤ sizeLine := by
    have := length_mergeK ks []
    rw [List.length_nil] at this
    omega
  refine one _ h2 e2 d2 zz I2 (fun s3 I3 => wpAny_pure ?_) _ _ _
  dsimp only
  rw [List.forIn_nil]
  refine wpAny_pure (wpAny_bind (wpAny_pure ?_))
  exact wpAny_pure ⟨.ref p, _, I3, rfl, k p hn⟩
end
variable [TabsCtx]
section
variable {X : Cx} {W : WX}
theorem dicV_len {K : KB} {H : Hp} {m : List Addr} {kvs : KD} {vs : List (Key × V)} (h : RepP K H m kvs vs) : kvs.length = vs.length := h.length
/-- {**x, **y} -/
def xMg (i j : Nat) : Fe := fun ρ st => match ρ[i]?, ρ[j]? with
  | some (some d), some (some e) => match dicV st d, dicV st e with
    | some ks, some ls => if ks.length + ls.length ≤ 1000 then .ok (dctOf (mergeD (mergeD [] ks) ls)) st else .fail
    | _, _ => .fail
  | _, _ => .fail
theorem de_mg (i j : Nat) {x y : Str} {p1 p2 pos : Pos} (hN : X.N[i]? = some x := by rfl) (hv : Vis X.env.scope x := by first | exact Or.inl rfl | exact Or.inr (Or.inl rfl) | exact Or.inr (Or.inr rfl)) (hN2 : X.N[j]? = some y := by rfl)
    (hv2 : Vis X.env.scope y := by first | exact Or.inl rfl | exact Or.inr (Or.inl rfl) | exact Or.inr (Or.inr rfl)) (hd : (x == ("__debug__" : Str)) = false := by decide) (hcd : (x == ("__classdict__" : Str)) = false := by decide) (hd2 : (y == ("__debug__" : Str)) = false := by decide)
    (hcd2 : (y == ("__classdict__" : Str)) = false := by decide) : DE X W (.Dict [none, none] [.Name x p1, .Name y p2] pos) (xMg i j) := by
  refine ⟨_, pe_lk (pe_mg (pv i hN hv hd hcd) (pv j hN2 hv2 hd2 hcd2)), fun B σ H ρ st m Q re rs h => ?_⟩
  unfold xMg at h
  split at h
  · rename_i d e hi hj
    split at h
    · rename_i ks ls hk hl
      split at h
      · rename_i hz
        obtain ⟨v, v1, v2⟩ := re.val i d hi
        obtain ⟨w, w1, w2⟩ := re.val j e hj
        obtain ⟨a, vs, rfl, r1, q1⟩ := dicV_rep rs v2 hk
        obtain ⟨b, ws, rfl, r2, q2⟩ := dicV_rep rs w2 hl
        refine ⟨a, b, vs, ws, v1, r1, w1, r2, small_line (by rw [← q1.length, ← q2.length]; exact hz), fun p hp => ⟨p, _, rfl, upd_same, fun o => ?_⟩⟩
        rw [upd_upd]
        have hP := RepP.merge (RepP.merge (kvs := []) (vs := []) rfl q1) q2
        exact h (.ref p) _ m (Grow.upd hp).evo (Rep.newDK rs hp hP) (rs.grow (Grow.upd hp))
      · exact h.elim
    · exact h.elim
  · exact h.elim
end
end DL
namespace DL
open PySem PySem.Spec PyProof.Rows L2
variable [TabsCtx]
def gStrI : GL := fun _ ds => match ds with
  | [.int i] => if i.natAbs.log2 < 1920 then some (.str (PySem.Str.ofString (toString i))) else none
  | _ => none
section
variable {X : Cx}
def rStrI : List V → Hp → VK → Prop := fun xs H Q => ∃ i : Int, xs = [.int i] ∧ i.natAbs.log2 < 1920 ∧ Q (.str (PySem.Str.ofString (toString i))) H
theorem call_strI : CallR X (.type "str") rStrI := by
  intro pins s σ H xs us Q I r h
  obtain ⟨i, rfl, h1, q⟩ := h
  obtain ⟨u, rfl, ru⟩ := vals1 r
  obtain ⟨t, rfl⟩ := ru
  refine PySem.P.str_of_int h1 ?_
  exact ⟨.str _, H, I.tok _, ⟨_, rfl⟩, q⟩
theorem dc_strI : DCall X (.type "str") gStrI := ⟨_, call_strI, fun B xs H m st ds d Q rs r h q => by
  unfold gStrI at h
  split at h
  · split at h
    · rename_i hs
      cases h
      obtain ⟨v, rfl, r1⟩ := one_inv r
      cases Rep.int_iff.mp r1
      exact ⟨_, rfl, hs, q _ H Grow.refl (Rep.str_iff.mpr rfl)⟩
    · cases h
  · cases h⟩
end
end DL
namespace DL
open PySem PySem.Spec PyProof.Rows L2
variable [TabsCtx]
def strN (x : Str) (k : Nat) : Str := ⟨(List.replicate k x.cps).foldl (· ++ ·) #[]⟩
def gMulX : G2 := fun st a b => match a, b with
  | .str x, .int k => if 2 ≤ k ∧ x.length ≠ 0 ∧ x.length * k.toNat ≤ 1000 ∧ (strN x k.toNat).length ≤ 1000 then some (.str (strN x k.toNat)) else none
  | a, b => gMulT st a b
section
variable {X : Cx}
def rMulX : R2 := fun x y H Q => ∃ (m : Str) (k : Int), x = .str m ∧ y = .int k ∧ 2 ≤ k ∧ m.length ≠ 0 ∧ m.length * k.toNat ≤ 1000 ∧ (strN m k.toNat).length ≤ 1000 ∧ Q (.str (strN m k.toNat)) H
theorem op_mulX : OpR X (binaryOp .Mult) rMulX := by
  intro pins s σ H x y v u Q I rx ry h
  obtain ⟨m, k, rfl, rfl, h2, h0, hl, hf, q⟩ := h
  obtain ⟨t, rfl⟩ := rx
  obtain ⟨t', rfl⟩ := ry
  have hk : (k.toNat : Int) = k := Int.toNat_of_nonneg (by omega)
  have hkl : k ≤ 1000 := by
    have := Nat.le_trans (Nat.le_mul_of_pos_left k.toNat (Nat.pos_of_ne_zero h0)) hl
    omega
  have n1 : ¬ k < 1 := by omega
  have e1 : (k == 1 || m.length == 0) = false := by
    rw [Bool.or_eq_false_iff]
    exact ⟨by simp; omega, by simpa using h0⟩
  refine PySem.P.mul_str ?_ (fun _ _ => ?_) (fun _ _ => ?_) ?_
  · rw [decide_eq_false (by omega), decide_eq_false (by omega)]; rfl
  · have hm : m.length ≤ 1000 := Nat.le_trans (Nat.le_mul_of_pos_right _ (by omega)) hl
    have : (1000 : Int) ≤ (2 ^ 63 - 1) / k := by
      rw [Int.le_ediv_iff_mul_le (by omega)]
      omega
    omega
  · exact decide_eq_false (Nat.not_lt.mpr (Nat.le_trans hl (by decide)))
  · rw [if_neg n1, if_neg (by rw [e1]; simp)]
    exact ⟨Nat.le_trans hf (by decide), .str _, H, I.tok _, ⟨_, rfl⟩, q⟩
theorem dop_mulX : DOp X (binaryOp .Mult) gMulX := by
  obtain ⟨r0, h0, q0⟩ := dop_mulT (X := X)
  refine ⟨_, op_mulX.or h0, fun B x y H m st da db d Q rs ra rb h q => ?_⟩
  have other : gMulT st da db = some d → (r0 x y H Q) := fun h => q0 B x y H m st da db d Q rs ra rb h q
  unfold gMulX at h
  split at h
  · split at h
    · rename_i hh
      cases h
      cases Rep.str_iff.mp ra
      cases Rep.int_iff.mp rb
      exact .inl ⟨_, _, rfl, rfl, hh.1, hh.2.1, hh.2.2.1, hh.2.2.2, q _ H Grow.refl (Rep.str_iff.mpr rfl)⟩
    · cases h
  · exact .inr (other h)
end
end DL
namespace DL
open PySem PySem.Spec PyProof.Rows L2
def isMk (r : Res D) (d : D) : Bool := match r with
  | .ok e [] => D.beq e d
  | _ => false
def okS (x : Option Str) (y : Str) : Bool := x == some y && PyData.strOk y
def cS (d : D) : Str := match toPy d with
  | some p => "count " ++ p.shown
  | none => ""
/-- the first wrong one's word -/
def fstS : List (Str × Bool) → Str
  | [] => "none"
  | (x, b) :: r => if b = true then x else fstS r
variable [TabsCtx]
theorem okS_of {x : Option Str} {y : Str} (h : okS x y = true) : x = some y ∧ PyData.strOk y = true := by
  unfold okS at h
  rw [Bool.and_eq_true] at h
  exact ⟨by simpa using h.1, h.2⟩
theorem at1 {α : Type} {A : List α} {c : α → Bool} (h : (A.all fun p => c p) = true) {p : α} (hp : p ∈ A) : c p = true := List.all_eq_true.mp h p hp
theorem count_ok {A : List (D × Bool)} (hc : (A.all fun p => (match toPyT [] p.1 with | some q => showD q && decide (q.shown.length ≤ 1000) | none => false)) = true) {p : D × Bool} (hp : p ∈ A) : ∃ w : Str, (∀ s, gRepr s [p.1] = some (.str w)) ∧ ∀ s, gAdd s (.str "count ") (.str w) = some (.str (cS p.1)) := by
  have h := at1 hc hp
  cases e : toPyT [] p.1 with
  | none => rw [e] at h; cases h
  | some q =>
    rw [e] at h
    simp only [Bool.and_eq_true, decide_eq_true_eq] at h
    have e2 : toPy p.1 = some q := by
      cases hd : p.1 with
      | loc l => rw [hd] at e; simp [toPyT] at e
      | _ => rw [hd] at e; exact e
    refine ⟨q.shown, fun s => ?_, fun s => ?_⟩
    · show ((toPyT s p.1).bind fun p => if showD p = true then some (D.str p.shown) else none) = _
      rw [toPyT_up e s, Option.bind_some, if_pos h.1]
    · unfold cS
      rw [e2]
      show (if ("count " : Str).length + q.shown.length ≤ sizeLine then some (D.str ("count " ++ q.shown)) else none) = _
      have hl : ("count " : Str).length = 6 := by decide +kernel
      rw [if_pos (by rw [hl, sizeLine_eq]; have := h.2; omega)]
theorem pow_n (j : Nat) (h : ((Builtin.Int.intBits 10 : Int) * (j : Nat) ≤ 2 ^ 27)) (s : Store) : gPow s (.int 10) (.int (j : Nat)) = some (.int (10 ^ j)) := pow_ev (i := 10) (j := j) _ h
theorem isMk_of {r : Res D} {d : D} (h : isMk r d = true) : r = .ok d [] := by
  unfold isMk at h
  split at h
  · rw [D.beq_eq _ _ h]
  · cases h
theorem mk_of {c : Str} {F : Fd} {fa : Fa} {ρ : DEnv} {st : Store} {ds : List D} {d : D} (h : isMk (pure0 (mkR c F ds)) d = true) (ha : fa ρ st = .ok ds st) (hu : D.undL 0 ds = true) : xMkZ c F fa ρ st = .ok d st := ev_mkZ ha hu (isMk_of h)
def andR (d : D) (r : Res D) (s : Store) : Res D := match d with
  | .bl true => r
  | .bl false => .ok (.bl false) s
  | _ => .fail
theorem ev_and (f g : Fe) (ρ : DEnv) (st : Store) : xAndF f g ρ st = (f ρ st).bind fun d s1 => andR d (g ρ s1) s1 := rfl
theorem andR_ok (b c : Bool) (s s' : Store) : andR (.bl b) (.ok (.bl c) s') s = .ok (.bl (b && c)) (bif b then s' else s) := by cases b <;> rfl
theorem cond_s (b : Bool) (s : Store) : (bif b then s else s) = s := by cases b <;> rfl
theorem andR_bl (b : Bool) (r : Res D) (s : Store) : andR (.bl b) r s = if b = true then r else .ok (.bl b) s := by cases b <;> rfl
def iXR (d : D) (ρ : DEnv) (s : Store) : Res (List D × List Nat) := iOfX (xC d) ρ s
theorem ev_iOfX (f : Fe) (ρ : DEnv) (s : Store) : iOfX f ρ s = (f ρ s).bind fun d s1 => iXR d ρ s1 := by
  unfold iXR iOfX
  cases f ρ s <;> rfl
theorem iXR_tup (ds : List D) (ρ : DEnv) (s : Store) : iXR (.tup ds) ρ s = .ok (ds, []) s := rfl
theorem and_ok (b c : Bool) (s : Store) : (if b = true then Res.ok (D.bl c) s else Res.ok (D.bl b) s) = Res.ok (D.bl (b && c)) s := by cases b <;> rfl
theorem and_okS (b c : Bool) (s s' : Store) : (if b = true then Res.ok (D.bl c) s' else Res.ok (D.bl b) s) = Res.ok (D.bl (b && c)) (bif b then s' else s) := by cases b <;> rfl
theorem ite_ok (b : Bool) (x y : D) (s : Store) : (if b = true then Res.ok x s else Res.ok y s) = Res.ok (bif b then x else y) s := by cases b <;> rfl
theorem ite_okS (b : Bool) (x y : D) (s s' : Store) : (if b = true then Res.ok x s' else Res.ok y s) = Res.ok (bif b then x else y) (bif b then s' else s) := by cases b <;> rfl
theorem sc_if (b : Bool) (st : Store) (l : Nat) (t t' : Tri) (cs : List (List Str)) : (bif b then SC st l t cs else SC st l t' cs) = SC st l (bif b then t else t') cs := by cases b <;> rfl
theorem gd_if {b : Bool} {n : Nat} {t t' : Tri} (h : Gd n t) (h' : Gd n t') : Gd n (bif b then t else t') := by cases b <;> assumption
theorem add1 (a b c : D) (s : Store) : gAdd s (.lst [a, b]) (.lst [c]) = some (.lst [a, b, c]) := by
  show (if 2 + 1 ≤ sizeLine then some (D.lst [a, b, c]) else none) = _
  rw [if_pos (by decide)]
theorem add2 (a b c d : D) (s : Store) : gAdd s (.lst [a, b]) (.lst [c, d]) = some (.lst [a, b, c, d]) := by
  show (if 2 + 2 ≤ sizeLine then some (D.lst [a, b, c, d]) else none) = _
  rw [if_pos (by decide)]
theorem add3 (a b c d e : D) (s : Store) : gAdd s (.lst [a, b]) (.lst [c, d, e]) = some (.lst [a, b, c, d, e]) := by
  show (if 2 + 3 ≤ sizeLine then some (D.lst [a, b, c, d, e]) else none) = _
  rw [if_pos (by decide)]
/-- what a met maker's end is told as -/
theorem metR_mk {known : List Str} {isA : Str → Str → Bool} {cl : MCs} {fin t : Str} {r : Res D} (h : tell known isA cl fin (pure0 r) = some t) (s : Store) : metR known isA cl fin (zeroR r s) = .ok (.str t) s := by
  unfold metR zeroR
  cases hr : pure0 r with
  | ok d s' => rw [hr] at h; simp only [tell] at h; cases h; rfl
  | fail => rw [hr] at h; cases h
  | exc c fs s' =>
    rw [hr] at h
    simp only [tell] at h
    cases c with
    | str c k =>
      simp only at h ⊢
      split at h
      · rename_i hk
        rw [if_pos hk]
        cases hm : metH isA cl c fs [] with
        | ok d s2 =>
          rw [hm] at h
          cases d with
          | str u => cases h; have := metH_nil hm; subst this; exact metH_up hm s
          | _ => cases h
        | _ => rw [hm] at h; cases h
      · cases h
    | _ => cases h
theorem ev_met_mk {known : List Str} {isA : Str → Str → Bool} {cl : MCs} {fin t c : Str} {F : Fd} {fa : Fa} {ρ : DEnv} {st s1 : Store} {ds : List D} (ha : fa ρ st = .ok ds s1) (hu : D.undL 0 ds = true) (h : tell known isA cl fin (pure0 (mkR c F ds)) = some t) : xMet known isA cl fin (xMkZ c F fa) ρ st = .ok (.str t) s1 := by
  rw [ev_met]
  unfold xMkZ
  rw [ha, Res.bind_ok, if_pos hu]
  exact metR_mk h s1
end DL
namespace DL
open PySem PySem.Spec PyProof.Rows L2
variable [TabsCtx]
def keyPy : Key → PyData
  | .inl i => .int i
  | .inr x => .str x
mutual
def toPyX : D → Option PyData
  | .non => some .none
  | .bl b => some (.bool b)
  | .int i => some (.int i)
  | .str x => some (.str x)
  | .tup ds => (toPyXL ds).map .tuple
  | .lst ds => (toPyXL ds).map .list
  | .dct ks ds => (toPyXL ds).map fun ps => .dict ((ks.map keyPy).zip ps)
  | _ => none
def toPyXL : List D → Option (List PyData)
  | [] => some []
  | d :: ds => (toPyX d).bind fun p => (toPyXL ds).map fun ps => p :: ps
end
def toPyXT (st : Store) (d : D) : Option PyData := match d with
  | .loc l => match st[l]? with
    | some (.lst ds) => (toPyXL ds).map .list
    | _ => none
  | d => toPyX d
mutual
inductive DpX (K : PySem.W.Frag) (H : Hp) : V → PyData → Prop
  | non : DpX K H .non .none
  | bl (b : Bool) : DpX K H (.bl b) (.bool b)
  | int (i : Int) : DpX K H (.int i) (.int i)
  | str (x : Str) : DpX K H (.str x) (.str x)
  | lst {a : Addr} {xs : List V} {ds : List PyData} : Rd H a (.lst xs) → DpXL K H xs ds → DpX K H (.ref a) (.list ds)
  | tup {a : Addr} {xs : List V} {ds : List PyData} : SqT K H a xs → DpXL K H xs ds → DpX K H (.ref a) (.tuple ds)
  | dct {a : Addr} {ks : List Key} {xs : List V} {ds : List PyData} : Rd H a (.dK (ks.zip xs)) → ks.length = xs.length → DpXL K H xs ds → DpX K H (.ref a) (.dict ((ks.map keyPy).zip ds))
inductive DpXL (K : PySem.W.Frag) (H : Hp) : List V → List PyData → Prop
  | nil : DpXL K H [] []
  | cons {v : V} {vs : List V} {d : PyData} {ds : List PyData} : DpX K H v d → DpXL K H vs ds → DpXL K H (v :: vs) (d :: ds)
end
theorem DpXL.length {K : PySem.W.Frag} {H : Hp} : ∀ {vs : List V} {ds : List PyData}, DpXL K H vs ds → vs.length = ds.length
  | _, _, .nil => rfl
  | _, _, .cons _ h => by simp [DpXL.length h]
section
variable {K : PySem.W.Frag} {B : List Addr} {H : Hp} {m : List Addr}
mutual
theorem toPyX_dp : ∀ {d : D} {v : V} {p : PyData}, Rep ⟨K, B⟩ H m d v → toPyX d = some p → DpX K H v p
  | .non, _, _, r, h => by cases Rep.non_iff.mp r; cases h; exact .non
  | .bl b, _, _, r, h => by cases Rep.bl_iff.mp r; cases h; exact .bl b
  | .int b, _, _, r, h => by cases Rep.int_iff.mp r; cases h; exact .int b
  | .str b, _, _, r, h => by cases Rep.str_iff.mp r; cases h; exact .str b
  | .tup ds, _, _, r, h => by
    unfold toPyX at h
    obtain ⟨ps, h1, rfl⟩ := Option.map_eq_some_iff.mp h
    obtain ⟨a, vs, rfl, hs, rl⟩ := r.tup_sq
    exact .tup hs (toPyXL_dp rl h1)
  | .lst ds, _, _, r, h => by
    unfold toPyX at h
    obtain ⟨ps, h1, rfl⟩ := Option.map_eq_some_iff.mp h
    obtain ⟨a, vs, rfl, hs, rl⟩ := Rep.lst_iff.mp r
    exact .lst (.inl hs.1) (toPyXL_dp rl h1)
  | .dct ks ds, _, _, r, h => by
    unfold toPyX at h
    obtain ⟨ps, h1, rfl⟩ := Option.map_eq_some_iff.mp h
    obtain ⟨a, vs, rfl, hs, hl, rl⟩ := Rep.dct_iff.mp r
    exact .dct (.inr hs) (hl.trans rl.length) (toPyXL_dp rl h1)
  | .ty _, _, _, _, h => by simp [toPyX] at h
  | .ob _, _, _, _, h => by simp [toPyX] at h
  | .rol _, _, _, _, h => by simp [toPyX] at h
  | .loc _, _, _, _, h => by simp [toPyX] at h
  | .fn _, _, _, _, h => by simp [toPyX] at h
  | .obj _ _, _, _, _, h => by simp [toPyX] at h
  | .exo _ _ _, _, _, _, h => by simp [toPyX] at h
theorem toPyXL_dp : ∀ {ds : List D} {vs : List V} {ps : List PyData}, RepL ⟨K, B⟩ H m ds vs → toPyXL ds = some ps → DpXL K H vs ps
  | [], _, _, r, h => by cases h; rw [r.inv_nil]; exact .nil
  | d :: ds, _, _, r, h => by
    unfold toPyXL at h
    obtain ⟨p, h1, h⟩ := Option.bind_eq_some_iff.mp h
    obtain ⟨ps, h2, rfl⟩ := Option.map_eq_some_iff.mp h
    obtain ⟨v, vr, rfl, r1, r2⟩ := r.inv_cons
    exact .cons (toPyX_dp r1 h1) (toPyXL_dp r2 h2)
end
theorem toPyXT_dp {st : Store} (rs : RepSt ⟨K, B⟩ H m st) {d : D} {v : V} {p : PyData} (r : Rep ⟨K, B⟩ H m d v) (h : toPyXT st d = some p) : DpX K H v p := by
  cases d with
  | loc l =>
    simp only [toPyXT] at h
    cases hq : st[l]? with
    | none => rw [hq] at h; cases h
    | some c =>
      rw [hq] at h
      cases c with
      | lst ds =>
        obtain ⟨ps, h1, rfl⟩ := Option.map_eq_some_iff.mp h
        obtain ⟨a, rfl, hm⟩ := Rep.loc_iff.mp r
        obtain ⟨b, hb, vs, q1, q2⟩ := rs.cell l _ hq
        rw [hm] at hb; cases hb
        exact .lst (.inl q1) (toPyXL_dp q2 h1)
      | _ => cases h
  | _ => exact toPyX_dp r h
end
section
variable {X : Cx} {pins : List (Addr × Obj)} {σ : Sg} {H : Hp} {s : Shared}
/-- what is tracked does not stand in the base -/
theorem off_base (I : Inv X pins σ H s) (hK : (X.K.lookup sysModules).isSome = true) {a : Addr} {u : HO} (h : H a = some u) : a ≠ sysModules := fun e => by
  obtain ⟨o, ho⟩ := Option.isSome_iff_exists.mp hK
  have := (I.bs _ o (I.mod.kin _ _ ho)).2
  rw [← e, h] at this
  cases this
theorem rd_off (I : Inv X pins σ H s) (hK : (X.K.lookup sysModules).isSome = true) {a : Addr} {u : HO} (h : Rd H a u) : a ≠ sysModules := by
  rcases h with h | ⟨o, h⟩
  · exact off_base I hK h
  · exact off_base I hK h
theorem reads_keys {h : Heap} {P : Program} {w : World} : ∀ {ks : List Key} {xs : List V} {vs : List (Key × Value)} {es : List DictEntry}, ks.length = xs.length → KV (ks.zip xs) vs → PySem.Pairs (mixKind P w) es vs → ReadsAll h (es.map (·.key)) (ks.map keyPy) []
  | [], [], _, _, _, .nil, .nil => .nil
  | k :: ks, x :: xs, kv :: _, e :: _, hl, .cons r t, .cons hk _ hp => by
    have ih := reads_keys (h := h) (by simpa using hl) t hp
    obtain ⟨e1, _⟩ := r
    rw [← e1] at hk
    have hk1 : keyIs k e.key = true := hk
    have one : Reads h e.key (keyPy k) [] := by
      rcases keyIs_shape hk1 with ⟨i, t, rfl, q⟩ | ⟨x, t, rfl, q⟩
      · rw [q]; exact .int i t
      · rw [q]; exact .str x t
    exact ReadsAll.cons one ih
  | [], _ :: _, _, _, hl, _, _ => by simp at hl
  | _ :: _, [], _, _, hl, _, _ => by simp at hl
theorem vals_of {P : Program} {w : World} : ∀ {ks : List Key} {xs : List V} {vs : List (Key × Value)} {es : List DictEntry}, ks.length = xs.length → KV (ks.zip xs) vs → PySem.Pairs (mixKind P w) es vs → Vals xs (es.map (·.val))
  | [], [], _, _, _, .nil, .nil => .nil
  | k :: ks, x :: xs, _, _, hl, .cons r t, .cons _ hv hp => .cons (by show L2.RelV x (DictEntry.val _); rw [hv]; exact r.2) (vals_of (by simpa using hl) t hp)
  | [], _ :: _, _, _, hl, _, _ => by simp at hl
  | _ :: _, [], _, _, hl, _, _ => by simp at hl
theorem zip_fst : ∀ {ks : List Key} {ds : List PyData}, ks.length = ds.length → ((ks.map keyPy).zip ds).map (·.1) = ks.map keyPy
  | [], [], _ => rfl
  | k :: ks, d :: ds, h => by simp [zip_fst (ks := ks) (ds := ds) (by simpa using h)]
  | [], _ :: _, h => by simp at h
  | _ :: _, [], h => by simp at h
theorem zip_snd : ∀ {ks : List Key} {ds : List PyData}, ks.length = ds.length → ((ks.map keyPy).zip ds).map (·.2) = ds
  | [], [], _ => rfl
  | k :: ks, d :: ds, h => by simp [zip_snd (ks := ks) (ds := ds) (by simpa using h)]
  | [], _ :: _, h => by simp at h
  | _ :: _, [], h => by simp at h
mutual
theorem DpX.reads (I : Inv X pins σ H s) (hK : (X.K.lookup sysModules).isSome = true) : ∀ {v : V} {d : PyData} {u : Value}, DpX X.K H v d → RelV v u → ∃ as, Reads s.heap u d as ∧ sysModules ∉ as
  | _, _, _, .non, r => by cases r; exact ⟨_, .none, by simp⟩
  | _, _, _, .bl b, r => by cases r; exact ⟨_, .bool b, by simp⟩
  | _, _, _, .int i, r => by obtain ⟨t, rfl⟩ := r; exact ⟨_, .int i t, by simp⟩
  | _, _, _, .str x, r => by obtain ⟨t, rfl⟩ := r; exact ⟨_, .str x t, by simp⟩
  | _, _, _, .lst hs ha, r => by
    cases r
    obtain ⟨its, rv, ⟨o, n, ho, hc, _, hd⟩, _⟩ := I.list (.inl hs)
    obtain ⟨as, hr, hn⟩ := DpXL.reads I hK ha rv
    exact ⟨_, Reads.list ho hc hd hr, by
      simp only [List.mem_cons, not_or]
      exact ⟨Ne.symm (rd_off I hK hs), hn⟩⟩
  | _, _, _, .tup hs ha, r => by
    cases r
    obtain ⟨its, rv, ⟨o, ho, hc, n, hd⟩, _⟩ := I.tuple hs
    obtain ⟨as, hr, hn⟩ := DpXL.reads I hK ha rv
    exact ⟨_, Reads.tuple ho hc hd hr, hn⟩
  | _, _, _, .dct hs hl ha, r => by
    cases r
    obtain ⟨z, hsm, vs, rel, o, es, ep, ho, hx, hd, hkeys, hp, nd⟩ := dk_rd I.hok hs
    have hl2 := hl.trans ha.length
    obtain ⟨as, hr, hn⟩ := DpXL.reads I hK ha (vals_of hl rel hp)
    refine ⟨_, Reads.dict ho hx.1 hd (as := []) (bs := as) ?_ ?_, ?_⟩
    · rw [zip_fst hl2]; exact reads_keys hl rel hp
    · rw [zip_snd hl2]; exact hr
    · simp only [List.append_nil, List.cons_append, List.nil_append, List.mem_cons, not_or]
      exact ⟨Ne.symm (rd_off I hK hs), hn⟩
theorem DpXL.reads (I : Inv X pins σ H s) (hK : (X.K.lookup sysModules).isSome = true) : ∀ {vs : List V} {ds : List PyData} {us : List Value}, DpXL X.K H vs ds → Vals vs us → ∃ as, ReadsAll s.heap us ds as ∧ sysModules ∉ as
  | _, _, _, .nil, r => by cases r; exact ⟨_, .nil, by simp⟩
  | _, _, _, .cons h1 h2, .cons r1 r2 => by
    obtain ⟨as, q1, n1⟩ := DpX.reads I hK h1 r1
    obtain ⟨bs, q2, n2⟩ := DpXL.reads I hK h2 r2
    exact ⟨_, .cons q1 q2, by simp only [List.mem_append, not_or]; exact ⟨n1, n2⟩⟩
end
end
def showX (p : PyData) : Bool := p.showable && decide (p.shown.length ≤ sizeLine) && decide (p.depth < 60)
def gReprX : GL := fun st ds => match ds with
  | [d] => (toPyXT st d).bind fun p => if showX p = true then some (.str p.shown) else none
  | _ => none
section
variable {X : Cx}
def rReprX (K : PySem.W.Frag) : List V → Hp → VK → Prop := fun xs H Q => ∃ v p, xs = [v] ∧ DpX K H v p ∧ showX p = true ∧ Q (.str p.shown) H
theorem call_reprX (hK : (X.K.lookup sysModules).isSome = true) (hg : X.A.guards = some []) (hu : X.A.units + 64 < cLine) : CallR X (.builtin "repr") (rReprX X.K) := by
  intro pins s σ H xs us Q I r h
  obtain ⟨v, p, rfl, hd, hs, q⟩ := h
  unfold showX at hs
  simp only [Bool.and_eq_true, decide_eq_true_eq] at hs
  obtain ⟨⟨h1, h2⟩, h4⟩ := hs
  obtain ⟨u, rfl, ru⟩ := vals1 r
  obtain ⟨as, rd, hn⟩ := DpX.reads I hK hd ru
  cases p with
  | none =>
    cases rd
    exact PySem.P.repr_of_none ⟨.str _, H, I.tok _, ⟨_, rfl⟩, q⟩
  | bool b =>
    cases rd
    exact PySem.P.repr_of_bool ⟨.str _, H, I.tok _, ⟨_, rfl⟩, by cases b <;> exact q⟩
  | int i =>
    cases rd
    exact PySem.P.repr_of_int (of_decide_eq_true h1) ⟨.str _, H, I.tok _, ⟨_, rfl⟩, q⟩
  | str x =>
    cases rd
    exact PySem.P.repr_of_str ⟨.str _, H, I.tok _, ⟨_, rfl⟩, q⟩ h2
  | list xs =>
    cases rd with
    | list e1 e2 e3 e4 => exact repr_of_reads' (.list e1 e2 e3 e4) h1 (fun _ => hn) hg (by omega) (fun _ _ e => e) (fun h' t tk hk => ⟨.str _, H, I.kept (t' := tk) hk, ⟨_, rfl⟩, q⟩) h2
  | tuple xs =>
    cases rd with
    | tuple e1 e2 e3 e4 => exact repr_of_reads' (.tuple e1 e2 e3 e4) h1 (fun _ => hn) hg (by omega) (fun _ _ e => e) (fun h' t tk hk => ⟨.str _, H, I.kept (t' := tk) hk, ⟨_, rfl⟩, q⟩) h2
  | dict kvs =>
    cases rd with
    | dict e1 e2 e3 e4 e5 => exact repr_of_reads' (.dict e1 e2 e3 e4 e5) h1 (fun _ => hn) hg (by omega) (fun _ _ e => e) (fun h' t tk hk => ⟨.str _, H, I.kept (t' := tk) hk, ⟨_, rfl⟩, q⟩) h2
theorem dc_reprX (hK : (X.K.lookup sysModules).isSome = true) (hg : X.A.guards = some []) (hu : X.A.units + 64 < cLine) : DCall X (.builtin "repr") gReprX := ⟨_, call_reprX hK hg hu, fun B xs H m st ds d Q rs r h q => by
  unfold gReprX at h
  split at h
  · obtain ⟨v, rfl, r1⟩ := one_inv r
    obtain ⟨p, h1, h⟩ := Option.bind_eq_some_iff.mp h
    split at h
    · rename_i hs
      cases h
      exact ⟨v, p, rfl, toPyXT_dp rs r1 h1, hs, q _ H Grow.refl (Rep.str_iff.mpr rfl)⟩
    · cases h
  · cases h⟩
end
end DL
namespace DL
open PySem PySem.Spec PyProof.Rows L2
section
variable [TabsCtx]
variable {X : Cx} {W : WX} {pos : Pos} {o : Expr} {fo : Fe} {f : Str}
structure PropP (X : Cx) (k : Nat) (f c : Str) (F : Fd) : Prop where
  ex : ∃ p g fd ps, SlX.SCls X.K (He.ga X.K c) ∧ PySem.W.findIn X.K (.ref (He.ga X.K c)) f = some (some (.ref p)) ∧ PySem.W.specialIn X.K (.ref p) "__get__" = some (some (.builtin "property.__get__")) ∧ PySem.W.takesIn X.K (.ref p) = some true ∧
    (∃ rest, PySem.W.recIn X.K p "property" = some (.ref g :: rest)) ∧ FnG X.prog X.w X.K X.mg X.base k g fd ps (spD X.K 1 F) ∧ Binds X.K fd ps []
abbrev PrTab := List (Str × Fd)
def prAt (tb : PrTab) (c : Str) : Option Fd := (tb.find? fun p => decide (p.1 = c)).map (·.2)
structure PropsP (X : Cx) (k : Nat) (f : Str) (tb : PrTab) : Prop where
  at_ : ∀ p ∈ tb, PropP X k f p.1 p.2
theorem props_nil {k : Nat} : PropsP X k f [] := ⟨fun p h => by simp at h⟩
theorem props_cons {k : Nat} {c : Str} {F : Fd} {tb : PrTab} (h : PropP X k f c F) (t : PropsP X k f tb) : PropsP X k f ((c, F) :: tb) := ⟨fun p hp => by
  rcases List.mem_cons.mp hp with z | z
  · rw [z]; exact h
  · exact t.at_ p z⟩
theorem prAt_mem {tb : PrTab} {c : Str} {F : Fd} (h : prAt tb c = some F) : (c, F) ∈ tb := by
  obtain ⟨p, hp, e⟩ := Option.map_eq_some_iff.mp h
  have h1 := List.mem_of_find?_eq_some hp
  have h2 : p.1 = c := by simpa using List.find?_some hp
  obtain ⟨a, b⟩ := p
  simp only at h2 e
  subst h2 e
  exact h1
def xProp (tb : PrTab) (fo : Fe) : Fe := fun ρ st => (fo ρ st).bind fun od s1 => match (clsD s1 od).bind (prAt tb) with
  | some F => match F [od] s1 with
    | .ok d s2 => .ok d s2
    | _ => .fail
  | none => .fail
def tPropD (X : Cx) (k : Nat) (f : Str) (to : TE) : TE := fun σ H Q => to σ H fun x H1 => ∃ a C dx vs p g fd ps sp, x = .ref a ∧ SlX.Slt H1 a C dx vs ∧ SlX.SCls X.K C ∧ PySem.W.findIn X.K (.ref C) f = some (some (.ref p)) ∧ PySem.W.specialIn X.K (.ref p) "__get__" = some (some (.builtin "property.__get__")) ∧ PySem.W.takesIn X.K (.ref p) = some true ∧
    (∃ rest, PySem.W.recIn X.K p "property" = some (.ref g :: rest)) ∧ FnG X.prog X.w X.K X.mg X.base k g fd ps sp ∧ Binds X.K fd ps [] ∧ sp [x] H1 Q fun _ _ _ => False
theorem pe_propD {k : Nat} {to : TE} (po : PE X o to) (hr : Room (k + 1) X.A) (hx : XOk X W) (hb : attributeBase o f X.env (eval o X.env) = eval o X.env := by rfl) : PE X (.Attribute o f pos) (tPropD X k f to) := by
  refine ⟨fun pins s σ H Q I h => ?_⟩
  refine attr_of hb (thn (po.run pins s σ H _ I h) fun w s1 ⟨x, H1, I1, rx, a, C, dx, vs, p, g, fd, ps, sp, ex, hs, c, at_, get, tk, rc, G, bd, q⟩ => ?_)
  subst ex
  obtain rfl : w = Value.ref a := rx
  obtain ⟨sl, od, _, J, _⟩ := SlX.slt_inst I1 hs
  obtain ⟨rest, hrec⟩ := rc
  have I2 : Inv X pins σ H1 { s1 with toks := s1.toks + 1 } := I1.tok (s1.toks + 1)
  have hl : ([Value.ref a]).length = ps.length := G.len _ _ _ _ q
  have hb2 := bd _ [Value.ref a] I2.kIn (by rw [List.append_nil]; exact hl)
  rw [List.append_nil] at hb2
  refine PySem.W.get_bind I1.kIn J (PySem.W.plainGet_of (c.get f)).1 (PySem.W.findObj_data c.ic at_ get tk) (PySem.W.plainGet_of (c.get f)).2 (wpAny_call (PySem.W.prop_get (s := { s1 with toks := s1.toks + 1 }) I1.kIn hrec ?_))
  refine codeAny_mono (G.run X.A.in1 X.stack { s1 with toks := s1.toks + 1 } H1 ⟨[.ref a], []⟩ [.ref a] [.ref a] Q _ hr.in1 hx.gd I2.env0.in1 hb2 (.cons rfl .nil) q) fun r s' hq => ?_
  match r, hq with
  | .error e, hq => exact (CX_false hq).elim
  | .ok (.ret u), hq =>
    obtain ⟨v, H', I3, rv, q3⟩ := I2.after hq
    exact wpAny_of_eq (PySem.W.handedOut_of (handed_of rv)) ⟨v, H', I3, rv, q3⟩
  | .ok .next, hq => exact False.elim hq
  | .ok .brk, hq => exact False.elim hq
  | .ok .cont, hq => exact False.elim hq
theorem de_prop {k : Nat} {tb : PrTab} (M : PropsP X k f tb) (hr : Room (k + 1) X.A) (hx : XOk X W) (ho : DE X W o fo) (hb : attributeBase o f X.env (eval o X.env) = eval o X.env := by rfl) : DE X W (.Attribute o f pos) (xProp tb fo) := by
  obtain ⟨to, po, qo⟩ := ho
  refine ⟨_, pe_propD (k := k) po hr hx hb, fun B σ H ρ st ml Q re rs h => ?_⟩
  refine qo B σ H ρ st ml _ re rs (good_bind h fun od s1 ov H1 m1 e1 r1 rs1 h1 => ?_)
  cases hc : (clsD s1 od).bind (prAt tb) with
  | none => rw [hc] at h1; exact h1.elim
  | some F =>
    rw [hc] at h1
    simp only at h1
    obtain ⟨c, hc1, hc2⟩ := Option.bind_eq_some_iff.mp hc
    obtain ⟨a, dx, vs, rfl, hsl⟩ := clsD_rep rs1 r1 hc1
    obtain ⟨p, g, fd, ps, z1, z2, z3, z4, z5, hG, hB⟩ := (M.at_ _ (prAt_mem hc2)).ex
    refine ⟨a, _, dx, vs, p, g, fd, ps, _, rfl, hsl, z1, z2, z3, z4, z5, hG, hB, ?_⟩
    refine ⟨B, [od], s1, m1, rfl, RepL.cons r1 RepL.nil, rs1, ?_⟩
    show GoodR _ (F [od] s1) _ _ _ _ _
    cases hF : F [od] s1 with
    | ok d s2 => rw [hF] at h1; exact h1
    | exc c f s => rw [hF] at h1; exact h1.elim
    | fail => rw [hF] at h1; exact h1.elim
end
end DL
namespace DL
open PySem PySem.Spec PyProof.Rows L2
variable [TabsCtx]
def keysN : Nat → List D → KD
  | _, [] => []
  | n, d :: ds => (.inl (n : Nat), d) :: keysN (n + 1) ds
def keysV : Nat → List V → List (Key × V)
  | _, [] => []
  | n, v :: vs => (.inl (n : Nat), v) :: keysV (n + 1) vs
def keysX : Nat → List Value → List (Key × Value)
  | _, [] => []
  | n, v :: vs => (.inl (n : Nat), v) :: keysX (n + 1) vs
theorem keys_kv : ∀ {vs : List V} {us : List Value} (n : Nat), Vals vs us → KV (keysV n vs) (keysX n us)
  | _, _, _, .nil => .nil
  | _, _, n, .cons h t => .cons ⟨rfl, h⟩ (keys_kv (n + 1) t)
theorem keysX_len : ∀ (us : List Value) (n : Nat), (keysX n us).length = us.length
  | [], _ => rfl
  | u :: us, n => by simp [keysX, keysX_len us (n + 1)]
theorem keysX_get : ∀ (us : List Value) (n i : Nat) (u : Value), us[i]? = some u → (keysX n us)[i]? = some (.inl ((n + i : Nat) : Int), u)
  | x :: us, n, 0, u, h => by simp at h; subst h; simp [keysX]
  | x :: us, n, i + 1, u, h => by
    have := keysX_get us (n + 1) i u (by simpa using h)
    simp only [keysX, List.getElem?_cons_succ]
    rw [this]
    congr 3
    omega
section
variable {X : Cx} {W : WX}
def tDictEn (K : PySem.W.Frag) (te : TE) : TE := fun σ H Q => te σ H fun v H1 => ∃ a xs, v = .ref a ∧ SqL K H1 a xs ∧ ∀ p, H1 p = none → Q (.ref p) (upd H1 p (.dK (mergeK [] (keysV 0 xs))))
theorem pe_dictEn {e : Expr} {te : TE} {p p2 pos pos2 : Pos} (hc : X.calm = true) (hgl : Gl X "dict") (hml : X.mg "dict" = none) (hg : Gl X "enumerate") (hm : X.mg "enumerate" = none) (he : PE X e te)
    (ns : starEach [e] X.env = (false, eval e X.env) :: starEach [] X.env := by rfl)
    (na : starEach [.Call (.Name "enumerate" p) [e] [] pos] X.env = (false, eval (.Call (.Name "enumerate" p) [e] [] pos) X.env) :: starEach [] X.env := by rfl) :
    PE X (.Call (.Name "dict" p2) [.Call (.Name "enumerate" p) [e] [] pos] [] pos2) (tDictEn X.K te) := by
  refine ⟨fun pins s σ H Q I h => ?_⟩
  refine Call_ (ld_blt I hgl hml boot_dict (PyProof.Rows.callWith_type1 (args_cons (Call_ (ld_blt I hg hm boot_enumerate (PyProof.Rows.callWith_type1 (args_cons (thn (he.run pins s σ H _ I h) fun v s1 ⟨y, H1, I1, ry, a, xs, ey, hq, q⟩ => args_nil ?_) ns) ns))) na) na))
  subst ey
  obtain rfl : v = Value.ref a := ry
  obtain ⟨its, rv, pl, hz⟩ := I1.list hq
  refine call_enumerate_list pl.isList fun h1 he hit hsz hk => args_nil ?_
  have hL : h1.IsList a its.toArray := pl.isList.at fun o e => hk _ o e
  have hal : a < s1.heap.objs.size := by obtain ⟨o, ho, _⟩ := pl.isList; exact Heap.lt_size ho
  have P := PairArg.enumerate (prog := X.prog) (w := X.w) (s1.heap.objs.size + 1) s1.heap.objs.size a (Nat.succ_ne_self _) (Nat.ne_of_lt (Nat.lt_succ_of_lt hal)) (Nat.ne_of_lt hal) its.toArray
  have hl := rv.length
  refine PySem.call_dict_pairs (knd := mixKind X.prog X.w) (kvs := keysX 0 its) P (I1.ok.hd hc) ⟨⟨_, he⟩, hit, hL⟩ ⟨by rw [keysX_len]; simp, fun i k v r => ?_⟩ (by simp; omega) fun h' tk hd' k => ?_
  · obtain ⟨⟨t, rfl⟩, hv⟩ := r
    refine ⟨.inl (i : Nat), ?_, ?_⟩
    · have := keysX_get its 0 i v (by simpa using hv)
      rw [Nat.zero_add] at this
      exact this
    · have : keyIs (Sum.inl ((i : Nat) : Int)) (Value.int (i : Nat) t) = true := kV_is (P := X.prog) (w := X.w) (k := .inl ((i : Nat) : Int)) ⟨t, rfl⟩
      exact this
  · have hsz1 : s1.heap.objs.size ≤ h1.objs.size := by omega
    have k1 : ∀ b o, s1.heap.get? b = some o → h'.get? b = some o := fun b o e => by
      have hb : b < s1.heap.objs.size := Heap.lt_size e
      refine k b o (fun hm => ?_) (hk b o e)
      simp only [List.mem_cons, List.not_mem_nil, or_false] at hm
      rcases hm with z | z
      · rw [z] at hb; exact absurd hb (Nat.not_lt.mpr (Nat.le_succ _))
      · rw [z] at hb; exact absurd hb (Nat.lt_irrefl _)
    have hm : (h1.objs.size == sysModules) = false := beq_eq_false_iff_ne.mpr (Nat.ne_of_gt (Nat.lt_of_lt_of_le I1.big hsz1))
    have rel := keys_kv 0 rv
    have hlen : (mergeK [] (keysV 0 xs)).length ≤ sizeLine := by
      refine Nat.le_trans (length_mergeK (keysV 0 xs) []) ?_
      rw [List.length_nil, Nat.zero_add, rel.length, keysX_len]
      omega
    exact ⟨.ref h1.objs.size, upd H1 h1.objs.size (.dK (mergeK [] (keysV 0 xs))), I1.laid (t' := tk) k1 hsz1 (show ObjOk X.prog X.w _ _ _ (.dK (mergeK [] (keysV 0 xs))) from ⟨hlen, hm, merged [] (keysX 0 its), KV.merge rel .nil, hd'⟩), rfl, q _ (I1.hok.fresh hsz1)⟩
/-- dict(enumerate(xs)) of a list -/
def xDictEn (f : Fe) : Fe := fun ρ st => (f ρ st).bind fun d s1 => match lstV s1 d with
  | some xs => .ok (dctOf (mergeD [] (keysN 0 xs))) s1
  | none => .fail
theorem keysN_rep {K : KB} {H : Hp} {m : List Addr} : ∀ {ds : List D} {vs : List V} (n : Nat), RepL K H m ds vs → RepP K H m (keysN n ds) (keysV n vs)
  | [], _, _, r => by cases r.inv_nil; exact rfl
  | d :: ds, _, n, r => by
    obtain ⟨v, vr, rfl, r1, r2⟩ := r.inv_cons
    exact ⟨v, keysV (n + 1) vr, rfl, r1, keysN_rep (n + 1) r2⟩
theorem de_dictEn {e : Expr} {f : Fe} {p p2 pos pos2 : Pos} (hc : X.calm = true) (hml : X.mg "dict" = none) (hm : X.mg "enumerate" = none) (h : DE X W e f) (hgl : Gl X "dict" := by rfl) (hg : Gl X "enumerate" := by rfl)
    (ns : starEach [e] X.env = (false, eval e X.env) :: starEach [] X.env := by rfl)
    (na : starEach [.Call (.Name "enumerate" p) [e] [] pos] X.env = (false, eval (.Call (.Name "enumerate" p) [e] [] pos) X.env) :: starEach [] X.env := by rfl) :
    DE X W (.Call (.Name "dict" p2) [.Call (.Name "enumerate" p) [e] [] pos] [] pos2) (xDictEn f) := by
  obtain ⟨t, pe, q⟩ := h
  refine ⟨_, pe_lk (pe_dictEn hc hgl hml hg hm pe ns na), fun B σ H ρ st m Q re rs h => ?_⟩
  refine q B σ H ρ st m _ re rs (good_bind h fun d s1 x H1 m1 e1 r1 rs1 h1 => ?_)
  cases hl : lstV s1 d with
  | none => rw [hl] at h1; exact h1.elim
  | some ds =>
    rw [hl] at h1
    obtain ⟨a, vs, rfl, hs, rl⟩ := lstV_rep rs1 r1 hl
    refine ⟨a, vs, rfl, hs, fun p hp => ⟨p, _, rfl, upd_same, fun o => ?_⟩⟩
    rw [upd_upd]
    exact h1 (.ref p) _ m1 (Grow.upd hp).evo (Rep.newDK rs1 hp (RepP.merge (kvs := []) (vs := []) rfl (keysN_rep 0 rl))) (rs1.grow (Grow.upd hp))
end
section
variable {prog : Program} {w : World}
theorem its_lt {k : Kd} {h : Heap} {it a : Addr} {i : Nat} (x : ItS k h it a i) : ∃ o, h.get? it = some o := by
  cases k with
  | l => obtain ⟨o, e, _⟩ := x; exact ⟨o, e⟩
  | t => obtain ⟨o, e, _⟩ := x; exact ⟨o, e⟩
theorem zl_pair {z TI TO : Addr} {e1 e2 : ZE} (S : ZSep z TI TO [e1, e2]) {N : Nat} (hle : ∀ e ∈ [e1, e2], N ≤ e.xs.size) (hend : ∃ e ∈ [e1, e2], N = e.xs.size) :
    PairArg prog w "zip" z [z, TI, TO, e1.it, e2.it, e1.a, e2.a] [z, TO, e1.it, e2.it] N (fun i k v => i < N ∧ e1.xs[i]? = some k ∧ e2.xs[i]? = some v) (fun h => ZStL z TI TO [e1, e2] 0 h) where
  type := fun s ok => let ⟨_, _, _, hz, _⟩ := ok.ex; ⟨_, hz, rfl⟩
  notDict := by decide
  keep := fun h h' ok hk => ok.keeps fun c o _ e => hk c o e
  there := fun h ok b hb => by
    obtain ⟨⟨x, f, olds, hz, hx, hT, lo⟩, hTI, ha⟩ := ok
    obtain ⟨i1, s1⟩ := ha e1 (by simp)
    obtain ⟨i2, s2⟩ := ha e2 (by simp)
    simp only [List.mem_cons, List.not_mem_nil, or_false] at hb
    rcases hb with rfl | rfl | rfl | rfl | rfl | rfl | rfl
    · exact ⟨_, hz⟩
    · exact ⟨_, hTI⟩
    · exact ⟨_, hT⟩
    · exact its_lt i1
    · exact its_lt i2
    · exact iss_lt s1
    · exact iss_lt s2
  sub := fun b hb => by simp at hb ⊢; rcases hb with rfl | rfl | rfl | rfl <;> simp
  noKeys := fun A s Q E hA ok h => let ⟨_, _, _, hz, _⟩ := ok.ex; getAttrOr_miss_zip hz rfl rfl rfl zip_no_keys (by decide +kernel) hA h
  iter := fun A s d Q E hA ok hd hdf h => by
    obtain ⟨x0, f0, olds0, hz0, _⟩ := ok.ex
    simp only [List.mem_cons, List.not_mem_nil, or_false, not_or] at hdf
    obtain ⟨dz, dTI, dTO, di1, di2, da1, da2⟩ := hdf
    refine zn_iter hz0 (h z [z, TO, e1.it, e2.it] (fun i h => ZStL z TI TO [e1, e2] i h) s.heap s.toks ?_ ok (fun _ _ e => e) fun b hb => .inl hb)
    exact {
      off := fun hm => by
        simp only [List.mem_cons, List.not_mem_nil, or_false] at hm
        rcases hm with e | e | e | e
        · exact dz e
        · exact dTO e
        · exact di1 e
        · exact di2 e
      frame := fun i h₁ h₂ st hk => st.keeps fun c o hc e => hk c o (by
        rcases hc with z | z | z | ⟨q, hq, z⟩
        · rw [z]; exact Ne.symm dz
        · rw [z]; exact Ne.symm dTI
        · rw [z]; exact Ne.symm dTO
        · simp only [List.mem_cons, List.not_mem_nil, or_false] at hq
          rcases hq with rfl | rfl
          · rcases z with z | z
            · rw [z]; exact Ne.symm di1
            · rw [z]; exact Ne.symm da1
          · rcases z with z | z
            · rw [z]; exact Ne.symm di2
            · rw [z]; exact Ne.symm da2) e
      item := fun i s₁ Q₁ E₁ hi st hds hQ => by
        obtain ⟨⟨x, f, olds, hz, hx, hT, lo⟩, hTI, ha⟩ := st
        refine zn_next_item hA S hz hx hTI hT lo (by simp) (by show 2 ≤ sizeLine; decide) ha (fun e he => Nat.lt_of_lt_of_le hi (hle e he)) fun ds h' tk x' f' olds' hds' hz' hx' hT' lo' ha' hTn hsz hk => ?_
        have l1 : i < e1.xs.size := Nat.lt_of_lt_of_le hi (hle e1 (by simp))
        have l2 : i < e2.xs.size := Nat.lt_of_lt_of_le hi (hle e2 (by simp))
        have q1 : e1.xs[i]? = some e1.xs[i] := Array.getElem?_eq_getElem l1
        have q2 : e2.xs[i]? = some e2.xs[i] := Array.getElem?_eq_getElem l2
        have hd2 : ds = [e1.xs[i], e2.xs[i]] := by
          simp only [List.map_cons, List.map_nil, q1, q2] at hds'
          match ds, hds' with
          | [a, b], h => simpa using h
        subst hd2
        have hTI' : IsTn h' TI ([e1, e2].map fun e => .ref e.it) := hk TI _ (fun hm => by
          simp only [List.map_cons, List.map_nil, List.mem_cons, List.not_mem_nil, or_false] at hm
          rcases hm with e | e | e | e
          · exact S.TIz e
          · exact S.TITO e
          · exact (S.it e1 (by simp)).2.1 e.symm
          · exact (S.it e2 (by simp)).2.1 e.symm) hTI
        refine hQ s₁.heap.objs.size _ _ h' tk ⟨hi, q1, q2⟩ (.inl ⟨_, hTn, rfl, _, rfl⟩) ⟨⟨x', f', olds', hz', hx', hT', lo'⟩, hTI', ha'⟩ fun b o hb e => hk b o (fun hm => hb ?_) e
        simpa using hm
      done := fun s₁ Q₁ E₁ st hQ => by
        obtain ⟨⟨x, f, olds, hz, hx, hT, lo⟩, hTI, ha⟩ := st
        exact zn_next_end hA S hz hx hTI hT lo (by simp) (by show 2 ≤ sizeLine; decide) ha hle hend fun h' tk hk => hQ h' tk fun b o hb e => hk b o (fun hm => hb (by simpa using hm)) e }
end
section
variable {X : Cx} {W : WX}
theorem kz_prs : ∀ {kvs : List (Key × V)} {ys : List V} {us : List Value}, Vals ys us → ys.take kvs.length = kvs.map (·.2) → ∃ prs : List (Key × Value), KV kvs prs ∧ prs.length = kvs.length ∧ ∀ (i : Nat) (q : Key × V), kvs[i]? = some q → ∃ u, us[i]? = some u ∧ prs[i]? = some (q.1, u)
  | [], _, _, _, _ => ⟨[], .nil, rfl, fun i q h => by simp at h⟩
  | q :: r, ys, us, hv, ht => by
    cases hv with
    | nil => simp at ht
    | cons h t =>
      rename_i y u ys us
      rw [List.length_cons, List.take_succ_cons, List.map_cons] at ht
      obtain ⟨e1, e2⟩ := List.cons.inj ht
      obtain ⟨prs, h1, h2, h3⟩ := kz_prs t e2
      refine ⟨(q.1, u) :: prs, .cons ⟨rfl, by rw [← e1]; exact h⟩ h1, by simp [h2], fun i p hp => ?_⟩
      cases i with
      | zero =>
        simp at hp
        subst hp
        exact ⟨u, rfl, rfl⟩
      | succ i => exact h3 i p (by simpa using hp)
def tDictZip (K : PySem.W.Frag) (ta : TA) : TE := fun σ H Q => ta σ H fun vs H1 => ∃ (k1 k2 : Kd) (a b : Addr) (xs ys : List V) (kvs : List (Key × V)), vs = [.ref a, .ref b] ∧ SqK K k1 H1 a xs ∧ SqK K k2 H1 b ys ∧
  kvs.length ≤ xs.length ∧ kvs.length ≤ ys.length ∧ (kvs.length = xs.length ∨ kvs.length = ys.length) ∧ xs.take kvs.length = kvs.map (fun q => kV q.1) ∧ ys.take kvs.length = kvs.map (·.2) ∧ kvs.length ≤ sizeLine ∧
  ∀ p, H1 p = none → Q (.ref p) (upd H1 p (.dK (mergeK [] kvs)))
theorem pe_dictZip {e e2 : Expr} {ta : TA} {p p2 pos pos2 : Pos} (hc : X.calm = true) (hgl : Gl X "dict") (hml : X.mg "dict" = none) (hg : Gl X "zip") (hm : X.mg "zip" = none) (ha : PA X [e, e2] ta)
    (hs : starEach [e, e2] X.env = (false, eval e X.env) :: starEach [e2] X.env := by rfl) (hpl : (backTo pos (starEach [e2] X.env)).any (·.1) = false := by rfl)
    (na : starEach [.Call (.Name "zip" p) [e, e2] [] pos] X.env = (false, eval (.Call (.Name "zip" p) [e, e2] [] pos) X.env) :: starEach [] X.env := by rfl) :
    PE X (.Call (.Name "dict" p2) [.Call (.Name "zip" p) [e, e2] [] pos] [] pos2) (tDictZip X.K ta) := by
  refine ⟨fun pins s σ H Q I h => ?_⟩
  refine Call_ (ld_blt I hgl hml boot_dict (PyProof.Rows.callWith_type1 (args_cons (Call_ (ld_blt I hg hm PyProof.Rows.boot_zip (PyProof.Rows.callWith_type1 (thn (ha.run pos pins s σ H _ I h) fun us s1 ⟨vs, H1, I1, r1, k1, k2, a, b, xs, ys, kvs, ev, hqx, hqy, hl1, hl2, hl3, hkx, hky, hsz, q⟩ => ?_) hs hpl))) na) na))
  subst ev
  cases r1 with
  | cons r rr =>
   cases rr with
   | cons r' rr =>
    cases rr
    cases r
    cases r'
    obtain ⟨its, rv, p1⟩ := sqk_vals I1 hqx
    obtain ⟨its2, rv2, p2⟩ := sqk_vals I1 hqy
    obtain ⟨oa, ho⟩ := iss_lt p1
    obtain ⟨ob, ho2⟩ := iss_lt p2
    have hal : a < s1.heap.objs.size := Heap.lt_size ho
    have hbl : b < s1.heap.objs.size := Heap.lt_size ho2
    refine zip_begins_n [(k1, a), (k2, b)] (by show 2 ≤ 8; decide) (fun p hp => by
      simp only [List.mem_cons, List.not_mem_nil, or_false] at hp
      rcases hp with rfl | rfl
      · exact ⟨_, p1⟩
      · exact ⟨_, p2⟩) fun h1 hz hTI hTO hits hk => args_nil ?_
    have hlt : ∀ p ∈ [(k1, a), (k2, b)], p.2 < s1.heap.objs.size := fun p hp => by
      simp only [List.mem_cons, List.not_mem_nil, or_false] at hp
      rcases hp with rfl | rfl
      · exact hal
      · exact hbl
    have S := (zeSep hlt).of (L := [⟨k1, a, s1.heap.objs.size, its.toArray⟩, ⟨k2, b, s1.heap.objs.size + 1, its2.toArray⟩]) rfl
    have ZL : ZStL (s1.heap.objs.size + 2 + 2) (s1.heap.objs.size + 2) (s1.heap.objs.size + 2 + 1) [⟨k1, a, s1.heap.objs.size, its.toArray⟩, ⟨k2, b, s1.heap.objs.size + 1, its2.toArray⟩] 0 h1 := ⟨⟨_, _, _, hz, .inl rfl, hTO, rfl⟩, hTI, fun e he => by
      simp only [List.mem_cons, List.not_mem_nil, or_false] at he
      rcases he with rfl | rfl
      · exact ⟨its_begin (hits 0 (k1, a) rfl), iss_at p1 fun o e => hk _ o e⟩
      · exact ⟨its_begin (hits 1 (k2, b) rfl), iss_at p2 fun o e => hk _ o e⟩⟩
    have ln1 := rv.length
    have ln2 := rv2.length
    have P := zl_pair (prog := X.prog) (w := X.w) S (N := kvs.length) (fun e he => by
      simp only [List.mem_cons, List.not_mem_nil, or_false] at he
      rcases he with rfl | rfl
      · show kvs.length ≤ its.toArray.size; simp; omega
      · show kvs.length ≤ its2.toArray.size; simp; omega) (by
      rcases hl3 with z | z
      · exact ⟨_, List.mem_cons_self, by show kvs.length = its.toArray.size; simp; omega⟩
      · exact ⟨_, List.mem_cons_of_mem _ List.mem_cons_self, by show kvs.length = its2.toArray.size; simp; omega⟩)
    obtain ⟨prs, rel, pl, hprs⟩ := kz_prs rv2 hky
    have zlt : s1.heap.objs.size + 2 + 2 < h1.objs.size := Heap.lt_size hz
    refine PySem.call_dict_pairs (knd := mixKind X.prog X.w) (kvs := prs) P (I1.ok.hd hc) ZL ⟨pl, fun i key v r => ?_⟩ hsz fun h' tk hd' k => ?_
    · obtain ⟨hi, g1, g2⟩ := r
      have hq : kvs[i]? = some kvs[i] := List.getElem?_eq_getElem hi
      obtain ⟨u, e1, e2'⟩ := hprs i _ hq
      have g2' : its2[i]? = some v := by simpa using g2
      have g1' : its[i]? = some key := by simpa using g1
      have euv : u = v := by rw [e1] at g2'; exact Option.some.inj g2'
      subst euv
      refine ⟨kvs[i].1, e2', ?_⟩
      have hx : xs[i]? = some (kV kvs[i].1) := by
        have : (xs.take kvs.length)[i]? = (kvs.map fun q => kV q.1)[i]? := by rw [hkx]
        rw [List.getElem?_take_of_lt hi, List.getElem?_map, hq] at this
        exact this
      obtain ⟨u', hu', ru⟩ := rv.get hx
      have : u' = key := by rw [hu'] at g1'; exact Option.some.inj g1'
      subst this
      exact kV_is (P := X.prog) (w := X.w) ru
    · have hsz1 : s1.heap.objs.size ≤ h1.objs.size := by omega
      have k1' : ∀ c o, s1.heap.get? c = some o → h'.get? c = some o := fun c o e => by
        have hb : c < s1.heap.objs.size := Heap.lt_size e
        refine k c o (fun hm => ?_) (hk c o e)
        simp only [List.mem_cons, List.not_mem_nil, or_false] at hm
        rcases hm with z | z | z | z
        · rw [z] at hb; exact absurd hb (Nat.not_lt.mpr (by omega))
        · rw [z] at hb; exact absurd hb (Nat.not_lt.mpr (by omega))
        · rw [z] at hb; exact absurd hb (Nat.lt_irrefl _)
        · rw [z] at hb; exact absurd hb (Nat.not_lt.mpr (Nat.le_succ _))
      have hm' : (h1.objs.size == sysModules) = false := beq_eq_false_iff_ne.mpr (Nat.ne_of_gt (Nat.lt_of_lt_of_le I1.big hsz1))
      have hlen : (mergeK [] kvs).length ≤ sizeLine := by
        refine Nat.le_trans (length_mergeK kvs []) ?_
        rw [List.length_nil, Nat.zero_add]
        exact hsz
      exact ⟨.ref h1.objs.size, upd H1 h1.objs.size (.dK (mergeK [] kvs)), I1.laid (t' := tk) k1' hsz1 (show ObjOk X.prog X.w _ _ _ (.dK (mergeK [] kvs)) from ⟨hlen, hm', merged [] prs, KV.merge rel .nil, hd'⟩), rfl, q _ (I1.hok.fresh hsz1)⟩
def keysD : List D → List D → Option KD
  | a :: as, b :: bs => (keyD a).bind fun k => (keysD as bs).map fun r => (k, b) :: r
  | _, _ => some []
theorem keysD_rep {K : KB} {H : Hp} {m : List Addr} : ∀ {as bs : List D} {xs ys : List V} {r : KD}, RepL K H m as xs → RepL K H m bs ys → keysD as bs = some r →
    ∃ kvs : List (Key × V), RepP K H m r kvs ∧ kvs.length ≤ xs.length ∧ kvs.length ≤ ys.length ∧ (kvs.length = xs.length ∨ kvs.length = ys.length) ∧ xs.take kvs.length = kvs.map (fun q => kV q.1) ∧ ys.take kvs.length = kvs.map (·.2) ∧ kvs.length ≤ as.length
  | [], _, xs, ys, r, ra, rb, h => by
    cases h
    cases ra.inv_nil
    exact ⟨[], rfl, by simp, by simp, .inl rfl, rfl, by simp, by simp⟩
  | a :: as, [], xs, ys, r, ra, rb, h => by
    cases h
    cases rb.inv_nil
    exact ⟨[], rfl, by simp, by simp, .inr rfl, by simp, rfl, by simp⟩
  | a :: as, b :: bs, _, _, r, ra, rb, h => by
    obtain ⟨k, h1, h⟩ := Option.bind_eq_some_iff.mp h
    obtain ⟨r', h2, rfl⟩ := Option.map_eq_some_iff.mp h
    obtain ⟨x, xs, rfl, ra1, ra2⟩ := ra.inv_cons
    obtain ⟨y, ys, rfl, rb1, rb2⟩ := rb.inv_cons
    obtain ⟨kvs, q1, q2, q3, q4, q5, q6, q7⟩ := keysD_rep ra2 rb2 h2
    refine ⟨(k, y) :: kvs, ⟨y, kvs, rfl, rb1, q1⟩, by simp; exact q2, by simp; exact q3, ?_, ?_, ?_, by simp; exact q7⟩
    · rcases q4 with z | z
      · exact .inl (by simp [z])
      · exact .inr (by simp [z])
    · rw [List.length_cons, List.take_succ_cons, List.map_cons, q5, keyD_rep ra1 h1]
    · rw [List.length_cons, List.take_succ_cons, List.map_cons, q6]
/-- dict(zip(xs, ys)) -/
def xDictZip (fa : Fa) : Fe := fun ρ st => (fa ρ st).bind fun ds s1 => match ds with
  | [d, e] => (match seqV s1 d, seqV s1 e with
    | some xs, some ys => if xs.length ≤ sizeLine then (match keysD xs ys with
      | some r => .ok (dctOf (mergeD [] r)) s1
      | none => .fail) else .fail
    | _, _ => .fail)
  | _ => .fail
theorem de_dictZip {e e2 : Expr} {fa : Fa} {p p2 pos pos2 : Pos} (hc : X.calm = true) (hml : X.mg "dict" = none) (hm : X.mg "zip" = none) (h : DA X W [e, e2] fa) (hgl : Gl X "dict" := by rfl) (hg : Gl X "zip" := by rfl)
    (hs : starEach [e, e2] X.env = (false, eval e X.env) :: starEach [e2] X.env := by rfl) (hpl : (backTo pos (starEach [e2] X.env)).any (·.1) = false := by rfl)
    (na : starEach [.Call (.Name "zip" p) [e, e2] [] pos] X.env = (false, eval (.Call (.Name "zip" p) [e, e2] [] pos) X.env) :: starEach [] X.env := by rfl) :
    DE X W (.Call (.Name "dict" p2) [.Call (.Name "zip" p) [e, e2] [] pos] [] pos2) (xDictZip fa) := by
  obtain ⟨⟨t, pt, q⟩, hl⟩ := h
  refine ⟨_, pe_lk (pe_dictZip hc hgl hml hg hm pt hs hpl na), fun B σ H ρ st m Q re rs h => ?_⟩
  refine q B σ H ρ st m _ re rs ?_
  unfold xDictZip at h
  cases er : fa ρ st with
  | fail => rw [er] at h; exact h.elim
  | exc c f s => rw [er] at h; exact h
  | ok ds s1 =>
    rw [er] at h
    simp only [Res.bind_ok] at h
    intro vs H1 m1 e1 r1 rs1
    match ds, h, r1 with
    | [d, e'], h, r1 =>
      obtain ⟨v1, v2, rfl, ra, rb⟩ := two_inv r1
      simp only at h
      cases h1 : seqV s1 d with
      | none => rw [h1] at h; exact h.elim
      | some as =>
        cases h2 : seqV s1 e' with
        | none => rw [h1, h2] at h; exact h.elim
        | some bs =>
          rw [h1, h2] at h
          simp only at h
          split at h
          · rename_i hz
            cases h3 : keysD as bs with
            | none => rw [h3] at h; exact h.elim
            | some r =>
              rw [h3] at h
              obtain ⟨a, xs, rfl, sa, la⟩ := seqV_rep rs1 ra h1
              obtain ⟨b, ys, rfl, sb, lb⟩ := seqV_rep rs1 rb h2
              obtain ⟨kvs, q1, q2, q3, q4, q5, q6, q7⟩ := keysD_rep la lb h3
              obtain ⟨k1, hk1⟩ : ∃ k, SqK X.K k H1 a xs := sa.elim (fun h => ⟨.l, h⟩) fun h => ⟨.t, h⟩
              obtain ⟨k2, hk2⟩ : ∃ k, SqK X.K k H1 b ys := sb.elim (fun h => ⟨.l, h⟩) fun h => ⟨.t, h⟩
              refine ⟨k1, k2, a, b, xs, ys, kvs, rfl, hk1, hk2, q2, q3, q4, q5, q6, Nat.le_trans q7 hz, fun p hp => ⟨p, _, rfl, upd_same, fun o => ?_⟩⟩
              rw [upd_upd]
              exact h (.ref p) _ m1 (e1.trans (Grow.upd hp).evo) (Rep.newDK rs1 hp (RepP.merge (kvs := []) (vs := []) rfl q1)) (rs1.grow (Grow.upd hp))
          · exact h.elim
    | [], h, _ => exact h.elim
    | [_], h, _ => exact h.elim
    | _ :: _ :: _ :: _, h, _ => exact h.elim
end
end DL
namespace DL
open PySem PySem.Spec PyProof.Rows L2
variable [TabsCtx]
theorem exo_ok {P : Program} {w : World} {H : Hp} {h : Heap} {a C : Addr} {od : Option Addr} {oe : Obj} {vs : Array Value} (e : h.get? a = some oe) (z : Zc (.ref C) od oe) (d : oe.data = .fields vs) : ObjOk P w H h a (ExO a C od) :=
  ⟨⟨oe, vs, e, z, d⟩, ⟨oe, e⟩, fun _ _ ⟨o, v, q, r⟩ k => ⟨o, v, k o q, r⟩⟩
/-- what makes an exception gives it as a value -/
theorem Inv.laidX {X : Cx} {pins : List (Addr × Obj)} {σ : Sg} {H : Hp} {s : Shared} {h2 : Heap} {a : Addr} {o : HO} (I : Inv X pins σ H s) (k : ∀ b u, s.heap.get? b = some u → h2.get? b = some u) (hs : s.heap.get? a = none) (hn : H a = none) (new : ObjOk X.prog X.w (upd H a o) h2 a o) {t2 : Nat} : Inv X pins σ (upd H a o) { s with heap := h2, toks := t2 } := by
  refine I.un ⟨fun b u q _ _ _ => k b u q, fun b u q _ _ _ => ⟨u.slots, k b u q⟩, fun b u q n _ => ?_, fun b u q _ => ⟨u, k b u q⟩, fun b xs q => ?_, fun b u xs q => ?_, fun b ps q => ⟨#[], ?_⟩⟩ fun b u e => ?_
  · have ne : b ≠ a := fun z => by subst z; cases hs.symm.trans q
    exact (upd_ne ne).trans n
  · exact (upd_ne (ne_of_none q hn)).trans q
  · exact (upd_ne (ne_of_none q hn)).trans q
  · rw [upd_ne (ne_of_none q hn), q]; simp
  · by_cases hb : b = a
    · subst hb
      cases upd_same.symm.trans e
      exact new
    · have e := (upd_ne hb).symm.trans e
      exact (I.hok b u e).stay (fun c _ _ q => k c _ q) (fun c q => (upd_ne (ne_of_none q hn)).trans q) fun c xs q => (upd_ne (ne_of_none q hn)).trans q
theorem pe_of_mk {X : Cx} {e : Expr} {t : Sg → Hp → XK → Prop} (h : PMk X e t) : PE X e (fun σ H Q => t σ H fun cls d H' => ∃ C, cls = .ref C ∧ ∀ a, H' a = none → Q (.ref a) (upd H' a (ExO a C d))) := by
  refine ⟨fun pins s σ H Q I q => ?_⟩
  refine wpAny_mono (h pins s σ H _ I q) (fun u s1 hu => ?_) fun _ _ x => x
  obtain ⟨a, oe, vs, sI, H', cls, d, rfl, J, k, hne, ha, hz, hd, h1, na, os, ag, r, C, rfl, q⟩ := hu
  have J2 := Inv.laidX (h2 := s1.heap) (a := a) (o := ExO a C d) (t2 := s1.toks) J k hne na (exo_ok ha hz hd)
  exact ⟨.ref a, upd H' a (ExO a C d), ⟨J2.ok, os.trans J.os, ag, J2.base, J2.loc, J2.cell, J2.free, J2.freeC, J2.pin, J2.hok, J2.len⟩, rfl, q a na⟩
section
variable {X : Cx} {W : WX} {pos : Pos} {e o : Expr} {es : List Expr} {fa : Fa} {fo : Fe}
/-- X('..'), a class without own __init__ -/
def xMkE (c : Str) : Fe := fun _ st => .ok (.exo c "" []) st
theorem de_mkE {x m : Str} {j : Nat} {p p2 p3 : Pos} (E : ExcC X.K X.mg x) (hg : Gl X x := by rfl) (hdb : (x == ("__debug__" : Str)) = false := by decide) :
    DE X W (.Call (.Name x p) [.Constant (.str m) j p2] [] p3) (xMkE x) :=
  ⟨_, pe_of_mk (pmk_own PySem.F.excBase_ValueError E.exc E.glo E.keep (raises_own E.exB E.ty) hg hdb), fun B σ H ρ st m Q re rs h => ⟨_, rfl, fun a ha => good_grow h (Grow.upd ha) (Rep.exo_iff.mpr ⟨a, a, [], rfl, ⟨⟨upd_same, .inl ⟨rfl, rfl⟩⟩, rs.fresh ha, rs.freshB ha, rs.fresh ha, rs.freshB ha⟩, RepL.nil⟩) rs⟩⟩
/-- repr's text, in any later heap -/
theorem shows_x {pins : List (Addr × Obj)} {σ : Sg} {H : Hp} {s : Shared} {v : V} {p : PyData} {u : Value} (I : Inv X pins σ H s) (hK : (X.K.lookup sysModules).isSome = true) (hd : DpX X.K H v p) (r : RelV v u) (hs : showX p = true) (hz : p.shown.length + 100 ≤ sizeLine) : Shows X.prog X.w s.heap u := by
  unfold showX at hs
  simp only [Bool.and_eq_true, decide_eq_true_eq] at hs
  obtain ⟨⟨h1, h2⟩, h4⟩ := hs
  obtain ⟨as, rd, hn⟩ := DpX.reads I hK hd r
  intro A E s' Q hg hu hk q
  have two : ∀ {a : Addr}, Reads s.heap (.ref a) p as → wpAny (model X.prog X.w) A (pyReprObj (.ref a)) Q E s' := fun rd => pyReprObj_of_reads rd h1 (fun _ => hn) hg (by omega) hk (fun h' t tk k => q _ t h' tk hz k) h2
  cases p with
  | none =>
    cases rd
    exact PySem.pyReprObj_none (q "None" _ s'.heap _ hz fun _ _ e => e)
  | bool b =>
    cases rd
    exact PySem.pyReprObj_bool (q (if b then "True" else "False") _ s'.heap _ (by cases b <;> exact hz) fun _ _ e => e)
  | int i =>
    cases rd
    exact PySem.pyReprObj_int (of_decide_eq_true h1) (q _ _ s'.heap _ hz fun _ _ e => e)
  | str x =>
    cases rd
    exact PySem.pyReprObj_str (q _ _ s'.heap _ hz fun _ _ e => e) h2
  | list xs =>
    cases rd with
    | list e1 e2 e3 e4 => exact two (.list e1 e2 e3 e4)
  | tuple xs =>
    cases rd with
    | tuple e1 e2 e3 e4 => exact two (.tuple e1 e2 e3 e4)
  | dict kvs =>
    cases rd with
    | dict e1 e2 e3 e4 e5 => exact two (.dict e1 e2 e3 e4 e5)
/-- the kept value's text is not too long -/
def mkOk (c : Int) (st : Store) (d : D) : Bool := if c = 114 then (match toPyXT st d with
  | some p => showX p && decide (p.shown.length + 100 ≤ sizeLine)
  | none => false) else (decide (c = -1) && match d with
  | .non => true
  | .int i => decide (i.natAbs.log2 < 1920)
  | _ => false)
theorem mkOk_show {c : Int} {K : List Addr} {st : Store} {H : Hp} {m : List Addr} {d : D} {v : V} (hK : (X.K.lookup sysModules).isSome = true) (rs : RepSt ⟨X.K, K⟩ H m st) (r : Rep ⟨X.K, K⟩ H m d v) (h : mkOk c st d = true) : TShow X c H v := by
  unfold mkOk at h
  split at h
  · rename_i hc
    subst hc
    split at h
    · rename_i p hp
      simp only [Bool.and_eq_true, decide_eq_true_eq] at h
      exact fun pins σ s u I ru => (shows_x I hK (toPyXT_dp rs r hp) ru h.1 h.2).field
    · cases h
  · simp only [Bool.and_eq_true, decide_eq_true_eq] at h
    obtain ⟨rfl, h⟩ := h
    split at h
    · cases Rep.non_iff.mp r
      exact fun pins σ s u I ru => by
        cases (show u = Value.none from ru)
        exact field_none
    · rename_i i
      simp only [decide_eq_true_eq] at h
      cases Rep.int_iff.mp r
      exact fun pins σ s u I ru => by
        obtain ⟨t, e⟩ := (show ∃ t, u = Value.int i t from ru)
        subst e
        have z := int_text_len_1921 h
        exact field_int h (by rw [sizeLine_eq]; have := z; omega)
    · cases h
/-- X(e), a class whose __init__ keeps its value -/
def xMkI (c : Int) (x fld : Str) (fa : Fa) : Fe := fun ρ st => (fa ρ st).bind fun ds s1 => match ds with
  | [d] => if mkOk c s1 d = true then .ok (.exo x fld [d]) s1 else .fail
  | _ => .fail
theorem de_mkI {c : Int} {x fld sf p : Str} {p1 p3 : Pos} {params : Arguments} {body : List Stmt} {scope : Scope} {f : Addr} {B newId initId : String} {bmB : List Value} (hK : (X.K.lookup sysModules).isSome = true) {Bn initN : String} {bmN : List Value} (FN : ExcBaseFacts Bn newId initN bmN) (LN : Line Bn bmB) (FB : InitF B initId) (KF : PySem.W.KxsFacts B initId) (SF : StoreFacts B bmB "object.__setattr__" "object") (hx : XOk X W) (T : InitText c params body scope sf p fld)
    (I : InitC X.prog X.K (He.ga X.K x) f params body scope fld B newId initId bmB) (gx : X.mg x = some (.ref (He.ga X.K x))) (hsup : X.mg "super" = none) (hr : Room 1 X.A) (ha : DA X W [e] fa) (hg : Gl X x := by rfl) (hdb : (x == ("__debug__" : Str)) = false := by decide)
    (hs : starEach [e] X.env = (false, eval e X.env) :: starEach [] X.env := by rfl) (hpl : (backTo p3 (starEach [] X.env)).any (·.1) = false := by rfl) :
    DE X W (.Call (.Name x p1) [e] [] p3) (xMkI c x fld fa) := by
  obtain ⟨⟨t, pt, q⟩, _⟩ := ha
  refine ⟨_, pe_of_mk (pmk_init FN LN FB KF SF T I gx hsup hr hx.gd pt hg hdb hs hpl), fun B σ H ρ st m Q re rs h => ?_⟩
  refine q B σ H ρ st m _ re rs (good_bind h fun ds s1 vs H1 m1 e1 r1 rs1 h1 => ?_)
  match ds, h1, r1 with
  | [d], h1, r1 =>
    obtain ⟨v, r, rfl, rd, r1⟩ := r1.inv_cons
    cases r1.inv_nil
    simp only at h1
    split at h1
    · rename_i hok
      refine ⟨v, rfl, mkOk_show hK rs1 rd hok, fun dx hd => ⟨_, rfl, fun a ha => ?_⟩⟩
      have na : a ≠ dx := fun z => by rw [z, upd_same] at ha; cases ha
      have ha1 : H1 a = none := by rw [← ha]; exact (upd_ne na).symm
      have g : Grow H1 (upd (upd H1 dx (.xd [(fld, v)])) a (ExO a (He.ga X.K x) (some dx))) := (Grow.upd hd).trans (Grow.upd ha)
      refine good_grow h1 g (Rep.exo_iff.mpr ⟨a, dx, [v], rfl, ⟨⟨upd_same, .inr ?_⟩, rs1.fresh ha1, rs1.freshB ha1, rs1.fresh hd, rs1.freshB hd⟩, .cons (Rep.evo g.evo _ _ rd) .nil⟩) rs1
      rw [upd_ne (Ne.symm na)]
      exact upd_same
    · exact h1.elim
  | [], h1, _ => exact h1.elim
  | _ :: _ :: _, h1, _ => exact h1.elim
end
end DL
namespace DL
open PySem PySem.Spec PyProof.Rows L2
variable [TabsCtx]
section
open PySem.W PySem.Calls
variable {prog : Program} {w : World} {A : Around} {E : Value → Shared → Prop} {K : Frag} {x C : Addr} {ob : Obj} {own : Option Obj}
/-- a getset of the type answers ahead of the own dict -/
theorem find_set {n : Str} {a g : Value} (hc : (clsIn K C).isSome = true) (h1 : findIn K (.ref C) n = some (some a)) (h2 : specialIn K a "__get__" = some (some g)) (h3 : takesIn K a = some true) : findObj K C own n = some (.bind g a) := by
  obtain ⟨cd, e⟩ := Option.isSome_iff_exists.mp hc
  simp only [findObj, e, Option.bind_some, h1, h2, h3]
/-- e.__class__ of an exception, whatever it keeps -/
theorem exc_class {s : Shared} {Q : Option Value → Shared → Prop} (c : L2.ExcC K C) (kin : K.In s.heap) (at_ : InstAt s.heap x ob C own) (fin : Q (some (.ref C)) { s with toks := s.toks + 1 }) : wpAny (model prog w) A (getAttr? (.ref x) "__class__") Q E s := by
  have found : findObj K C own "__class__" = some (.bind (.builtin "getset_descriptor.__get__") (.builtin "object.__class__")) := find_set (by obtain ⟨cd, e, _⟩ := any_some c.hd; rw [e]; rfl) c.ha c.hn c.ht
  obtain ⟨hp, gs, dr, tk, os⟩ := s
  have y0 := at_.type (M := model prog w); have y1 := looks_findIn (M := model prog w) kin c.hg
  have y2 := looks_findIn (M := model prog w) kin c.hk; have y3 := looks_find (M := model prog w) kin at_ found
  have isB : Looks (model prog w) hp (isInstance (.ref x) (.type "BaseException")) true := y0.andThen (looks_subIn kin c.hs)
  have n2 : (Value.builtin "BaseException.__getattribute__" == Value.builtin "object.__getattribute__") = false := by decide +kernel
  have n1 : (onTheHeap (Value.ref C) && Value.builtin "BaseException.__getattribute__" == Value.builtin "object.__getattribute__") = false := by rw [n2]; rfl
  have n0 : (false && onTheHeap (Value.builtin "BaseException.__getattribute__")) = false := rfl
  unfold getAttr? getAttrBy? getAttrBy
  refine wpAny_bind (wpAny_mkText (wpAny_bind (wpAny_attempt (wpAny_holding (wpAny_bind (y0.at (wpAny_bind (y1.at ?_))))))))
  show wpAny _ _ (if (onTheHeap (Value.ref C) && Value.builtin "BaseException.__getattribute__" == Value.builtin "object.__getattribute__") = true then _ else _) _ _ _
  rw [n1, if_neg Bool.false_ne_true]; unfold getAttrByItsOwn hookBefore
  refine wpAny_bind ?_; rw [if_pos (show onTheHeap (Value.ref C) = true from rfl)]
  refine y2.at ?_; refine wpAny_bind (wpAny_attempt (wpAny_holding ?_)); unfold callGetattribute
  rw [n0, if_neg Bool.false_ne_true]; unfold boundAndCalled; rw [PySem.F.excAttr_ValueError.ga.bind (.ref x)]
  refine wpAny_bind (wpAny_pure ?_); show wpAny _ _ (call (.builtin "BaseException.__getattribute__") [.ref x, .str "__class__" tk]) _ _ _
  refine wpAny_call (codeAny_call_builtin PySem.F.excAttr_ValueError.ga.plain PySem.F.entry_bexc_ga ?_)
  refine @check_slot (model prog w) _ _ ⟨hp, gs, dr, tk + 1, os⟩ "BaseException.__getattribute__" "BaseException" "__getattribute__" (.ref x) [.str "__class__" tk] [] _ (by decide +kernel) (by decide +kernel) isB (PySem.F.args_bexc_ga (.ref x) (.str "__class__" tk)) ?_
  unfold Builtin.«object.__getattribute__»; refine wpAny_bind (wpAny_of_eq (a := ((Value.ref x : Value), [Value.str "__class__" tk])) (by first | rfl | (simp only [slotArgs]; rfl)) ?_)
  refine wpAny_bind (wpAny_pure (wpAny_bind (y0.at (wpAny_bind (y3.at ?_)))))
  show wpAny _ _ (holding [Value.builtin "object.__class__"] (call (.builtin "getset_descriptor.__get__") [.builtin "object.__class__", .ref x, .ref C]) >>= ret) _ _ _
  refine wpAny_bind (wpAny_holding (wpAny_call (class_get (s := ⟨hp, gs, dr, tk + 1, os⟩) (ox := ob) (od := own) kin at_ c.hm ?_)))
  refine wpAny_pure ?_; show wpAny _ _ (handedOut (.ref C)) _ _ _; rw [handedOut_of (v := .ref C) rfl]
  first
    | exact wpAny_pure (wpAny_pure fin)
    | exact wpAny_pure fin
    | exact wpAny_pure (wpAny_bind (wpAny_pure (wpAny_pure fin)))
theorem kitx_exo (c : L2.ExcC K C) : KitX K (.ref x) (.ref C) (fun h => InstAt h x ob C own) := by
  obtain ⟨cd, e, _⟩ := any_some c.hd
  have there : ∃ c0 d0 sl, K.lookup C = some ⟨c0, d0, .cls cd, sl⟩ := by
    unfold clsIn at e
    split at e
    · rename_i c1 d1 cd1 sl1 ho; cases e; exact ⟨c1, d1, sl1, ho⟩
    · cases e
  obtain ⟨c0, d0, sl, look⟩ := there
  exact { ty := fun _ _ _ I => I.type, ca := fun kin I k => exc_class c kin I k, it := fun _ _ kin _ _ _ _ s k q => by
            unfold isType loadHead
            exact wpAny_bind (wpAny_loadPart (k _ _ (kin _ _ look)) (wpAny_pure q)),
          ne := fun h tp dd its n sl2 kin htp => Bool.eq_false_iff.mpr fun q => by
            have z : C = tp := Value.ref.inj (beq_iff_eq.mp q)
            subst z
            cases (kin _ _ look).symm.trans htp }
end
section
variable {X : Cx} {W : WX} {pos : Pos} {e o : Expr} {es : List Expr} {fa : Fa} {fo fe : Fe} {pins : List (Addr × Obj)} {σ : Sg} {H : Hp} {s : Shared}
/-- the object as the kit's looks want it -/
theorem exo_inst {a C dx : Addr} {f : Str} {vs : List V} (I : Inv X pins σ H s) (h : ExS H a C f dx vs) : ∃ oe od, PySem.W.InstAt s.heap a oe C od ∧ (∀ v, vs = [v] → ∃ oo, od = some oo ∧ ∃ u, RelV v u ∧ PySem.W.lookIn f oo = some (some u)) := by
  obtain ⟨h1, h2⟩ := h
  obtain ⟨⟨oe, xs, he, hz, hd⟩, _, _⟩ := (show ObjOk X.prog X.w H s.heap a (.ext _) from I.hok a _ h1)
  have nc : PySem.W.notCls oe = true := by unfold PySem.W.notCls; rw [hd] <;> rfl
  cases vs with
  | nil => exact ⟨oe, none, ⟨he, hz.1, nc, by rw [show oe.dict = none from hz.2]; trivial⟩, fun v z => by cases z⟩
  | cons v r =>
    rcases h2 with ⟨z, _⟩ | h2
    · cases z
    · obtain ⟨mA, hns, hr⟩ := (show ObjOk X.prog X.w H s.heap dx (.xd ((v :: r).map fun v => (f, v))) from I.hok dx _ h2)
      obtain ⟨oo, ho, hl⟩ := lookIn_ns hns
      refine ⟨oe, some oo, ⟨he, hz.1, nc, by rw [show oe.dict = some dx from hz.2]; exact ho⟩, fun v' z => ?_⟩
      cases z
      have l : (([v] : List V).map fun v => (f, v)).lookup f = some v := by simp [List.lookup]
      obtain ⟨u, hu, ru⟩ := RelO.some_of (v := v) (o := mA f) (by rw [← l]; exact hr f)
      exact ⟨oo, rfl, u, ru, by rw [hl, hu]⟩
def rIsX (K : PySem.W.Frag) : List V → Hp → VK → Prop := fun xs H Q => ∃ (a C dx : Addr) (f : Str) (vs : List V) (c : V) (u : Value) (b : Bool), xs = [.ref a, c] ∧ RelV c u ∧ (∀ z, RelV c z → z = u) ∧ ExS H a C f dx vs ∧ L2.ExcC K C ∧ PySem.W.kitOne K (.ref C) u = some b ∧ Q (.bl b) H
theorem call_isX : CallR X (.builtin "isinstance") (rIsX X.K) := by
  intro pins s σ H xs us Q I r h
  obtain ⟨a, C, dx, f, vs, c, u, b, rfl, rc, one, hs, hc, hk, q⟩ := h
  obtain ⟨u1, u2, rfl, r1, r2⟩ := r.two
  cases (show u1 = Value.ref a from r1)
  cases one _ r2
  obtain ⟨oe, od, J, _⟩ := exo_inst I hs
  exact PySem.W.kia_one (kitx_exo hc) I.kIn J hk (fun z => nomatch z) fun tk => ⟨.bl b, H, I.tok _, rfl, q⟩
end
end DL
namespace DL
open PySem PySem.Spec PyProof.Rows L2
variable [TabsCtx]
theorem exCB_ok {K : PySem.W.Frag} {C : Addr} (h : exCB K C = true) : L2.ExcC K C := by
  unfold exCB at h
  simp only [Bool.and_eq_true, decide_eq_true_eq] at h
  obtain ⟨⟨h1, h2, h3, h4⟩, h5, h6, h7, h8⟩ := h
  exact ⟨h1, h2, h3, h4, h5, h6, h7, h8⟩
structure ExTOk (K : PySem.W.Frag) (T : ExTab) : Prop where
  cls : ∀ p ∈ T.own, L2.ExcC K (He.ga K p.1)
  ys : ∀ p ∈ T.own, ∀ y ∈ T.ys, PySem.W.kitOne K (.ref (He.ga K p.1)) (.ref (He.ga K y)) = some (p.2.1.contains y)
  ns : ∀ p ∈ T.own, ∀ n ∈ T.ns, PySem.W.kitOne K (.ref (He.ga K p.1)) (.type n) = some (p.2.2.contains n)
  fl : ∀ p ∈ T.fl, L2.ExcC K (He.ga K p.1) ∧ PySem.W.findIn K (.ref (He.ga K p.1)) p.2 = some none
theorem exTB_ok {K : PySem.W.Frag} {T : ExTab} (h : exTB K T = true) : ExTOk K T := by
  unfold exTB at h
  simp only [Bool.and_eq_true, List.all_eq_true, decide_eq_true_eq] at h
  exact ⟨fun p hp => exCB_ok (h.1 p hp).1, fun p hp => (h.1 p hp).2.1, fun p hp => (h.1 p hp).2.2, fun p hp => ⟨exCB_ok (h.2 p hp).1, (h.2 p hp).2⟩⟩
def gIsE (T : ExTab) : GL := fun _ ds => match ds with
  | [.exo c _ _, .fn y] => (T.own.find? fun p => decide (p.1 = c)).bind fun p => if y ∈ T.ys then some (.bl (p.2.1.contains y)) else none
  | [.exo c _ _, .ty n] => (T.own.find? fun p => decide (p.1 = c)).bind fun p => if n ∈ T.ns then some (.bl (p.2.2.contains n)) else none
  | _ => none
section
variable {X : Cx} {W : WX} {pos apos : Pos} {e o : Expr} {fo fe : Fe}
theorem dc_isE {T : ExTab} (O : ExTOk X.K T) : DCall X (.builtin "isinstance") (gIsE T) := ⟨_, call_isX, fun B xs H m st ds d Q rs r h q => by
  unfold gIsE at h
  split at h
  · rename_i c f es y
    obtain ⟨p, hp, h⟩ := Option.bind_eq_some_iff.mp h
    obtain ⟨v1, r1, rfl, q1, r⟩ := r.inv_cons
    obtain ⟨v2, r2, rfl, q2, r⟩ := r.inv_cons
    cases r.inv_nil
    split at h
    · rename_i hy
      cases h
      obtain ⟨a, dx, vs, rfl, ⟨he, _⟩, _⟩ := Rep.exo_iff.mp q1
      cases Rep.fn_iff.mp q2
      have hc : p.1 = c := by simpa using List.find?_some hp
      have hm := List.mem_of_find?_eq_some hp
      subst hc
      exact ⟨a, _, dx, f, vs, _, .ref (He.ga X.K y), _, rfl, rfl, fun z hz => hz, he, O.cls p hm, O.ys p hm y hy, q _ H Grow.refl (Rep.bl_iff.mpr rfl)⟩
    · cases h
  · rename_i c f es n
    obtain ⟨p, hp, h⟩ := Option.bind_eq_some_iff.mp h
    obtain ⟨v1, r1, rfl, q1, r⟩ := r.inv_cons
    obtain ⟨v2, r2, rfl, q2, r⟩ := r.inv_cons
    cases r.inv_nil
    split at h
    · rename_i hy
      cases h
      obtain ⟨a, dx, vs, rfl, ⟨he, _⟩, _⟩ := Rep.exo_iff.mp q1
      cases Rep.ty_iff.mp q2
      have hc : p.1 = c := by simpa using List.find?_some hp
      have hm := List.mem_of_find?_eq_some hp
      subst hc
      exact ⟨a, _, dx, f, vs, _, .type n, _, rfl, rfl, fun z hz => hz, he, O.cls p hm, O.ns p hm n hy, q _ H Grow.refl (Rep.bl_iff.mpr rfl)⟩
    · cases h
  · cases h⟩
def tAttX (K : PySem.W.Frag) (te : TE) (n : Str) : TE := fun σ H Q => te σ H fun x H1 => ∃ (a C dx : Addr) (v : V), x = .ref a ∧ ExS H1 a C n dx [v] ∧ L2.ExcC K C ∧ PySem.W.findIn K (.ref C) n = some none ∧ Q v H1
theorem pe_attX {te : TE} {n : Str} (he : PE X e te) (hb : attributeBase e n X.env (eval e X.env) = eval e X.env := by rfl) : PE X (.Attribute e n pos) (tAttX X.K te n) := by
  refine ⟨fun pins s σ H Q I h => ?_⟩
  refine attr_of hb (thn (he.run pins s σ H _ I h) fun u s1 hh => ?_)
  obtain ⟨x, H1, I1, rx, a, C, dx, v, ex, hs, hc, hno, q⟩ := hh
  subst ex
  obtain rfl : u = Value.ref a := rx
  obtain ⟨oe, od, J, kept⟩ := exo_inst I1 hs
  obtain ⟨oo, rfl, w, rw', hl⟩ := kept v rfl
  exact HandSPX.exc_get I1.kIn J hc.hg hc.hk hc.hs (PySem.W.findObj_own hc.hd hno rfl hl) (handed_of rw') ⟨v, H1, I1.tok _, rw', q⟩
def xAttX (T : ExTab) (n : Str) (fo : Fe) : Fe := fun ρ st => (fo ρ st).bind fun d s1 => match d with
  | .exo c f [x] => if f = n ∧ (c, n) ∈ T.fl then .ok x s1 else .fail
  | _ => .fail
theorem de_attX {T : ExTab} {n : Str} (O : ExTOk X.K T) (ho : DE X W o fo) (hb : attributeBase o n X.env (eval o X.env) = eval o X.env := by rfl) : DE X W (.Attribute o n pos) (xAttX T n fo) := by
  obtain ⟨t, p, q⟩ := ho
  refine ⟨_, pe_attX p hb, fun B σ H ρ st m Q re rs h => ?_⟩
  refine q B σ H ρ st m _ re rs (good_bind h fun d s1 v H1 m1 e1 r1 rs1 h1 => ?_)
  split at h1
  · rename_i c f x
    split at h1
    · rename_i hc
      obtain ⟨rfl, hm⟩ := hc
      obtain ⟨a, dx, vs, rfl, ⟨he, _⟩, r2⟩ := Rep.exo_iff.mp r1
      obtain ⟨v, r, rfl, rd, r2⟩ := r2.inv_cons
      cases r2.inv_nil
      exact ⟨a, _, dx, v, rfl, he, (O.fl _ hm).1, (O.fl _ hm).2, good_ok h1 rd rs1⟩
    · exact h1.elim
  · exact h1.elim
def xSplit (fo fe : Fe) : Fe := fun ρ st => (fo ρ st).bind fun a s1 => match a with
  | .str x => (fe ρ s1).bind fun b s2 => match b with
    | .str y => if (y.length == 0) = false ∧ x.length + 2 ≤ sizeLine then .ok (.lst ((Txt.split x y).map .str)) s2 else .fail
    | _ => .fail
  | _ => .fail
theorem repL_strs {K : KB} {H : Hp} {m : List Addr} : ∀ ys : List Str, RepL K H m (ys.map D.str) (ys.map V.str)
  | [] => .nil
  | _ :: ys => .cons (Rep.str_iff.mpr rfl) (repL_strs ys)
theorem de_split (ho : DE X W o fo) (he : DE X W e fe) (hs : starEach [e] X.env = [(false, eval e X.env)] := by rfl) (hbase : attributeBase o "split" X.env (eval o X.env) = eval o X.env := by rfl) (hline : (apos.endLine == pos.line) = true := by rfl) :
    DE X W (.Call (.Attribute o "split" apos) [e] [] pos) (xSplit fo fe) := by
  obtain ⟨t1, p1, q1⟩ := ho
  obtain ⟨t2, p2, q2⟩ := he
  refine ⟨_, pe_split p1 p2 hs hbase hline, fun B σ H ρ st m Q re rs h => ?_⟩
  refine q1 B σ H ρ st m _ re rs (good_bind h fun a s1 v H1 m1 e1 r1 rs1 h1 => ?_)
  cases a with
  | str x =>
    cases Rep.str_iff.mp r1
    refine ⟨⟨x, rfl⟩, q2 B σ H1 ρ s1 m1 _ (re.evo e1) rs1 (good_bind h1 fun b s2 v2 H2 m2 e2 r2 rs2 h2 => ?_)⟩
    cases b with
    | str y =>
      cases Rep.str_iff.mp r2
      simp only at h2
      split at h2
      · rename_i hz
        exact ⟨x, y, rfl, rfl, hz.1, hz.2, fun p hp => good_grow h2 (Grow.upd hp) (Rep.newL rs2 hp (repL_strs _)) rs2⟩
      · exact h2.elim
    | _ => exact h2.elim
  | _ => exact h1.elim
end
end DL
namespace DL
open PySem PySem.Spec PyProof.Rows L2
variable [TabsCtx]
section
variable {X : Cx} {W : WX} {pos apos : Pos} {e o : Expr} {fo fe : Fe} {pins : List (Addr × Obj)} {σ : Sg} {H : Hp} {s : Shared}
theorem d_upd {a b : Addr} {kvs more : List (Key × V)} {Q : Value → Shared → Prop} (I : Inv X pins σ H s) (ne : a ≠ b) (h1 : H a = some (.dK kvs)) (h2 : Rd H b (.dK more)) (hz : kvs.length + more.length ≤ sizeLine) (h : ∀ s', Inv X pins σ (upd H a (.dK (mergeK kvs more))) s' → Q .none s') :
    wpAny (model X.prog X.w) X.A (call (.builtin "dict.update") [.ref a, .ref b]) Q X.xe s := by
  obtain ⟨z, hd, vs, rel, dd⟩ := dk_of I.hok h1
  obtain ⟨z2, hd2, vs2, rel2, dd2⟩ := dk_rd I.hok h2
  refine call_meetsIn PySem.F.slot_dict_update dd.typeIs PySem.F.entry_dict_update (PySem.F.args_dict_update_2 _ _) (meets_dict_update (mixKind X.prog X.w) a b ne hd2)
    ⟨vs, vs2, dd, dd2, by rw [← rel.length, ← rel2.length]; exact hz, fun h' dd' _ hs => h _ ?_⟩
  have he : ∃ q, h'.get? a = some q := let ⟨q, _, _, hq, _⟩ := dd'; ⟨q, hq⟩
  refine d_write (t' := s.toks) I (by rw [h1]; exact True.intro) hs he (dk_new ?_ hd (KV.merge rel2 rel) dd')
  have lm : ∀ (more kvs : List (Key × V)), (mergeK kvs more).length ≤ kvs.length + more.length := by
    intro more
    induction more with
    | nil => intro kvs; simp [mergeK]
    | cons x r ih =>
      intro kvs
      have := ih (putK kvs x.1 x.2)
      have l1 := length_putK kvs x.1 x.2
      show (mergeK (putK kvs x.1 x.2) r).length ≤ _
      simp only [List.length_cons]
      omega
  exact Nat.le_trans (lm more kvs) hz
def tUpd (td te : TE) : TE := fun σ H Q => td σ H fun x H1 => ∃ a, x = .ref a ∧ IsD H1 a ∧ te σ H1 fun y H2 => ∃ b kvs more, y = .ref b ∧ a ≠ b ∧ H2 a = some (.dK kvs) ∧ Rd H2 b (.dK more) ∧ kvs.length + more.length ≤ sizeLine ∧ Q .non (upd H2 a (.dK (mergeK kvs more)))
theorem pe_upd {td te : TE} (ho : PE X o td) (he : PE X e te) (m : M1 X o "update" apos e pos) : PE X (.Call (.Attribute o "update" apos) [e] [] pos) (tUpd td te) := by
  refine ⟨fun pins s σ H Q I h => ?_⟩
  refine wpAny_Call_method m.base m.few m.line PySem.F.plainAttrs_dict PySem.F.slot_dict_update PySem.F.type_dict_update (thn (ho.run pins s σ H _ I h) fun u s1 ⟨x, H1, I1, rx, a, ex, d, q1⟩ => ?_)
  subst ex
  obtain rfl : u = Value.ref a := rx
  obtain ⟨t1, t2, _⟩ := isD_at I1 d
  refine ⟨t1, t2, ?_⟩
  rw [m.trees]
  refine Calls.callWith_builtin rfl (Calls.evalArgs_plain (Calls.spliced_cons (thn (he.run pins s1 σ H1 _ I1 q1) fun iv s2 ⟨y, H2, I2, ry, b, kvs, more, ey, ne, h1, h2, hz, q2⟩ => Calls.spliced_nil ?_)))
  subst ey
  obtain rfl : iv = Value.ref b := ry
  exact d_upd I2 ne h1 h2 hz fun s' I' => ⟨.non, _, I', rfl, q2⟩
/-- o.update({..}), o a held dict -/
def xUpd (fo fe : Fe) : Fe := fun ρ st => (fo ρ st).bind fun od s1 => match od with
  | .loc l => match s1[l]? with
    | some (.dic _) => (fe ρ s1).bind fun d s2 => match d, s2[l]? with
      | .dct ks ds, some (.dic kvs) => if kvs.length + ks.length ≤ sizeLine then .ok .non (s2.set l (.dic (mergeD kvs (ks.zip ds)))) else .fail
      | _, _ => .fail
    | _ => .fail
  | _ => .fail
theorem RepP.zipL {K : KB} {H : Hp} {m : List Addr} : ∀ {ks : List Key} {ds : List D} {vs : List V}, RepL K H m ds vs → RepP K H m (ks.zip ds) (ks.zip vs)
  | [], _, _, _ => rfl
  | _ :: _, [], _, r => by cases r.inv_nil; rfl
  | k :: ks, d :: ds, _, r => by
    obtain ⟨v, r', rfl, h1, h2⟩ := r.inv_cons
    exact ⟨v, ks.zip r', rfl, h1, RepP.zipL h2⟩
theorem de_upd (ho : DE X W o fo) (he : DE X W e fe) (m : M1 X o "update" apos e pos) : DE X W (.Call (.Attribute o "update" apos) [e] [] pos) (xUpd fo fe) := by
  obtain ⟨t1, p1, q1⟩ := ho
  obtain ⟨t2, p2, q2⟩ := he
  refine ⟨_, pe_upd p1 p2 m, fun B σ H ρ st mm Q re rs h => ?_⟩
  refine q1 B σ H ρ st mm _ re rs (good_bind h fun od s1 v H1 m1 e1 r1 rs1 h1 => ?_)
  cases od with
  | loc l =>
    simp only at h1
    split at h1
    · rename_i kv0 hl
      obtain ⟨a, rfl, hm⟩ := Rep.loc_iff.mp r1
      obtain ⟨a', hm', vs0, z1, _⟩ := rs1.cell l _ hl
      rw [hm] at hm'; cases hm'
      refine ⟨a, rfl, .inl ⟨vs0, .inl z1⟩, ?_⟩
      refine q2 B σ H1 ρ s1 m1 _ (re.evo e1) rs1 (good_bind h1 fun d s2 w H2 m2 e2 r2 rs2 h2 => ?_)
      split at h2
      · rename_i ks ds kvs hl2
        split at h2
        · rename_i hz
          obtain ⟨b, vs, rfl, ⟨ob, hb⟩, hlen, rv⟩ := Rep.dct_iff.mp r2
          obtain ⟨a2, hm2, vs2, y1, y2⟩ := rs2.cell l _ hl2
          rw [e2.get hm] at hm2; cases hm2
          have ne : a ≠ b := fun z => by rw [z, hb] at y1; cases y1
          have lz : (ks.zip vs).length = ks.length := by rw [List.length_zip, ← rv.length, ← hlen, Nat.min_self]
          refine ⟨b, vs2, ks.zip vs, rfl, ne, y1, .inr ⟨ob, hb⟩, by rw [lz, ← y2.length]; exact hz, ?_⟩
          have ev : Evo H2 m2 (upd H2 a (.dK (mergeK vs2 (ks.zip vs)))) m2 := .write (e2.get hm) (fun _ _ z => by rw [y1] at z; cases z)
          refine h2 .non _ m2 ev (Rep.non_iff.mpr rfl) ?_
          exact rs2.write (e2.get hm) (fun z => by rw [y1] at z; cases z) (fun _ _ z => by rw [y1] at z; cases z) ⟨_, upd_same, RepP.evo ev _ _ (RepP.merge y2 (RepP.zipL rv))⟩
        · exact h2.elim
      · exact h2.elim
    · exact h1.elim
  | _ => exact h1.elim
def xDispN (f : Fp) : Fe := fun ρ st => (f ρ st).bind fun kvs s1 => if kvs.length ≤ 15 then .ok (.loc s1.length) (s1 ++ [.dic (mergeD [] kvs)]) else .fail
theorem de_dispN {ks : List (Option Expr)} {vs : List Expr} {f : Fp} (h : DPp X W pos ks vs f) (hall : ks.all (·.isSome) = true := by rfl) (hl : ks.length = vs.length := by rfl) (h0 : ks ≠ [] := by intro z; cases z) (h15 : ks.length ≤ 15 := by decide) : DE X W (.Dict ks vs pos) (xDispN f) := by
  obtain ⟨trs, p, q⟩ := h
  refine ⟨_, pe_disp p hall hl h0 h15, fun B σ H ρ st m Q re rs h p hp => ?_⟩
  have g : Grow H (upd H p (.dK [])) := Grow.upd hp
  have rs0 : RepSt ⟨X.K, p :: B⟩ (upd H p (.dK [])) m st := rs.banB hp
  have reB : RepE ⟨X.K, p :: B⟩ (upd H p (.dK [])) m ρ σ := (re.ban fun b hb => (List.mem_cons.mp hb).elim (fun z => .inr (by rw [z]; exact hp)) .inl).evo g.evo
  refine q (p :: B) σ (upd H p (.dK [])) ρ st m _ reB rs0 ?_
  unfold xDispN at h
  cases er : f ρ st with
  | fail => rw [er] at h; exact h.elim
  | exc c fs s1 =>
    rw [er] at h
    intro dx H' m' e1 rx rs1
    refine h dx H' m' (g.evo.trans e1) ?_ rs1.weakB
    cases fs with
    | none => exact rx
    | some l =>
      obtain ⟨a, vs, x1, x2, x3, x4⟩ := rx
      exact ⟨a, vs, x1, x2, x3, x4.ban fun b hb => .inl (List.mem_cons_of_mem _ hb)⟩
  | ok kvs s1 =>
    rw [er] at h
    simp only [Res.bind_ok] at h
    intro ps H1 m1 e1 r1 rs1
    obtain ⟨ws, rfl, hw⟩ := r1
    have hH1 : H1 p = some (.dK []) ∧ p ∉ m1 := e1.keep p _ upd_same (rs.fresh hp) (fun _ z => nomatch z)
    split at h
    · rename_i hz
      refine ⟨hH1.1, ws, rfl, by rw [← hw.length]; exact hz, ?_⟩
      have hnf : ∀ o' u', H1 p ≠ some (.frz o' u') := fun _ _ z => by rw [hH1.1] at z; cases z
      have rs2 : RepSt ⟨X.K, p :: B⟩ (upd H1 p (.dK (mergeK [] ws))) m1 s1 := by
        refine ⟨fun b hb => ?_, rs1.len, rs1.nd, fun l c q => ?_, fun p' hp' => ?_⟩
        · obtain ⟨⟨u', e, z0⟩, n⟩ := rs1.ban b hb
          refine ⟨?_, n⟩
          by_cases z : b = p
          · rw [z]; exact ⟨_, upd_same, fun _ z => nomatch z⟩
          · exact ⟨u', by rw [upd_ne z]; exact e, z0⟩
        · obtain ⟨a, h1, h2⟩ := rs1.cell l c q
          have ha : a ≠ p := fun z => hH1.2 (by rw [← z]; exact List.mem_of_getElem? h1)
          refine ⟨a, h1, ?_⟩
          cases c with
          | lst ds => obtain ⟨vs, x, y⟩ := h2; exact ⟨vs, by rw [upd_ne ha]; exact x, y.updB (by simp) hnf⟩
          | dic kvs => obtain ⟨vs, x, y⟩ := h2; exact ⟨vs, by rw [upd_ne ha]; exact x, y.updB (by simp) hnf⟩
          | dik kvs => obtain ⟨o2, vs, x, y⟩ := h2; exact ⟨o2, vs, by rw [upd_ne ha]; exact x, y.updB (by simp) hnf⟩
          | ins C fs =>
            obtain ⟨dx, vs, x, z, n, nb, y⟩ := h2
            exact ⟨dx, vs, by rw [upd_ne ha]; exact x, by rw [upd_ne (fun w => nb (by rw [w]; simp))]; exact z, n, nb, y.updB (by simp) hnf⟩
        · obtain ⟨ps, h1, n1, h2, h3⟩ := rs1.tabs p' hp'
          refine ⟨ps, by rw [upd_ne (fun z => by rw [z, hH1.1] at h1; cases h1)]; exact h1, n1, h2, fun pos cv hc => ?_⟩
          obtain ⟨c, x1, x2, x3⟩ := h3 pos cv hc
          exact ⟨c, x1, by rw [upd_ne (fun z => by rw [z, hH1.1] at x2; exact codeO_dK _ (Option.some.inj x2).symm)]; exact x2, x3⟩
      have hm2 : RepP ⟨X.K, p :: B⟩ (upd H1 p (.dK (mergeK [] ws))) m1 (mergeD [] kvs) (mergeK [] ws) := RepP.updB (by simp) hnf (RepP.merge (kvs := []) (vs := []) rfl hw)
      have ev : Evo H m (upd H1 p (.dK (mergeK [] ws))) m1 := by
        refine ⟨(g.evo.trans e1).ext, fun a u x n z => ?_, fun p' hp' t => rs2.tabs p' hp', fun a o' u x => by rw [upd_ne (fun w => by rw [w, hp] at x; cases x)]; exact (g.evo.trans e1).frz a o' u x⟩
        obtain ⟨x1, x2⟩ := (g.evo.trans e1).keep a u x n z
        exact ⟨by rw [upd_ne (fun w => by rw [w, hp] at x; cases x)]; exact x1, x2⟩
      obtain ⟨a1, a2, a3⟩ := dcp_finN (Evo.refl (H := H) (m := m)) hp (rs.freshB hp) ev rs2 upd_same hm2
      exact h _ _ _ a1 a2 a3
    · exact h.elim
end
end DL
namespace DL
open PySem PySem.Spec PyProof.Rows L2
variable [TabsCtx]
theorem line_ValueError : Line "ValueError" [.type "ValueError", .type "Exception", .type "BaseException", .type "object"] := ⟨by decide +kernel, by decide +kernel, by decide +kernel⟩
theorem line_KeyError : Line "LookupError" [.type "KeyError", .type "LookupError", .type "Exception", .type "BaseException", .type "object"] := ⟨by decide +kernel, by decide +kernel, by decide +kernel⟩
theorem line_IndexError : Line "IndexError" [.type "IndexError", .type "LookupError", .type "Exception", .type "BaseException", .type "object"] := ⟨by decide +kernel, by decide +kernel, by decide +kernel⟩
theorem line_OverflowError : Line "OverflowError" [.type "OverflowError", .type "ArithmeticError", .type "Exception", .type "BaseException", .type "object"] := ⟨by decide +kernel, by decide +kernel, by decide +kernel⟩
theorem line_ArithmeticError : Line "ArithmeticError" [.type "ArithmeticError", .type "Exception", .type "BaseException", .type "object"] := ⟨by decide +kernel, by decide +kernel, by decide +kernel⟩
theorem line_LookupError : Line "LookupError" [.type "LookupError", .type "Exception", .type "BaseException", .type "object"] := ⟨by decide +kernel, by decide +kernel, by decide +kernel⟩
theorem initF_ValueError : InitF "ValueError" "ValueError.__init__" := .of PySem.F.excBase_ValueError.toExcCallFacts
theorem initF_IndexError : InitF "IndexError" "IndexError.__init__" := .of PySem.F.excBase_IndexError.toExcCallFacts
theorem initF_OverflowError : InitF "OverflowError" "OverflowError.__init__" := .of PySem.F.excBase_OverflowError.toExcCallFacts
theorem initF_ArithmeticError : InitF "ArithmeticError" "ArithmeticError.__init__" := .of PySem.F.excBase_ArithmeticError.toExcCallFacts
theorem initF_LookupError : InitF "LookupError" "LookupError.__init__" := .of PySem.F.excBase_LookupError.toExcCallFacts
theorem boot_ValueError : bootBuiltins "ValueError" = some (.type "ValueError") := by decide +kernel
theorem boot_KeyError : bootBuiltins "KeyError" = some (.type "KeyError") := by decide +kernel
theorem boot_IndexError : bootBuiltins "IndexError" = some (.type "IndexError") := by decide +kernel
theorem boot_OverflowError : bootBuiltins "OverflowError" = some (.type "OverflowError") := by decide +kernel
theorem boot_ArithmeticError : bootBuiltins "ArithmeticError" = some (.type "ArithmeticError") := by decide +kernel
theorem boot_LookupError : bootBuiltins "LookupError" = some (.type "LookupError") := by decide +kernel
end DL
set_option maxHeartbeats 0
namespace K10
open PySem PySem.Spec PyProof.Rows L2 DL
theorem it_ParseError : InitText (-1) (defArgs iS_ParseError) (defBody iS_ParseError) (defScope iS_ParseError) "self" "line" "line" := ⟨⟨_, _, _, _, _, _, _, _, _, _, .b (by decide), rfl, rfl⟩, fun _ _ _ _ _ _ _ _ _ _ _ => BindsTo.of_eq rfl, ⟨_, rfl, rfl⟩, by decide +kernel, rfl, rfl, by decide, rfl, rfl, rfl, rfl, rfl, rfl, rfl⟩
theorem it_UnknownName : InitText (114) (defArgs iS_UnknownName) (defBody iS_UnknownName) (defScope iS_UnknownName) "self" "wanted" "wanted" := ⟨⟨_, _, _, _, _, _, _, _, _, _, .a (by decide), rfl, rfl⟩, fun _ _ _ _ _ _ _ _ _ _ _ => BindsTo.of_eq rfl, ⟨_, rfl, rfl⟩, by decide +kernel, rfl, rfl, by decide, rfl, rfl, rfl, rfl, rfl, rfl, rfl⟩
theorem it_InvalidCount : InitText (114) (defArgs iS_InvalidCount) (defBody iS_InvalidCount) (defScope iS_InvalidCount) "self" "given" "given" := ⟨⟨_, _, _, _, _, _, _, _, _, _, .a (by decide), rfl, rfl⟩, fun _ _ _ _ _ _ _ _ _ _ _ => BindsTo.of_eq rfl, ⟨_, rfl, rfl⟩, by decide +kernel, rfl, rfl, by decide, rfl, rfl, rfl, rfl, rfl, rfl, rfl⟩
theorem it_TooMany : InitText (114) (defArgs iS_TooMany) (defBody iS_TooMany) (defScope iS_TooMany) "self" "limit" "limit" := ⟨⟨_, _, _, _, _, _, _, _, _, _, .b (by decide), rfl, rfl⟩, fun _ _ _ _ _ _ _ _ _ _ _ => BindsTo.of_eq rfl, ⟨_, rfl, rfl⟩, by decide +kernel, rfl, rfl, by decide, rfl, rfl, rfl, rfl, rfl, rfl, rfl⟩
theorem it_Refused : InitText (114) (defArgs iS_Refused) (defBody iS_Refused) (defScope iS_Refused) "self" "reason" "reason" := ⟨⟨_, _, _, _, _, _, _, _, _, _, .c, rfl, rfl⟩, fun _ _ _ _ _ _ _ _ _ _ _ => BindsTo.of_eq rfl, ⟨_, rfl, rfl⟩, by decide +kernel, rfl, rfl, by decide, rfl, rfl, rfl, rfl, rfl, rfl, rfl⟩
theorem it_NothingToUndo : InitText (114) (defArgs iS_NothingToUndo) (defBody iS_NothingToUndo) (defScope iS_NothingToUndo) "self" "wanted" "wanted" := ⟨⟨_, _, _, _, _, _, _, _, _, _, .a (by decide), rfl, rfl⟩, fun _ _ _ _ _ _ _ _ _ _ _ => BindsTo.of_eq rfl, ⟨_, rfl, rfl⟩, by decide +kernel, rfl, rfl, by decide, rfl, rfl, rfl, rfl, rfl, rfl, rfl⟩
end K10
namespace K10
open PySem PySem.Spec PyProof.Rows L2 DL
variable [TabsCtx]
structure Txt (P : Program) (K : PySem.W.Frag) (mg : Str → Option Value) (base : Heap) : Prop where
  d__law_dice : ∃ fd, mg "_law_dice" = some (.ref (He.ga K "_law_dice")) ∧ FnP K "_law_dice" "_law_dice" (topS 17) (He.ga K "_law_dice") fd
  d__law_words : ∃ fd, mg "_law_words" = some (.ref (He.ga K "_law_words")) ∧ FnP K "_law_words" "_law_words" (topS 20) (He.ga K "_law_words") fd
  d__law_roll : ∃ fd, mg "_law_roll" = some (.ref (He.ga K "_law_roll")) ∧ FnP K "_law_roll" "_law_roll" (topS 18) (He.ga K "_law_roll") fd
  d__law_pick : ∃ fd, mg "_law_pick" = some (.ref (He.ga K "_law_pick")) ∧ FnP K "_law_pick" "_law_pick" (topS 19) (He.ga K "_law_pick") fd
  d__law_keeping : ∃ fd, mg "_law_keeping" = some (.ref (He.ga K "_law_keeping")) ∧ FnP K "_law_keeping" "_law_keeping" (topS 22) (He.ga K "_law_keeping") fd
  d__law_due : ∃ fd, mg "_law_due" = some (.ref (He.ga K "_law_due")) ∧ FnP K "_law_due" "_law_due" (topS 23) (He.ga K "_law_due") fd
  d__law_plain : ∃ fd, mg "_law_plain" = some (.ref (He.ga K "_law_plain")) ∧ FnP K "_law_plain" "_law_plain" (topS 21) (He.ga K "_law_plain") fd
  d_law : ∃ fd, mg "law" = some (.ref (He.ga K "law")) ∧ FnP K "law" "law" (topS 24) (He.ga K "law") fd
  s_sys : (K.lookup sysModules).isSome = true
  x_ex : ExTOk K exT
  b_len : mg "len" = none
  b_int : mg "int" = none
  b_abs : mg "abs" = none
  b_max : mg "max" = none
  b_isinstance : mg "isinstance" = none
  b_ValueError : mg "ValueError" = none
  b_KeyError : mg "KeyError" = none
  b_IndexError : mg "IndexError" = none
  b_OverflowError : mg "OverflowError" = none
  b_ArithmeticError : mg "ArithmeticError" = none
  b_LookupError : mg "LookupError" = none
  b_zip : mg "zip" = none
  b_super : mg "super" = none
  b_min : mg "min" = none
  b_range : mg "range" = none
  b_str : mg "str" = none
  b_repr : mg "repr" = none
  e_InvalidRow : ExcC K mg "InvalidRow"
  e_InvalidLot : ExcC K mg "InvalidLot"
  e_InvalidBook : ExcC K mg "InvalidBook"
  e_InvalidTable : ExcC K mg "InvalidTable"
  e_InvalidPoly : ExcC K mg "InvalidPoly"
  e_InvalidLaw : ExcC K mg "InvalidLaw"
  e_InvalidTale : ExcC K mg "InvalidTale"
  e_InvalidOperation : ExcC K mg "InvalidOperation"
  e_SeriesError : ExcC K mg "SeriesError"
  i_ParseError : InitC P K (He.ga K "ParseError") (id_ParseError.at_ K) (defArgs iS_ParseError) (defBody iS_ParseError) (defScope iS_ParseError) id_ParseError.fld id_ParseError.base id_ParseError.newId id_ParseError.initId id_ParseError.mro
  j_ParseError : mg "ParseError" = some (.ref (He.ga K "ParseError"))
  i_UnknownName : InitC P K (He.ga K "UnknownName") (id_UnknownName.at_ K) (defArgs iS_UnknownName) (defBody iS_UnknownName) (defScope iS_UnknownName) id_UnknownName.fld id_UnknownName.base id_UnknownName.newId id_UnknownName.initId id_UnknownName.mro
  j_UnknownName : mg "UnknownName" = some (.ref (He.ga K "UnknownName"))
  i_InvalidCount : InitC P K (He.ga K "InvalidCount") (id_InvalidCount.at_ K) (defArgs iS_InvalidCount) (defBody iS_InvalidCount) (defScope iS_InvalidCount) id_InvalidCount.fld id_InvalidCount.base id_InvalidCount.newId id_InvalidCount.initId id_InvalidCount.mro
  j_InvalidCount : mg "InvalidCount" = some (.ref (He.ga K "InvalidCount"))
  i_TooMany : InitC P K (He.ga K "TooMany") (id_TooMany.at_ K) (defArgs iS_TooMany) (defBody iS_TooMany) (defScope iS_TooMany) id_TooMany.fld id_TooMany.base id_TooMany.newId id_TooMany.initId id_TooMany.mro
  j_TooMany : mg "TooMany" = some (.ref (He.ga K "TooMany"))
  i_Refused : InitC P K (He.ga K "Refused") (id_Refused.at_ K) (defArgs iS_Refused) (defBody iS_Refused) (defScope iS_Refused) id_Refused.fld id_Refused.base id_Refused.newId id_Refused.initId id_Refused.mro
  j_Refused : mg "Refused" = some (.ref (He.ga K "Refused"))
  i_NothingToUndo : InitC P K (He.ga K "NothingToUndo") (id_NothingToUndo.at_ K) (defArgs iS_NothingToUndo) (defBody iS_NothingToUndo) (defScope iS_NothingToUndo) id_NothingToUndo.fld id_NothingToUndo.base id_NothingToUndo.newId id_NothingToUndo.initId id_NothingToUndo.mro
  j_NothingToUndo : mg "NothingToUndo" = some (.ref (He.ga K "NothingToUndo"))
def b__law_dice : Fs := (sSeq (sSet 2 (xIf (tVal (xOp gLt (xVar 1) (xCall gLen (aCons (xVar 0) aNil)))) (xCall gInt (aCons (xOp gIx (xVar 0) (xVar 1)) aNil)) (xOp gAdd (xOp gMulT (xC (.int 131)) (xVar 1)) (xC (.int 37))))) (sSeq (sSet 3 (xOp gMod (xCall gInt (aCons (xCall gAbs (aCons (xVar 2) aNil)) aNil)) (xOp gPow (xOp gPow (xC (.int 10)) (xC (.int 53))) (xC (.int 6))))) (sSeq (sSet 4 (xOp gAdd (xOp gAdd (xOp gAdd (xOp gMulT (xOp gMod (xVar 3) (xC (.int 2305843009213693907))) (xC (.int 73))) (xOp gMulT (xC (.int 619)) (xVar 1))) (xOp gMulT (xC (.int 41)) (xCall gInt (aCons (xOp gLt (xVar 2) (xC (.int 0))) aNil)))) (xC (.int 17)))) (sRet (xNew (aCons (xCall gMax (aCons (xC (.int 0)) (aCons (xOp gSub (xVar 3) (xOp gPow (xC (.int 10)) (xC (.int 16)))) aNil))) (aCons (xVar 4) (aCons (xC (.int 0)) aNil))))))))
def F__law_dice : Fd := runD 5 b__law_dice
theorem sc__law_dice : FnScope ["script", "spot", "cell", "great", "seed"] ["script", "spot"] (defScope (topS 17)) := ⟨rfl, rfl, rfl, by decide +kernel, rfl, by decide +kernel, by decide +kernel⟩
theorem ok__law_dice {P : Program} {w : World} {K : PySem.W.Frag} {mg : Str → Option Value} {base : Heap} (T : Txt P K mg base) {fd : FuncData} (D : FnP K "_law_dice" "_law_dice" (topS 17) (He.ga K "_law_dice") fd) : FnG P w K mg base 1 (He.ga K "_law_dice") fd ["script", "spot"] (spD K 2 F__law_dice) := by
  refine (fn_D (N := ["script", "spot", "cell", "great", "seed"]) (ps := ["script", "spot"]) (k := 0) (body := b__law_dice) D sc__law_dice fun cdv A outer s H E hcd hr hx => ?_)
  have hu1 := Nat.lt_trans (Nat.add_lt_add_left (by decide : 1 < 64) _) hr.hu
  exact (db_cons (ds_set (i := 2) hx (de_if (dt_cmp dop_lt (de_var 1) (de_callB dc_len (by rfl) T.b_len boot_len (da_cons (de_var 0) da_nil))) (de_callTy dc_int (by rfl) T.b_int boot_int (da_cons (de_ix dix (de_var 0) (de_var 1)) da_nil)) (de_op dop_add (de_op dop_mulT de_int (de_var 1)) de_int))) (db_cons (ds_set (i := 3) hx (de_op dop_mod (de_callTy dc_int (by rfl) T.b_int boot_int (da_cons (de_callB dc_abs (by rfl) T.b_abs boot_abs (da_cons (de_var 2) da_nil)) da_nil)) (de_op dop_pow (de_op dop_pow de_int de_int) de_int))) (db_cons (ds_set (i := 4) hx (de_op dop_add (de_op dop_add (de_op dop_add (de_op dop_mulT (de_op dop_mod (de_var 3) de_int) de_int) (de_op dop_mulT de_int (de_var 1))) (de_op dop_mulT de_int (de_callTy dc_int (by rfl) T.b_int boot_int (da_cons (de_cmp dop_lt (de_var 2) de_int) da_nil)))) de_int)) (db_one (ds_ret (de_new (da_cons (de_callB (dc_max hx.calm) (by rfl) T.b_max boot_max (da_cons de_int (da_cons (de_op dop_sub (de_var 3) (de_op dop_pow de_int de_int)) da_nil))) (da_cons (de_var 4) (da_cons de_int da_nil)))))))))
def b__law_words : Fs := (sSeq (sSet 1 (xLst (aCons (xCall (gIsE exT) (aCons (xVar 0) (aCons (xC (.fn "InvalidRow")) aNil))) (aCons (xCall (gIsE exT) (aCons (xVar 0) (aCons (xC (.fn "InvalidLot")) aNil))) (aCons (xCall (gIsE exT) (aCons (xVar 0) (aCons (xC (.fn "InvalidBook")) aNil))) aNil))))) (sSeq (sSet 1 (xOp gAdd (xVar 1) (xLst (aCons (xCall (gIsE exT) (aCons (xVar 0) (aCons (xC (.fn "InvalidTable")) aNil))) (aCons (xCall (gIsE exT) (aCons (xVar 0) (aCons (xC (.fn "InvalidPoly")) aNil))) (aCons (xCall (gIsE exT) (aCons (xVar 0) (aCons (xC (.fn "InvalidLaw")) aNil))) aNil)))))) (sSeq (sSet 1 (xOp gAdd (xVar 1) (xLst (aCons (xCall (gIsE exT) (aCons (xVar 0) (aCons (xC (.fn "InvalidTale")) aNil))) (aCons (xCall (gIsE exT) (aCons (xVar 0) (aCons (xC (.fn "InvalidOperation")) aNil))) aNil))))) (sSeq (sSet 1 (xOp gAdd (xVar 1) (xLst (aCons (xCall (gIsE exT) (aCons (xVar 0) (aCons (xC (.fn "ParseError")) aNil))) (aCons (xCall (gIsE exT) (aCons (xVar 0) (aCons (xC (.fn "UnknownName")) aNil))) aNil))))) (sSeq (sSet 1 (xOp gAdd (xVar 1) (xLst (aCons (xCall (gIsE exT) (aCons (xVar 0) (aCons (xC (.fn "InvalidCount")) aNil))) (aCons (xCall (gIsE exT) (aCons (xVar 0) (aCons (xC (.fn "TooMany")) aNil))) (aCons (xCall (gIsE exT) (aCons (xVar 0) (aCons (xC (.fn "Refused")) aNil))) aNil)))))) (sSeq (sSet 1 (xOp gAdd (xVar 1) (xLst (aCons (xCall (gIsE exT) (aCons (xVar 0) (aCons (xC (.fn "NothingToUndo")) aNil))) (aCons (xCall (gIsE exT) (aCons (xVar 0) (aCons (xC (.fn "SeriesError")) aNil))) (aCons (xCall (gIsE exT) (aCons (xVar 0) (aCons (xC (.ty "ValueError")) aNil))) aNil)))))) (sSeq (sSet 1 (xOp gAdd (xVar 1) (xLst (aCons (xCall (gIsE exT) (aCons (xVar 0) (aCons (xC (.ty "KeyError")) aNil))) (aCons (xCall (gIsE exT) (aCons (xVar 0) (aCons (xC (.ty "IndexError")) aNil))) (aCons (xCall (gIsE exT) (aCons (xVar 0) (aCons (xC (.ty "OverflowError")) aNil))) aNil)))))) (sSeq (sSet 1 (xOp gAdd (xVar 1) (xLst (aCons (xCall (gIsE exT) (aCons (xVar 0) (aCons (xC (.ty "ArithmeticError")) aNil))) (aCons (xCall (gIsE exT) (aCons (xVar 0) (aCons (xC (.ty "LookupError")) aNil))) aNil))))) (sSeq (sSet 2 (xC (.str "row lot book table poly law tale operation parse unknown count many refused undo base value key index over"))) (sSeq (sSet 2 (xSplit (xOp gAdd (xVar 2) (xC (.str " arithmetic lookup"))) (xC (.str " ")))) (sRet (xLc (iSt zpI (aCons (xVar 2) (aCons (xVar 1) aNil))) (gT 2 (gsCons (gN 3) (gsCons (gN 4) gsNil))) (tVal (xVar 4)) (xVar 3) [3, 4]))))))))))))
def F__law_words : Fd := runZ 5 b__law_words
theorem sc__law_words : FnScope ["error", "told", "names", "name", "one"] ["error"] (defScope (topS 20)) := ⟨rfl, rfl, rfl, by decide +kernel, rfl, by decide +kernel, by decide +kernel⟩
theorem ok__law_words {P : Program} {w : World} {K : PySem.W.Frag} {mg : Str → Option Value} {base : Heap} (T : Txt P K mg base) {fd : FuncData} (D : FnP K "_law_words" "_law_words" (topS 20) (He.ga K "_law_words") fd) : FnG P w K mg base 1 (He.ga K "_law_words") fd ["error"] (spD K 1 F__law_words) := by
  refine fn_Z (k := 1) (n := 1) (N := 5) (body := b__law_words) (fn_D (N := ["error", "told", "names", "name", "one"]) (ps := ["error"]) (k := 0) (body := b__law_words) D sc__law_words fun cdv A outer s H E hcd hr hx => ?_)
  have hu1 := Nat.lt_trans (Nat.add_lt_add_left (by decide : 1 < 64) _) hr.hu
  exact (db_cons (ds_set (i := 1) hx (de_lst (da_cons (de_callB (dc_isE T.x_ex) (by rfl) T.b_isinstance boot_isinstance (da_cons (de_var 0) (da_cons (de_gfn T.e_InvalidRow.glo) da_nil))) (da_cons (de_callB (dc_isE T.x_ex) (by rfl) T.b_isinstance boot_isinstance (da_cons (de_var 0) (da_cons (de_gfn T.e_InvalidLot.glo) da_nil))) (da_cons (de_callB (dc_isE T.x_ex) (by rfl) T.b_isinstance boot_isinstance (da_cons (de_var 0) (da_cons (de_gfn T.e_InvalidBook.glo) da_nil))) da_nil))))) (db_cons (ds_set (i := 1) hx (de_op dop_add (de_var 1) (de_lst (da_cons (de_callB (dc_isE T.x_ex) (by rfl) T.b_isinstance boot_isinstance (da_cons (de_var 0) (da_cons (de_gfn T.e_InvalidTable.glo) da_nil))) (da_cons (de_callB (dc_isE T.x_ex) (by rfl) T.b_isinstance boot_isinstance (da_cons (de_var 0) (da_cons (de_gfn T.e_InvalidPoly.glo) da_nil))) (da_cons (de_callB (dc_isE T.x_ex) (by rfl) T.b_isinstance boot_isinstance (da_cons (de_var 0) (da_cons (de_gfn T.e_InvalidLaw.glo) da_nil))) da_nil)))))) (db_cons (ds_set (i := 1) hx (de_op dop_add (de_var 1) (de_lst (da_cons (de_callB (dc_isE T.x_ex) (by rfl) T.b_isinstance boot_isinstance (da_cons (de_var 0) (da_cons (de_gfn T.e_InvalidTale.glo) da_nil))) (da_cons (de_callB (dc_isE T.x_ex) (by rfl) T.b_isinstance boot_isinstance (da_cons (de_var 0) (da_cons (de_gfn T.e_InvalidOperation.glo) da_nil))) da_nil))))) (db_cons (ds_set (i := 1) hx (de_op dop_add (de_var 1) (de_lst (da_cons (de_callB (dc_isE T.x_ex) (by rfl) T.b_isinstance boot_isinstance (da_cons (de_var 0) (da_cons (de_gfn T.j_ParseError) da_nil))) (da_cons (de_callB (dc_isE T.x_ex) (by rfl) T.b_isinstance boot_isinstance (da_cons (de_var 0) (da_cons (de_gfn T.j_UnknownName) da_nil))) da_nil))))) (db_cons (ds_set (i := 1) hx (de_op dop_add (de_var 1) (de_lst (da_cons (de_callB (dc_isE T.x_ex) (by rfl) T.b_isinstance boot_isinstance (da_cons (de_var 0) (da_cons (de_gfn T.j_InvalidCount) da_nil))) (da_cons (de_callB (dc_isE T.x_ex) (by rfl) T.b_isinstance boot_isinstance (da_cons (de_var 0) (da_cons (de_gfn T.j_TooMany) da_nil))) (da_cons (de_callB (dc_isE T.x_ex) (by rfl) T.b_isinstance boot_isinstance (da_cons (de_var 0) (da_cons (de_gfn T.j_Refused) da_nil))) da_nil)))))) (db_cons (ds_set (i := 1) hx (de_op dop_add (de_var 1) (de_lst (da_cons (de_callB (dc_isE T.x_ex) (by rfl) T.b_isinstance boot_isinstance (da_cons (de_var 0) (da_cons (de_gfn T.j_NothingToUndo) da_nil))) (da_cons (de_callB (dc_isE T.x_ex) (by rfl) T.b_isinstance boot_isinstance (da_cons (de_var 0) (da_cons (de_gfn T.e_SeriesError.glo) da_nil))) (da_cons (de_callB (dc_isE T.x_ex) (by rfl) T.b_isinstance boot_isinstance (da_cons (de_var 0) (da_cons (de_bty (by rfl) T.b_ValueError boot_ValueError) da_nil))) da_nil)))))) (db_cons (ds_set (i := 1) hx (de_op dop_add (de_var 1) (de_lst (da_cons (de_callB (dc_isE T.x_ex) (by rfl) T.b_isinstance boot_isinstance (da_cons (de_var 0) (da_cons (de_bty (by rfl) T.b_KeyError boot_KeyError) da_nil))) (da_cons (de_callB (dc_isE T.x_ex) (by rfl) T.b_isinstance boot_isinstance (da_cons (de_var 0) (da_cons (de_bty (by rfl) T.b_IndexError boot_IndexError) da_nil))) (da_cons (de_callB (dc_isE T.x_ex) (by rfl) T.b_isinstance boot_isinstance (da_cons (de_var 0) (da_cons (de_bty (by rfl) T.b_OverflowError boot_OverflowError) da_nil))) da_nil)))))) (db_cons (ds_set (i := 1) hx (de_op dop_add (de_var 1) (de_lst (da_cons (de_callB (dc_isE T.x_ex) (by rfl) T.b_isinstance boot_isinstance (da_cons (de_var 0) (da_cons (de_bty (by rfl) T.b_ArithmeticError boot_ArithmeticError) da_nil))) (da_cons (de_callB (dc_isE T.x_ex) (by rfl) T.b_isinstance boot_isinstance (da_cons (de_var 0) (da_cons (de_bty (by rfl) T.b_LookupError boot_LookupError) da_nil))) da_nil))))) (db_cons (ds_set (i := 2) hx de_str) (db_cons (ds_set (i := 2) hx (de_split (de_op dop_add (de_var 2) de_str) de_str)) (db_one (ds_ret (de_lc (own := [("name", 3), ("one", 4)]) hx (di_zp T.b_zip (da_cons (de_var 2) (da_cons (de_var 1) da_nil))) (blkOk_by (by kernel_rfl)) (fun s H C cl fp hy => (dg_tup hy.calm (dgs_cons (dg_name (i := 3) hy.nd) (dgs_cons (dg_name (i := 4) hy.nd) dgs_nil)))) (fun s H C cl fp hy => (dts_one (dt_val (de_var 4)))) (fun s H C cl fp hy => (de_var 3)))))))))))))))
def b__law_roll : Fs := (sSeq (sIf (tVal (xOp gGt (xOp gIx (xVar 0) (xC (.int 0))) (xC (.int 0)))) (sSeq (sSet 4 (xOp gMod (xOp gIx (xVar 0) (xC (.int 0))) (xVar 1))) (sSeq (sPut (xVar 0) (xC (.int 0)) (xOp gFdiv (xOp gIx (xVar 0) (xC (.int 0))) (xVar 1))) (sRet (xCall gInt (aCons (xVar 4) aNil))))) sPass) (sSeq (sPut (xVar 0) (xC (.int 2)) (xOp gAdd (xOp gIx (xVar 0) (xC (.int 2))) (xC (.int 1)))) (sSeq (sSet 2 (xOp gMod (xOp gAdd (xOp gIx (xVar 0) (xC (.int 1))) (xOp gMulT (xC (.int 49979687)) (xOp gIx (xVar 0) (xC (.int 2))))) (xC (.int 2305843009213693951)))) (sSeq (sSet 3 (xOp gAdd (xOp gMulT (xOp gMod (xOp gAdd (xOp gMulT (xVar 2) (xVar 2)) (xOp gMulT (xC (.int 131)) (xOp gIx (xVar 0) (xC (.int 2))))) (xC (.int 2305843009213693921))) (xC (.int 32452843))) (xVar 2))) (sRet (xOp gMod (xCall gInt (aCons (xOp gFdiv (xVar 3) (xC (.int 65587))) aNil)) (xVar 1)))))))
def F__law_roll : Fd := runP 5 b__law_roll
theorem sc__law_roll : FnScope ["dice", "total", "one", "two", "found"] ["dice", "total"] (defScope (topS 18)) := ⟨rfl, rfl, rfl, by decide +kernel, rfl, by decide +kernel, by decide +kernel⟩
theorem ok__law_roll {P : Program} {w : World} {K : PySem.W.Frag} {mg : Str → Option Value} {base : Heap} (T : Txt P K mg base) {fd : FuncData} (D : FnP K "_law_roll" "_law_roll" (topS 18) (He.ga K "_law_roll") fd) : FnG P w K mg base 1 (He.ga K "_law_roll") fd ["dice", "total"] (spD K 2 F__law_roll) := by
  refine fn_P (k := 1) (n := 2) (N := 5) (body := b__law_roll) (fn_D (N := ["dice", "total", "one", "two", "found"]) (ps := ["dice", "total"]) (k := 0) (body := b__law_roll) D sc__law_roll fun cdv A outer s H E hcd hr hx => ?_)
  have hu1 := Nat.lt_trans (Nat.add_lt_add_left (by decide : 1 < 64) _) hr.hu
  exact (db_cons (ds_if (dt_cmp dop_gt (de_ix dix (de_var 0) de_int) de_int) (db_cons (ds_set (i := 4) hx (de_op dop_mod (de_ix dix (de_var 0) de_int) (de_var 1))) (db_cons (ds_put (de_var 0) de_int (de_op dop_fdiv (de_ix dix (de_var 0) de_int) (de_var 1))) (db_one (ds_ret (de_callTy dc_int (by rfl) T.b_int boot_int (da_cons (de_var 4) da_nil)))))) db_nil) (db_cons (ds_put (de_var 0) de_int (de_op dop_add (de_ix dix (de_var 0) de_int) de_int)) (db_cons (ds_set (i := 2) hx (de_op dop_mod (de_op dop_add (de_ix dix (de_var 0) de_int) (de_op dop_mulT de_int (de_ix dix (de_var 0) de_int))) de_int)) (db_cons (ds_set (i := 3) hx (de_op dop_add (de_op dop_mulT (de_op dop_mod (de_op dop_add (de_op dop_mulT (de_var 2) (de_var 2)) (de_op dop_mulT de_int (de_ix dix (de_var 0) de_int))) de_int) de_int) (de_var 2))) (db_one (ds_ret (de_op dop_mod (de_callTy dc_int (by rfl) T.b_int boot_int (da_cons (de_op dop_fdiv (de_var 3) de_int) da_nil)) (de_var 1))))))))
def b__law_pick : Fs := (sRet (xOp gIx (xVar 1) (xApply F__law_roll (aCons (xVar 0) (aCons (xCall gLen (aCons (xVar 1) aNil)) aNil)))))
def F__law_pick : Fd := runP 2 b__law_pick
theorem sc__law_pick : FnScope ["dice", "items"] ["dice", "items"] (defScope (topS 19)) := ⟨rfl, rfl, rfl, by decide +kernel, rfl, by decide +kernel, by decide +kernel⟩
theorem ok__law_pick {P : Program} {w : World} {K : PySem.W.Frag} {mg : Str → Option Value} {base : Heap} (T : Txt P K mg base) {fd : FuncData} (D : FnP K "_law_pick" "_law_pick" (topS 19) (He.ga K "_law_pick") fd) : FnG P w K mg base 2 (He.ga K "_law_pick") fd ["dice", "items"] (spD K 2 F__law_pick) := by
  obtain ⟨fd__law_roll, m__law_roll, D__law_roll⟩ := T.d__law_roll
  have G__law_roll := ok__law_roll (w := w) T D__law_roll
  have B__law_roll := D__law_roll.bindsN (ps := ["dice", "total"]) fun _ _ _ _ _ _ us hl => match us, hl with | [_, _], _ => rfl
  refine fn_P (k := 2) (n := 2) (N := 2) (body := b__law_pick) (fn_D (N := ["dice", "items"]) (ps := ["dice", "items"]) (k := 1) (body := b__law_pick) D sc__law_pick fun cdv A outer s H E hcd hr hx => ?_)
  have hu1 := Nat.lt_trans (Nat.add_lt_add_left (by decide : 1 < 64) _) hr.hu
  exact (db_one (ds_ret (de_ix dix (de_var 1) (de_call G__law_roll (hr.mono (by decide)) hx m__law_roll D__law_roll.kp B__law_roll (da_cons (de_var 0) (da_cons (de_callB dc_len (by rfl) T.b_len boot_len (da_cons (de_var 1) da_nil)) da_nil))))))
def b__law_keeping : Fs := (sSeq (sIf (tVal (xOp gEq (xVar 0) (xC (.str "parse")))) (sSeq (sSet 2 (xMkI (-1) "ParseError" "line" (aCons (xVar 1) aNil))) (sRet (xTup (aCons (xVar 2) (aCons (xAttX exT "line" (xVar 2)) aNil))))) sPass) (sSeq (sIf (tVal (xOp gEq (xVar 0) (xC (.str "unknown")))) (sSeq (sSet 2 (xMkI (114) "UnknownName" "wanted" (aCons (xVar 1) aNil))) (sRet (xTup (aCons (xVar 2) (aCons (xAttX exT "wanted" (xVar 2)) aNil))))) sPass) (sSeq (sIf (tVal (xOp gEq (xVar 0) (xC (.str "count")))) (sSeq (sSet 2 (xMkI (114) "InvalidCount" "given" (aCons (xVar 1) aNil))) (sRet (xTup (aCons (xVar 2) (aCons (xAttX exT "given" (xVar 2)) aNil))))) sPass) (sSeq (sIf (tVal (xOp gEq (xVar 0) (xC (.str "many")))) (sSeq (sSet 2 (xMkI (114) "TooMany" "limit" (aCons (xVar 1) aNil))) (sRet (xTup (aCons (xVar 2) (aCons (xAttX exT "limit" (xVar 2)) aNil))))) sPass) (sSeq (sIf (tVal (xOp gEq (xVar 0) (xC (.str "refused")))) (sSeq (sSet 2 (xMkI (114) "Refused" "reason" (aCons (xVar 1) aNil))) (sRet (xTup (aCons (xVar 2) (aCons (xAttX exT "reason" (xVar 2)) aNil))))) sPass) (sSeq (sSet 2 (xMkI (114) "NothingToUndo" "wanted" (aCons (xVar 1) aNil))) (sRet (xTup (aCons (xVar 2) (aCons (xAttX exT "wanted" (xVar 2)) aNil))))))))))
def F__law_keeping : Fd := runZ 3 b__law_keeping
theorem sc__law_keeping : FnScope ["word", "value", "error"] ["word", "value"] (defScope (topS 22)) := ⟨rfl, rfl, rfl, by decide +kernel, rfl, by decide +kernel, by decide +kernel⟩
theorem ok__law_keeping {P : Program} {w : World} {K : PySem.W.Frag} {mg : Str → Option Value} {base : Heap} (T : Txt P K mg base) {fd : FuncData} (D : FnP K "_law_keeping" "_law_keeping" (topS 22) (He.ga K "_law_keeping") fd) : FnG P w K mg base 2 (He.ga K "_law_keeping") fd ["word", "value"] (spD K 2 F__law_keeping) := by
  refine fn_Z (k := 2) (n := 2) (N := 3) (body := b__law_keeping) (fn_D (N := ["word", "value", "error"]) (ps := ["word", "value"]) (k := 1) (body := b__law_keeping) D sc__law_keeping fun cdv A outer s H E hcd hr hx => ?_)
  have hu1 := Nat.lt_trans (Nat.add_lt_add_left (by decide : 1 < 64) _) hr.hu
  exact (db_cons (ds_if (dt_cmp (dop_eq hr.hu) (de_var 0) de_str) (db_cons (ds_set (i := 2) hx (de_mkI T.s_sys PySem.F.excBase_ValueError line_ValueError initF_ValueError PySem.W.kxs_ValueError PySem.F.store_ValueError hx it_ParseError T.i_ParseError T.j_ParseError T.b_super (hr.mono (by decide)) (da_cons (de_var 1) da_nil))) (db_one (ds_ret (de_tup (da_cons (de_var 2) (da_cons (de_attX T.x_ex (de_var 2)) da_nil)))))) db_nil) (db_cons (ds_if (dt_cmp (dop_eq hr.hu) (de_var 0) de_str) (db_cons (ds_set (i := 2) hx (de_mkI T.s_sys PySem.F.excBase_LookupError line_KeyError initF_KeyError kxs_KeyError store_KeyError hx it_UnknownName T.i_UnknownName T.j_UnknownName T.b_super (hr.mono (by decide)) (da_cons (de_var 1) da_nil))) (db_one (ds_ret (de_tup (da_cons (de_var 2) (da_cons (de_attX T.x_ex (de_var 2)) da_nil)))))) db_nil) (db_cons (ds_if (dt_cmp (dop_eq hr.hu) (de_var 0) de_str) (db_cons (ds_set (i := 2) hx (de_mkI T.s_sys PySem.F.excBase_IndexError line_IndexError initF_IndexError PySem.W.kxs_IndexError PySem.F.store_IndexError hx it_InvalidCount T.i_InvalidCount T.j_InvalidCount T.b_super (hr.mono (by decide)) (da_cons (de_var 1) da_nil))) (db_one (ds_ret (de_tup (da_cons (de_var 2) (da_cons (de_attX T.x_ex (de_var 2)) da_nil)))))) db_nil) (db_cons (ds_if (dt_cmp (dop_eq hr.hu) (de_var 0) de_str) (db_cons (ds_set (i := 2) hx (de_mkI T.s_sys PySem.F.excBase_OverflowError line_OverflowError initF_OverflowError PySem.W.kxs_OverflowError PySem.F.store_OverflowError hx it_TooMany T.i_TooMany T.j_TooMany T.b_super (hr.mono (by decide)) (da_cons (de_var 1) da_nil))) (db_one (ds_ret (de_tup (da_cons (de_var 2) (da_cons (de_attX T.x_ex (de_var 2)) da_nil)))))) db_nil) (db_cons (ds_if (dt_cmp (dop_eq hr.hu) (de_var 0) de_str) (db_cons (ds_set (i := 2) hx (de_mkI T.s_sys PySem.F.excBase_ArithmeticError line_ArithmeticError initF_ArithmeticError PySem.W.kxs_ArithmeticError PySem.F.store_ArithmeticError hx it_Refused T.i_Refused T.j_Refused T.b_super (hr.mono (by decide)) (da_cons (de_var 1) da_nil))) (db_one (ds_ret (de_tup (da_cons (de_var 2) (da_cons (de_attX T.x_ex (de_var 2)) da_nil)))))) db_nil) (db_cons (ds_set (i := 2) hx (de_mkI T.s_sys PySem.F.excBase_LookupError line_LookupError initF_LookupError PySem.W.kxs_LookupError PySem.F.store_LookupError hx it_NothingToUndo T.i_NothingToUndo T.j_NothingToUndo T.b_super (hr.mono (by decide)) (da_cons (de_var 1) da_nil))) (db_one (ds_ret (de_tup (da_cons (de_var 2) (da_cons (de_attX T.x_ex (de_var 2)) da_nil)))))))))))
def b__law_due : Fs := (sSeq (sSet 1 (xDispN (pCons (xC (.str "unknown")) (xLst (aCons (xC (.str "key")) (aCons (xC (.str "lookup")) aNil))) (pCons (xC (.str "count")) (xLst (aCons (xC (.str "index")) (aCons (xC (.str "lookup")) aNil))) (pCons (xC (.str "many")) (xLst (aCons (xC (.str "over")) (aCons (xC (.str "arithmetic")) aNil))) pNil))))) (sSeq (sDrop (xUpd (xVar 1) (xDisp (pCons (xC (.str "refused")) (xLst (aCons (xC (.str "arithmetic")) aNil)) (pCons (xC (.str "undo")) (xLst (aCons (xC (.str "lookup")) aNil)) pNil))))) (sRet (xOp gAdd (xLst (aCons (xVar 0) aNil)) (xGet2 (xVar 1) (xVar 0) (xLst (aCons (xC (.str "base")) (aCons (xC (.str "value")) aNil))))))))
def F__law_due : Fd := runZ 2 b__law_due
theorem sc__law_due : FnScope ["word", "beside"] ["word"] (defScope (topS 23)) := ⟨rfl, rfl, rfl, by decide +kernel, rfl, by decide +kernel, by decide +kernel⟩
theorem ok__law_due {P : Program} {w : World} {K : PySem.W.Frag} {mg : Str → Option Value} {base : Heap} (T : Txt P K mg base) {fd : FuncData} (D : FnP K "_law_due" "_law_due" (topS 23) (He.ga K "_law_due") fd) : FnG P w K mg base 1 (He.ga K "_law_due") fd ["word"] (spD K 1 F__law_due) := by
  refine fn_Z (k := 1) (n := 1) (N := 2) (body := b__law_due) (fn_D (N := ["word", "beside"]) (ps := ["word"]) (k := 0) (body := b__law_due) D sc__law_due fun cdv A outer s H E hcd hr hx => ?_)
  have hu1 := Nat.lt_trans (Nat.add_lt_add_left (by decide : 1 < 64) _) hr.hu
  exact (db_cons (ds_set (i := 1) hx (de_dispN (dpp_cons de_str (de_lst (da_cons de_str (da_cons de_str da_nil))) (dpp_cons de_str (de_lst (da_cons de_str (da_cons de_str da_nil))) (dpp_cons de_str (de_lst (da_cons de_str (da_cons de_str da_nil))) dpp_nil))))) (db_cons (ds_expr (de_upd (de_var 1) (de_disp (dpp_cons de_str (de_lst (da_cons de_str da_nil)) (dpp_cons de_str (de_lst (da_cons de_str da_nil)) dpp_nil))) ⟨rfl, rfl, rfl, rfl⟩)) (db_one (ds_ret (de_op dop_add (de_lst (da_cons (de_var 0) da_nil)) (de_get2 hu1 (de_var 1) (de_var 0) (de_lst (da_cons de_str (da_cons de_str da_nil)))))))))
def b__law_plain : Fs := (sSeq (sIf (tVal (xOp gEq (xVar 0) (xC (.str "row")))) (sRet (xMkE "InvalidRow")) sPass) (sSeq (sIf (tVal (xOp gEq (xVar 0) (xC (.str "lot")))) (sRet (xMkE "InvalidLot")) sPass) (sSeq (sIf (tVal (xOp gEq (xVar 0) (xC (.str "book")))) (sRet (xMkE "InvalidBook")) sPass) (sSeq (sIf (tVal (xOp gEq (xVar 0) (xC (.str "table")))) (sRet (xMkE "InvalidTable")) sPass) (sSeq (sIf (tVal (xOp gEq (xVar 0) (xC (.str "poly")))) (sRet (xMkE "InvalidPoly")) sPass) (sSeq (sIf (tVal (xOp gEq (xVar 0) (xC (.str "law")))) (sRet (xMkE "InvalidLaw")) sPass) (sRet (xIf (tVal (xOp gEq (xVar 0) (xC (.str "operation")))) (xMkE "InvalidOperation") (xMkE "InvalidTale")))))))))
def F__law_plain : Fd := runZ 1 b__law_plain
theorem sc__law_plain : FnScope ["word"] ["word"] (defScope (topS 21)) := ⟨rfl, rfl, rfl, by decide +kernel, rfl, by decide +kernel, by decide +kernel⟩
theorem ok__law_plain {P : Program} {w : World} {K : PySem.W.Frag} {mg : Str → Option Value} {base : Heap} (T : Txt P K mg base) {fd : FuncData} (D : FnP K "_law_plain" "_law_plain" (topS 21) (He.ga K "_law_plain") fd) : FnG P w K mg base 1 (He.ga K "_law_plain") fd ["word"] (spD K 1 F__law_plain) := by
  refine fn_Z (k := 1) (n := 1) (N := 1) (body := b__law_plain) (fn_D (N := ["word"]) (ps := ["word"]) (k := 0) (body := b__law_plain) D sc__law_plain fun cdv A outer s H E hcd hr hx => ?_)
  have hu1 := Nat.lt_trans (Nat.add_lt_add_left (by decide : 1 < 64) _) hr.hu
  exact (db_cons (ds_if (dt_cmp (dop_eq hr.hu) (de_var 0) de_str) (db_one (ds_ret (de_mkE T.e_InvalidRow))) db_nil) (db_cons (ds_if (dt_cmp (dop_eq hr.hu) (de_var 0) de_str) (db_one (ds_ret (de_mkE T.e_InvalidLot))) db_nil) (db_cons (ds_if (dt_cmp (dop_eq hr.hu) (de_var 0) de_str) (db_one (ds_ret (de_mkE T.e_InvalidBook))) db_nil) (db_cons (ds_if (dt_cmp (dop_eq hr.hu) (de_var 0) de_str) (db_one (ds_ret (de_mkE T.e_InvalidTable))) db_nil) (db_cons (ds_if (dt_cmp (dop_eq hr.hu) (de_var 0) de_str) (db_one (ds_ret (de_mkE T.e_InvalidPoly))) db_nil) (db_cons (ds_if (dt_cmp (dop_eq hr.hu) (de_var 0) de_str) (db_one (ds_ret (de_mkE T.e_InvalidLaw))) db_nil) (db_one (ds_ret (de_if (dt_cmp (dop_eq hr.hu) (de_var 0) de_str) (de_mkE T.e_InvalidOperation) (de_mkE T.e_InvalidTale))))))))))
def b_law : Fs := (sSeq (sFor (iRng rng1 (aCons (xCall gMax (aCons (xC (.int 1)) (aCons (xCall gMin (aCons (xC (.int 4)) (aCons (xCall gLenM (aCons (xVar 0) aNil)) aNil))) aNil))) aNil)) (gN 1) (sSeq (sSet 2 (xApply F__law_dice (aCons (xVar 0) (aCons (xVar 1) aNil)))) (sSeq (sSet 3 (xOp gSub (xApply F__law_roll (aCons (xVar 2) (aCons (xOp gPow (xC (.int 10)) (xC (.int 6))) aNil))) (xC (.int 1000)))) (sSeq (sFor (iOfX (xTup (aCons (xC (.str "row")) (aCons (xC (.str "lot")) (aCons (xC (.str "book")) (aCons (xC (.str "table")) (aCons (xC (.str "poly")) (aCons (xC (.str "law")) (aCons (xC (.str "operation")) (aCons (xC (.str "tale")) aNil)))))))))) (gN 4) (sIf (tVal (xOp gNe (xApply F__law_words (aCons (xApply F__law_plain (aCons (xVar 4) aNil)) aNil)) (xApply F__law_due (aCons (xVar 4) aNil)))) (sRet (xC (.bl false))) sPass)) (sFor (iOfX (xTup (aCons (xC (.str "parse")) (aCons (xC (.str "unknown")) (aCons (xC (.str "count")) (aCons (xC (.str "many")) (aCons (xC (.str "refused")) (aCons (xC (.str "undo")) aNil)))))))) (gN 4) (sSeq (sSet 5 (xLst (aCons (xVar 3) (aCons (xCall gStrI (aCons (xVar 3) aNil)) (aCons (xC .non) (aCons (xTup (aCons (xC (.str "ring")) aNil)) (aCons (xC (.bl true)) (aCons (xTup aNil) (aCons (xOp gAdd (xOp gPow (xC (.int 10)) (xC (.int 60))) (xVar 3)) (aCons (xLst (aCons (xVar 3) aNil)) (aCons (xDisp (pCons (xC (.str "a")) (xVar 3) pNil)) aNil))))))))))) (sSeq (sSet 6 (xApply F__law_pick (aCons (xVar 2) (aCons (xIf (tVal (xOp gNe (xVar 4) (xC (.str "parse")))) (xVar 5) (xLst (aCons (xC .non) (aCons (xC (.int 0)) (aCons (xCall gAbs (aCons (xVar 3) aNil)) aNil))))) aNil)))) (sSeq (sAsg (xApply F__law_keeping (aCons (xVar 4) (aCons (xVar 6) aNil))) (gT 2 (gsCons (gN 7) (gsCons (gN 8) gsNil)))) (sIf (tOrF (tVal (xOp gNe (xApply F__law_words (aCons (xVar 7) aNil)) (xApply F__law_due (aCons (xVar 4) aNil)))) (tVal (xOp gNe (xCall gReprX (aCons (xVar 8) aNil)) (xCall gReprX (aCons (xVar 6) aNil))))) (sRet (xC (.bl false))) sPass))))))))) (sRet (xOp gEq (xApply F__law_words (aCons (xMkE "SeriesError") aNil)) (xLst (aCons (xC (.str "base")) (aCons (xC (.str "value")) aNil))))))
def F_law : Fd := runZ 9 b_law
theorem sc_law : FnScope ["script", "spot", "dice", "number", "word", "some", "value", "error", "kept"] ["script"] (defScope (topS 24)) := ⟨rfl, rfl, rfl, by decide +kernel, rfl, by decide +kernel, by decide +kernel⟩
theorem ok_law {P : Program} {w : World} {K : PySem.W.Frag} {mg : Str → Option Value} {base : Heap} (T : Txt P K mg base) {fd : FuncData} (D : FnP K "law" "law" (topS 24) (He.ga K "law") fd) : FnG P w K mg base 3 (He.ga K "law") fd ["script"] (spD K 1 F_law) := by
  obtain ⟨fd__law_dice, m__law_dice, D__law_dice⟩ := T.d__law_dice
  have G__law_dice := ok__law_dice (w := w) T D__law_dice
  have B__law_dice := D__law_dice.bindsN (ps := ["script", "spot"]) fun _ _ _ _ _ _ us hl => match us, hl with | [_, _], _ => rfl
  obtain ⟨fd__law_roll, m__law_roll, D__law_roll⟩ := T.d__law_roll
  have G__law_roll := ok__law_roll (w := w) T D__law_roll
  have B__law_roll := D__law_roll.bindsN (ps := ["dice", "total"]) fun _ _ _ _ _ _ us hl => match us, hl with | [_, _], _ => rfl
  obtain ⟨fd__law_words, m__law_words, D__law_words⟩ := T.d__law_words
  have G__law_words := ok__law_words (w := w) T D__law_words
  have B__law_words := D__law_words.bindsN (ps := ["error"]) fun _ _ _ _ _ _ us hl => match us, hl with | [_], _ => rfl
  obtain ⟨fd__law_plain, m__law_plain, D__law_plain⟩ := T.d__law_plain
  have G__law_plain := ok__law_plain (w := w) T D__law_plain
  have B__law_plain := D__law_plain.bindsN (ps := ["word"]) fun _ _ _ _ _ _ us hl => match us, hl with | [_], _ => rfl
  obtain ⟨fd__law_due, m__law_due, D__law_due⟩ := T.d__law_due
  have G__law_due := ok__law_due (w := w) T D__law_due
  have B__law_due := D__law_due.bindsN (ps := ["word"]) fun _ _ _ _ _ _ us hl => match us, hl with | [_], _ => rfl
  obtain ⟨fd__law_pick, m__law_pick, D__law_pick⟩ := T.d__law_pick
  have G__law_pick := ok__law_pick (w := w) T D__law_pick
  have B__law_pick := D__law_pick.bindsN (ps := ["dice", "items"]) fun _ _ _ _ _ _ us hl => match us, hl with | [_, _], _ => rfl
  obtain ⟨fd__law_keeping, m__law_keeping, D__law_keeping⟩ := T.d__law_keeping
  have G__law_keeping := ok__law_keeping (w := w) T D__law_keeping
  have B__law_keeping := D__law_keeping.bindsN (ps := ["word", "value"]) fun _ _ _ _ _ _ us hl => match us, hl with | [_, _], _ => rfl
  refine fn_Z (k := 3) (n := 1) (N := 9) (body := b_law) (fn_D (N := ["script", "spot", "dice", "number", "word", "some", "value", "error", "kept"]) (ps := ["script"]) (k := 2) (body := b_law) D sc_law fun cdv A outer s H E hcd hr hx => ?_)
  have hu1 := Nat.lt_trans (Nat.add_lt_add_left (by decide : 1 < 64) _) hr.hu
  exact (db_cons (ds_for hx (passes_of rfl) (di_rng1 T.b_range (da_cons (de_callB (dc_max hx.calm) (by rfl) T.b_max boot_max (da_cons de_int (da_cons (de_callB (dc_min hx.calm) (by rfl) T.b_min boot_min (da_cons de_int (da_cons (de_callB dc_lenM (by rfl) T.b_len boot_len (da_cons (de_var 0) da_nil)) da_nil))) da_nil))) da_nil)) (dg_name (i := 1) hx.nd) (db_cons (ds_set (i := 2) hx (de_call G__law_dice (hr.mono (by decide)) hx m__law_dice D__law_dice.kp B__law_dice (da_cons (de_var 0) (da_cons (de_var 1) da_nil)))) (db_cons (ds_set (i := 3) hx (de_op dop_sub (de_call G__law_roll (hr.mono (by decide)) hx m__law_roll D__law_roll.kp B__law_roll (da_cons (de_var 2) (da_cons (de_op dop_pow de_int de_int) da_nil))) de_int)) (db_cons (ds_for hx (passes_of rfl) (di_seqX (de_tup (da_cons de_str (da_cons de_str (da_cons de_str (da_cons de_str (da_cons de_str (da_cons de_str (da_cons de_str (da_cons de_str da_nil)))))))))) (dg_name (i := 4) hx.nd) (db_one (ds_if (dt_cmp (dop_ne hr.hu) (de_call G__law_words (hr.mono (by decide)) hx m__law_words D__law_words.kp B__law_words (da_cons (de_call G__law_plain (hr.mono (by decide)) hx m__law_plain D__law_plain.kp B__law_plain (da_cons (de_var 4) da_nil)) da_nil)) (de_call G__law_due (hr.mono (by decide)) hx m__law_due D__law_due.kp B__law_due (da_cons (de_var 4) da_nil))) (db_one (ds_ret de_bl)) db_nil))) (db_one (ds_for hx (passes_of rfl) (di_seqX (de_tup (da_cons de_str (da_cons de_str (da_cons de_str (da_cons de_str (da_cons de_str (da_cons de_str da_nil)))))))) (dg_name (i := 4) hx.nd) (db_cons (ds_set (i := 5) hx (de_lst (da_cons (de_var 3) (da_cons (de_callTy dc_strI (by rfl) T.b_str boot_str (da_cons (de_var 3) da_nil)) (da_cons de_non (da_cons (de_tup (da_cons de_str da_nil)) (da_cons de_bl (da_cons (de_tup da_nil) (da_cons (de_op dop_add (de_op dop_pow de_int de_int) (de_var 3)) (da_cons (de_lst (da_cons (de_var 3) da_nil)) (da_cons (de_disp (dpp_cons de_str (de_var 3) dpp_nil)) da_nil))))))))))) (db_cons (ds_set (i := 6) hx (de_call G__law_pick (hr.mono (by decide)) hx m__law_pick D__law_pick.kp B__law_pick (da_cons (de_var 2) (da_cons (de_if (dt_cmp (dop_ne hr.hu) (de_var 4) de_str) (de_var 5) (de_lst (da_cons de_non (da_cons de_int (da_cons (de_callB dc_abs (by rfl) T.b_abs boot_abs (da_cons (de_var 3) da_nil)) da_nil))))) da_nil)))) (db_cons (ds_asg (de_call G__law_keeping (hr.mono (by decide)) hx m__law_keeping D__law_keeping.kp B__law_keeping (da_cons (de_var 4) (da_cons (de_var 6) da_nil))) (dg_tup hx.calm (dgs_cons (dg_name (i := 7) hx.nd) (dgs_cons (dg_name (i := 8) hx.nd) dgs_nil)))) (db_one (ds_if (DW.dt (dw_or (dt_cmp (dop_ne hr.hu) (de_call G__law_words (hr.mono (by decide)) hx m__law_words D__law_words.kp B__law_words (da_cons (de_var 7) da_nil)) (de_call G__law_due (hr.mono (by decide)) hx m__law_due D__law_due.kp B__law_due (da_cons (de_var 4) da_nil))) (dw_or1 (dt_cmp (dop_ne hr.hu) (de_callB (dc_reprX T.s_sys hx.gd hr.hu) (by rfl) T.b_repr boot_repr (da_cons (de_var 8) da_nil)) (de_callB (dc_reprX T.s_sys hx.gd hr.hu) (by rfl) T.b_repr boot_repr (da_cons (de_var 6) da_nil)))))) (db_one (ds_ret de_bl)) db_nil))))))))))) (db_one (ds_ret (de_cmp (dop_eq hr.hu) (de_call G__law_words (hr.mono (by decide)) hx m__law_words D__law_words.kp B__law_words (da_cons (de_mkE T.e_SeriesError) da_nil)) (de_lst (da_cons de_str (da_cons de_str da_nil)))))))
def cs (K : PySem.W.Frag) : List (Addr × Addr × Str) := []
theorem cs_ok {h : Heap} {K : PySem.W.Frag} (c : look.Says h K) : ∀ p ∈ cs K, PySem.W.codeHdIn K p.1 p.2.1 = true ∧ K.lookup p.2.1 = none ∧ h.get? p.2.1 = some { cls := .none, data := .fields #[] } := by
  intro p hp
  simp only [cs, List.mem_cons, List.not_mem_nil, or_false] at hp
  first | done | exact hp.elim
theorem txt_of {h : Heap} {K : PySem.W.Frag} {base : Heap} {mg : Str → Option Value} (X : K.In base) (G : base.Ns mainGlobals mg) (c : look.Says h K) (TB : ∀ p ∈ cs K, LamX.TabB base mg p.1 p.2.1) (hT : TabsCtx.T = (cs K).map fun p => p.2) : Txt pw K mg base where
  d__law_dice := by
    obtain ⟨fd, F⟩ := c.fn _ (List.mem_of_getElem? (i := 0) (show fns[0]? = some _ from rfl))
    exact ⟨fd, He.glo_ok X G (c.fa (.glo "_law_dice") (List.mem_of_getElem? (i := 0) rfl)), F⟩
  d__law_words := by
    obtain ⟨fd, F⟩ := c.fn _ (List.mem_of_getElem? (i := 1) (show fns[1]? = some _ from rfl))
    exact ⟨fd, He.glo_ok X G (c.fa (.glo "_law_words") (List.mem_of_getElem? (i := 1) rfl)), F⟩
  d__law_roll := by
    obtain ⟨fd, F⟩ := c.fn _ (List.mem_of_getElem? (i := 2) (show fns[2]? = some _ from rfl))
    exact ⟨fd, He.glo_ok X G (c.fa (.glo "_law_roll") (List.mem_of_getElem? (i := 2) rfl)), F⟩
  d__law_pick := by
    obtain ⟨fd, F⟩ := c.fn _ (List.mem_of_getElem? (i := 3) (show fns[3]? = some _ from rfl))
    exact ⟨fd, He.glo_ok X G (c.fa (.glo "_law_pick") (List.mem_of_getElem? (i := 3) rfl)), F⟩
  d__law_keeping := by
    obtain ⟨fd, F⟩ := c.fn _ (List.mem_of_getElem? (i := 4) (show fns[4]? = some _ from rfl))
    exact ⟨fd, He.glo_ok X G (c.fa (.glo "_law_keeping") (List.mem_of_getElem? (i := 4) rfl)), F⟩
  d__law_due := by
    obtain ⟨fd, F⟩ := c.fn _ (List.mem_of_getElem? (i := 5) (show fns[5]? = some _ from rfl))
    exact ⟨fd, He.glo_ok X G (c.fa (.glo "_law_due") (List.mem_of_getElem? (i := 5) rfl)), F⟩
  d__law_plain := by
    obtain ⟨fd, F⟩ := c.fn _ (List.mem_of_getElem? (i := 6) (show fns[6]? = some _ from rfl))
    exact ⟨fd, He.glo_ok X G (c.fa (.glo "_law_plain") (List.mem_of_getElem? (i := 6) rfl)), F⟩
  d_law := by
    obtain ⟨fd, F⟩ := c.fn _ (List.mem_of_getElem? (i := 7) (show fns[7]? = some _ from rfl))
    exact ⟨fd, He.glo_ok X G (c.fa (.glo "law") (List.mem_of_getElem? (i := 7) rfl)), F⟩
  s_sys := c.sys
  x_ex := exTB_ok (all_at c.ex 0 rfl)
  b_len := He.free_ok X G (c.fa (.free "len") (List.mem_of_getElem? (i := 23) rfl))
  b_int := He.free_ok X G (c.fa (.free "int") (List.mem_of_getElem? (i := 24) rfl))
  b_abs := He.free_ok X G (c.fa (.free "abs") (List.mem_of_getElem? (i := 25) rfl))
  b_max := He.free_ok X G (c.fa (.free "max") (List.mem_of_getElem? (i := 26) rfl))
  b_isinstance := He.free_ok X G (c.fa (.free "isinstance") (List.mem_of_getElem? (i := 27) rfl))
  b_ValueError := He.free_ok X G (c.fa (.free "ValueError") (List.mem_of_getElem? (i := 28) rfl))
  b_KeyError := He.free_ok X G (c.fa (.free "KeyError") (List.mem_of_getElem? (i := 29) rfl))
  b_IndexError := He.free_ok X G (c.fa (.free "IndexError") (List.mem_of_getElem? (i := 30) rfl))
  b_OverflowError := He.free_ok X G (c.fa (.free "OverflowError") (List.mem_of_getElem? (i := 31) rfl))
  b_ArithmeticError := He.free_ok X G (c.fa (.free "ArithmeticError") (List.mem_of_getElem? (i := 32) rfl))
  b_LookupError := He.free_ok X G (c.fa (.free "LookupError") (List.mem_of_getElem? (i := 33) rfl))
  b_zip := He.free_ok X G (c.fa (.free "zip") (List.mem_of_getElem? (i := 34) rfl))
  b_super := He.free_ok X G (c.fa (.free "super") (List.mem_of_getElem? (i := 35) rfl))
  b_min := He.free_ok X G (c.fa (.free "min") (List.mem_of_getElem? (i := 36) rfl))
  b_range := He.free_ok X G (c.fa (.free "range") (List.mem_of_getElem? (i := 37) rfl))
  b_str := He.free_ok X G (c.fa (.free "str") (List.mem_of_getElem? (i := 38) rfl))
  b_repr := He.free_ok X G (c.fa (.free "repr") (List.mem_of_getElem? (i := 39) rfl))
  e_InvalidRow := excC_of X G (c.fa (.glo "InvalidRow") (List.mem_of_getElem? (i := 8) rfl)) (c.fa (.exc "InvalidRow") (List.mem_of_getElem? (i := 40) rfl))
  e_InvalidLot := excC_of X G (c.fa (.glo "InvalidLot") (List.mem_of_getElem? (i := 9) rfl)) (c.fa (.exc "InvalidLot") (List.mem_of_getElem? (i := 41) rfl))
  e_InvalidBook := excC_of X G (c.fa (.glo "InvalidBook") (List.mem_of_getElem? (i := 10) rfl)) (c.fa (.exc "InvalidBook") (List.mem_of_getElem? (i := 42) rfl))
  e_InvalidTable := excC_of X G (c.fa (.glo "InvalidTable") (List.mem_of_getElem? (i := 11) rfl)) (c.fa (.exc "InvalidTable") (List.mem_of_getElem? (i := 43) rfl))
  e_InvalidPoly := excC_of X G (c.fa (.glo "InvalidPoly") (List.mem_of_getElem? (i := 12) rfl)) (c.fa (.exc "InvalidPoly") (List.mem_of_getElem? (i := 44) rfl))
  e_InvalidLaw := excC_of X G (c.fa (.glo "InvalidLaw") (List.mem_of_getElem? (i := 13) rfl)) (c.fa (.exc "InvalidLaw") (List.mem_of_getElem? (i := 45) rfl))
  e_InvalidTale := excC_of X G (c.fa (.glo "InvalidTale") (List.mem_of_getElem? (i := 14) rfl)) (c.fa (.exc "InvalidTale") (List.mem_of_getElem? (i := 46) rfl))
  e_InvalidOperation := excC_of X G (c.fa (.glo "InvalidOperation") (List.mem_of_getElem? (i := 15) rfl)) (c.fa (.exc "InvalidOperation") (List.mem_of_getElem? (i := 47) rfl))
  e_SeriesError := excC_of X G (c.fa (.glo "SeriesError") (List.mem_of_getElem? (i := 22) rfl)) (c.fa (.exc "SeriesError") (List.mem_of_getElem? (i := 48) rfl))
  i_ParseError := (InitD.init (d := id_ParseError) rfl rfl (c.ins id_ParseError (List.mem_of_getElem? (i := 0) rfl)).1 (c.ins id_ParseError (List.mem_of_getElem? (i := 0) rfl)).2).1
  j_ParseError := He.glo_ok X G (c.fa (.glo "ParseError") (List.mem_of_getElem? (i := 16) rfl))
  i_UnknownName := (InitD.init (d := id_UnknownName) rfl rfl (c.ins id_UnknownName (List.mem_of_getElem? (i := 1) rfl)).1 (c.ins id_UnknownName (List.mem_of_getElem? (i := 1) rfl)).2).1
  j_UnknownName := He.glo_ok X G (c.fa (.glo "UnknownName") (List.mem_of_getElem? (i := 17) rfl))
  i_InvalidCount := (InitD.init (d := id_InvalidCount) rfl rfl (c.ins id_InvalidCount (List.mem_of_getElem? (i := 2) rfl)).1 (c.ins id_InvalidCount (List.mem_of_getElem? (i := 2) rfl)).2).1
  j_InvalidCount := He.glo_ok X G (c.fa (.glo "InvalidCount") (List.mem_of_getElem? (i := 18) rfl))
  i_TooMany := (InitD.init (d := id_TooMany) rfl rfl (c.ins id_TooMany (List.mem_of_getElem? (i := 3) rfl)).1 (c.ins id_TooMany (List.mem_of_getElem? (i := 3) rfl)).2).1
  j_TooMany := He.glo_ok X G (c.fa (.glo "TooMany") (List.mem_of_getElem? (i := 19) rfl))
  i_Refused := (InitD.init (d := id_Refused) rfl rfl (c.ins id_Refused (List.mem_of_getElem? (i := 4) rfl)).1 (c.ins id_Refused (List.mem_of_getElem? (i := 4) rfl)).2).1
  j_Refused := He.glo_ok X G (c.fa (.glo "Refused") (List.mem_of_getElem? (i := 20) rfl))
  i_NothingToUndo := (InitD.init (d := id_NothingToUndo) rfl rfl (c.ins id_NothingToUndo (List.mem_of_getElem? (i := 5) rfl)).1 (c.ins id_NothingToUndo (List.mem_of_getElem? (i := 5) rfl)).2).1
  j_NothingToUndo := He.glo_ok X G (c.fa (.glo "NothingToUndo") (List.mem_of_getElem? (i := 21) rfl))
end K10
set_option maxHeartbeats 4000000
namespace K10
open PySem PySem.Spec PyProof.Rows L2 DL
variable [TabsCtx]
theorem runZ_ok {N : Nat} {b : Fs} {ds : List D} {st s2 : Store} {d : D} (hu : D.undL 0 ds = true) (h : ofS (b (DL.start N ds) []) = .ok d s2) (hd : D.und 0 d = true) : runZ N b ds st = .ok d st := by
  unfold runZ runD
  rw [if_pos hu, h]
  unfold pure0 frz
  simp only [hd, if_true]
theorem undE {c f : Str} {ds : List D} (h : D.undL 0 ds = true) : D.undL 0 [.exo c f ds] = true := by
  simp only [D.undL, D.und, h, Bool.and_self]
theorem w_ParseError {f : Str} {ds : List D} (hu : D.undL 0 ds = true) (st : Store) : F__law_words [.exo "ParseError" f ds] st = .ok (.lst ((["parse", "base", "value"] : List Str).map D.str)) st := runZ_ok (s2 := []) (undE hu) (by kernel_rfl) (by kernel_rfl)
theorem w_UnknownName {f : Str} {ds : List D} (hu : D.undL 0 ds = true) (st : Store) : F__law_words [.exo "UnknownName" f ds] st = .ok (.lst ((["unknown", "key", "lookup"] : List Str).map D.str)) st := runZ_ok (s2 := []) (undE hu) (by kernel_rfl) (by kernel_rfl)
theorem w_InvalidCount {f : Str} {ds : List D} (hu : D.undL 0 ds = true) (st : Store) : F__law_words [.exo "InvalidCount" f ds] st = .ok (.lst ((["count", "index", "lookup"] : List Str).map D.str)) st := runZ_ok (s2 := []) (undE hu) (by kernel_rfl) (by kernel_rfl)
theorem w_TooMany {f : Str} {ds : List D} (hu : D.undL 0 ds = true) (st : Store) : F__law_words [.exo "TooMany" f ds] st = .ok (.lst ((["many", "over", "arithmetic"] : List Str).map D.str)) st := runZ_ok (s2 := []) (undE hu) (by kernel_rfl) (by kernel_rfl)
theorem w_Refused {f : Str} {ds : List D} (hu : D.undL 0 ds = true) (st : Store) : F__law_words [.exo "Refused" f ds] st = .ok (.lst ((["refused", "arithmetic"] : List Str).map D.str)) st := runZ_ok (s2 := []) (undE hu) (by kernel_rfl) (by kernel_rfl)
theorem w_NothingToUndo {f : Str} {ds : List D} (hu : D.undL 0 ds = true) (st : Store) : F__law_words [.exo "NothingToUndo" f ds] st = .ok (.lst ((["undo", "lookup"] : List Str).map D.str)) st := runZ_ok (s2 := []) (undE hu) (by kernel_rfl) (by kernel_rfl)
theorem w_SeriesError {f : Str} {ds : List D} (hu : D.undL 0 ds = true) (st : Store) : F__law_words [.exo "SeriesError" f ds] st = .ok (.lst ((["base", "value"] : List Str).map D.str)) st := runZ_ok (s2 := []) (undE hu) (by kernel_rfl) (by kernel_rfl)
theorem w_InvalidRow {f : Str} {ds : List D} (hu : D.undL 0 ds = true) (st : Store) : F__law_words [.exo "InvalidRow" f ds] st = .ok (.lst ((["row", "base", "value"] : List Str).map D.str)) st := runZ_ok (s2 := []) (undE hu) (by kernel_rfl) (by kernel_rfl)
theorem w_InvalidLot {f : Str} {ds : List D} (hu : D.undL 0 ds = true) (st : Store) : F__law_words [.exo "InvalidLot" f ds] st = .ok (.lst ((["lot", "base", "value"] : List Str).map D.str)) st := runZ_ok (s2 := []) (undE hu) (by kernel_rfl) (by kernel_rfl)
theorem w_InvalidBook {f : Str} {ds : List D} (hu : D.undL 0 ds = true) (st : Store) : F__law_words [.exo "InvalidBook" f ds] st = .ok (.lst ((["book", "base", "value"] : List Str).map D.str)) st := runZ_ok (s2 := []) (undE hu) (by kernel_rfl) (by kernel_rfl)
theorem w_InvalidTable {f : Str} {ds : List D} (hu : D.undL 0 ds = true) (st : Store) : F__law_words [.exo "InvalidTable" f ds] st = .ok (.lst ((["table", "base", "value"] : List Str).map D.str)) st := runZ_ok (s2 := []) (undE hu) (by kernel_rfl) (by kernel_rfl)
theorem w_InvalidPoly {f : Str} {ds : List D} (hu : D.undL 0 ds = true) (st : Store) : F__law_words [.exo "InvalidPoly" f ds] st = .ok (.lst ((["poly", "base", "value"] : List Str).map D.str)) st := runZ_ok (s2 := []) (undE hu) (by kernel_rfl) (by kernel_rfl)
theorem w_InvalidLaw {f : Str} {ds : List D} (hu : D.undL 0 ds = true) (st : Store) : F__law_words [.exo "InvalidLaw" f ds] st = .ok (.lst ((["law", "base", "value"] : List Str).map D.str)) st := runZ_ok (s2 := []) (undE hu) (by kernel_rfl) (by kernel_rfl)
theorem w_InvalidTale {f : Str} {ds : List D} (hu : D.undL 0 ds = true) (st : Store) : F__law_words [.exo "InvalidTale" f ds] st = .ok (.lst ((["tale", "base", "value"] : List Str).map D.str)) st := runZ_ok (s2 := []) (undE hu) (by kernel_rfl) (by kernel_rfl)
theorem w_InvalidOperation {f : Str} {ds : List D} (hu : D.undL 0 ds = true) (st : Store) : F__law_words [.exo "InvalidOperation" f ds] st = .ok (.lst ((["operation", "base", "value"] : List Str).map D.str)) st := runZ_ok (s2 := []) (undE hu) (by kernel_rfl) (by kernel_rfl)
theorem p_row (st : Store) : F__law_plain [.str "row"] st = .ok (.exo "InvalidRow" "" []) st := by kernel_rfl
theorem p_lot (st : Store) : F__law_plain [.str "lot"] st = .ok (.exo "InvalidLot" "" []) st := by kernel_rfl
theorem p_book (st : Store) : F__law_plain [.str "book"] st = .ok (.exo "InvalidBook" "" []) st := by kernel_rfl
theorem p_table (st : Store) : F__law_plain [.str "table"] st = .ok (.exo "InvalidTable" "" []) st := by kernel_rfl
theorem p_poly (st : Store) : F__law_plain [.str "poly"] st = .ok (.exo "InvalidPoly" "" []) st := by kernel_rfl
theorem p_law (st : Store) : F__law_plain [.str "law"] st = .ok (.exo "InvalidLaw" "" []) st := by kernel_rfl
theorem p_operation (st : Store) : F__law_plain [.str "operation"] st = .ok (.exo "InvalidOperation" "" []) st := by kernel_rfl
theorem p_tale (st : Store) : F__law_plain [.str "tale"] st = .ok (.exo "InvalidTale" "" []) st := by kernel_rfl
theorem d_row (st : Store) : F__law_due [.str "row"] st = .ok (.lst ((["row", "base", "value"] : List Str).map D.str)) st := by kernel_rfl
theorem d_lot (st : Store) : F__law_due [.str "lot"] st = .ok (.lst ((["lot", "base", "value"] : List Str).map D.str)) st := by kernel_rfl
theorem d_book (st : Store) : F__law_due [.str "book"] st = .ok (.lst ((["book", "base", "value"] : List Str).map D.str)) st := by kernel_rfl
theorem d_table (st : Store) : F__law_due [.str "table"] st = .ok (.lst ((["table", "base", "value"] : List Str).map D.str)) st := by kernel_rfl
theorem d_poly (st : Store) : F__law_due [.str "poly"] st = .ok (.lst ((["poly", "base", "value"] : List Str).map D.str)) st := by kernel_rfl
theorem d_law (st : Store) : F__law_due [.str "law"] st = .ok (.lst ((["law", "base", "value"] : List Str).map D.str)) st := by kernel_rfl
theorem d_operation (st : Store) : F__law_due [.str "operation"] st = .ok (.lst ((["operation", "base", "value"] : List Str).map D.str)) st := by kernel_rfl
theorem d_tale (st : Store) : F__law_due [.str "tale"] st = .ok (.lst ((["tale", "base", "value"] : List Str).map D.str)) st := by kernel_rfl
theorem d_parse (st : Store) : F__law_due [.str "parse"] st = .ok (.lst ((["parse", "base", "value"] : List Str).map D.str)) st := by kernel_rfl
theorem d_unknown (st : Store) : F__law_due [.str "unknown"] st = .ok (.lst ((["unknown", "key", "lookup"] : List Str).map D.str)) st := by kernel_rfl
theorem d_count (st : Store) : F__law_due [.str "count"] st = .ok (.lst ((["count", "index", "lookup"] : List Str).map D.str)) st := by kernel_rfl
theorem d_many (st : Store) : F__law_due [.str "many"] st = .ok (.lst ((["many", "over", "arithmetic"] : List Str).map D.str)) st := by kernel_rfl
theorem d_refused (st : Store) : F__law_due [.str "refused"] st = .ok (.lst ((["refused", "arithmetic"] : List Str).map D.str)) st := by kernel_rfl
theorem d_undo (st : Store) : F__law_due [.str "undo"] st = .ok (.lst ((["undo", "lookup"] : List Str).map D.str)) st := by kernel_rfl
end K10
namespace K10
open PySem PySem.Spec PyProof.Rows L2 DL
variable [TabsCtx]
theorem e_roll : F__law_roll = DL.F_roll := rfl
theorem e_pick : F__law_pick = DL.F_pick := rfl
theorem e_dice : F__law_dice = DL.F_dice := rfl
structure Ok (p : PyData) : Prop where
  short : p.leavesShort 300 = true
  show' : p.showable = true
  wt : p.weight ≤ 2000
  dep : p.depth ≤ 3
theorem Ok.x {p : PyData} (h : Ok p) : showX p = true ∧ p.shown.length + 100 ≤ sizeLine := by
  have le := PyData.shown_le 300 (by decide) p h.short
  have fit : p.shown.length + 100 ≤ sizeLine := by
    rw [sizeLine_eq]
    have : (300 + 2) * p.weight ≤ 302 * 2000 := Nat.mul_le_mul (Nat.le_refl _) h.wt
    omega
  refine ⟨?_, fit⟩
  unfold showX
  have := h.dep
  rw [h.show', decide_eq_true (show p.shown.length ≤ sizeLine by omega), decide_eq_true (show p.depth < 60 by omega)]
  rfl
theorem log250 {i : Int} (h : i.natAbs < 2 ^ 250) : i.natAbs.log2 < 250 := log_lt h (by decide)
theorem ok_int {i : Int} (h : i.natAbs < 2 ^ 250) : Ok (.int i) := by
  have h2 := log250 h
  refine ⟨?_, ?_, ?_, Nat.zero_le _⟩
  · have : (PySem.Str.ofString (toString i)).length ≤ 251 := by
      rw [PySem.ofString_length]; exact PySem.int_text_length_le (k := 250) (by decide) h2
    simp only [PyData.leavesShort, decide_eq_true_eq]
    exact Nat.le_trans this (by decide)
  · have h3 : i.natAbs.log2 < 1920 := by omega
    simp [PyData.showable, h3]
  · simp only [PyData.weight]
    split <;> omega
theorem ok_one {p : PyData} (h : Ok p) (hd : p.depth ≤ 2) (hw : p.weight ≤ 1900) : Ok (.list [p]) := by
  refine ⟨?_, ?_, ?_, ?_⟩
  · simp only [PyData.leavesShort, PyData.leavesShortAll, h.short, Bool.and_self]
  · simp only [PyData.showable, PyData.showableAll, h.show', Bool.and_self]
  · simp only [PyData.weight, PyData.weightAll]; omega
  · simp only [PyData.depth, PyData.depthAll]; omega
theorem ok_dict {p : PyData} (h : Ok p) (hd : p.depth ≤ 2) (hw : p.weight ≤ 1900) : Ok (.dict [(.str "a", p)]) := by
  have a1 : PyData.leavesShort 300 (.str "a") = true := by decide +kernel
  have a2 : PyData.showable (.str "a") = true := rfl
  have a3 : PyData.weight (.str "a") ≤ 10 := by decide +kernel
  have a4 : PyData.depth (.str "a") = 0 := rfl
  refine ⟨?_, ?_, ?_, ?_⟩
  · simp only [PyData.leavesShort, PyData.leavesShortKv, h.short, a1, Bool.and_self] at a1 ⊢
    exact a1
  · simp only [PyData.showable, PyData.showableKv, h.show', Bool.and_self]
  · simp only [PyData.weight, PyData.weightKv] at a3 ⊢; omega
  · simp only [PyData.depth, PyData.depthKv] at a4 ⊢; omega
theorem ok_text {i : Int} (h : i.natAbs < 2 ^ 250) : Ok (.str (PySem.Str.ofString (toString i))) := by
  have l : (PySem.Str.ofString (toString i)).length ≤ 251 := by
    rw [PySem.ofString_length]; exact PySem.int_text_length_le (k := 250) (by decide) (log250 h)
  refine ⟨?_, rfl, ?_, Nat.zero_le _⟩
  · simp only [PyData.leavesShort, List.all_eq_true, decide_eq_true_eq]
    intro c hc
    refine Decidable.byContradiction fun hn => ?_
    have big : 57 < c := by
      have : 57 < 16 ^ 8 := by decide
      omega
    exact PyProof.Rows.int_text_free' c ⟨by omega, .inr big⟩ i hc
  · show (PySem.Str.ofString (toString i)).cps.size ≤ 2000
    have l : (PySem.Str.ofString (toString i)).cps.size ≤ 251 := l
    omega
def vals (n : Int) : List D := [.int n, .str (PySem.Str.ofString (toString n)), .non, .tup [.str "ring"], .bl true, .tup [], .int (10 ^ 60 + n), .lst [.int n], .dct [.inr "a"] [.int n]]
def pvals (n : Int) : List D := [.non, .int 0, .int (n.natAbs : Nat)]
structure GoodV (c : Int) (d : D) : Prop where
  und : D.und 0 d = true
  mko : mkOk c [] d = true
  rep : ∃ w : Str, ∀ s, gReprX s [d] = some (.str w)
theorem good_of {d : D} {p : PyData} (hu : D.und 0 d = true) (hl : ∀ l, d ≠ .loc l) (hp : toPyX d = some p) (h : Ok p) : GoodV 114 d := by
  have e : ∀ s, toPyXT s d = some p := fun s => by
    unfold toPyXT
    split
    · exact absurd rfl (hl _)
    · exact hp
  obtain ⟨x1, x2⟩ := h.x
  refine ⟨hu, ?_, p.shown, fun s => ?_⟩
  · unfold mkOk
    rw [if_pos rfl, e]
    simp only [x1, decide_eq_true x2, Bool.and_self]
  · show ((toPyXT s d).bind fun p => if showX p = true then some (D.str p.shown) else none) = _
    rw [e, Option.bind_some, if_pos x1]
theorem small_n {n : Int} (h1 : -1000 ≤ n) (h2 : n < 1000000) : n.natAbs < 2 ^ 250 := by
  have : (1000001 : Nat) < 2 ^ 250 := by decide
  omega
theorem vals_good {n : Int} (h1 : -1000 ≤ n) (h2 : n < 1000000) {d : D} (hd : d ∈ vals n) : GoodV 114 d := by
  have hn := small_n h1 h2
  have h60 : ((10 : Int) ^ 60 + n).natAbs < 2 ^ 250 := by
    have a : ((10 : Int) ^ 60) = 1000000000000000000000000000000000000000000000000000000000000 := by decide
    have b : (1000000000000000000000000000000000000000000000000000000000000 + 1000001 : Nat) < 2 ^ 250 := by decide
    rw [a]
    omega
  have wn : PyData.weight (.int n) ≤ 1900 := by
    simp only [PyData.weight]
    have := log250 hn
    split <;> omega
  simp only [vals, List.mem_cons, List.not_mem_nil, or_false] at hd
  rcases hd with rfl | rfl | rfl | rfl | rfl | rfl | rfl | rfl | rfl
  · exact good_of (p := .int n) rfl (fun _ z => nomatch z) rfl (ok_int hn)
  · exact good_of (p := .str _) rfl (fun _ z => nomatch z) rfl (ok_text hn)
  · exact good_of (p := .none) rfl (fun _ z => nomatch z) rfl ⟨rfl, rfl, by decide, by decide⟩
  · exact good_of (p := .tuple [.str "ring"]) rfl (fun _ z => nomatch z) rfl ⟨by decide +kernel, by decide +kernel, by decide +kernel, by decide +kernel⟩
  · exact good_of (p := .bool true) rfl (fun _ z => nomatch z) rfl ⟨rfl, rfl, by decide, by decide⟩
  · exact good_of (p := .tuple []) rfl (fun _ z => nomatch z) rfl ⟨by decide +kernel, by decide +kernel, by decide +kernel, by decide +kernel⟩
  · exact good_of (p := .int (10 ^ 60 + n)) rfl (fun _ z => nomatch z) rfl (ok_int h60)
  · exact good_of (p := .list [.int n]) rfl (fun _ z => nomatch z) rfl (ok_one (ok_int hn) (show 0 ≤ 2 by decide) wn)
  · exact good_of (p := .dict [(.str "a", .int n)]) rfl (fun _ z => nomatch z) rfl (ok_dict (ok_int hn) (show 0 ≤ 2 by decide) wn)
theorem pvals_good {n : Int} (h1 : -1000 ≤ n) (h2 : n < 1000000) {d : D} (hd : d ∈ pvals n) : GoodV (-1) d := by
  have hn := small_n h1 h2
  have ha : ((n.natAbs : Nat) : Int).natAbs < 2 ^ 250 := by rw [Int.natAbs_natCast]; exact hn
  simp only [pvals, List.mem_cons, List.not_mem_nil, or_false] at hd
  rcases hd with rfl | rfl | rfl
  · exact ⟨rfl, rfl, (good_of (d := .non) (p := .none) rfl (fun _ z => nomatch z) rfl ⟨rfl, rfl, by decide, by decide⟩).rep⟩
  · exact ⟨rfl, by decide +kernel, (good_of (d := .int 0) (p := .int 0) rfl (fun _ z => nomatch z) rfl (ok_int (by decide))).rep⟩
  · refine ⟨rfl, ?_, (good_of (d := .int (n.natAbs : Nat)) (p := .int (n.natAbs : Nat)) rfl (fun _ z => nomatch z) rfl (ok_int ha)).rep⟩
    have := log250 ha
    unfold mkOk
    rw [if_neg (by decide)]
    simp only [decide_true, Bool.true_and, decide_eq_true_eq]
    omega
end K10
set_option maxHeartbeats 8000000
namespace K10
open PySem PySem.Spec PyProof.Rows L2 DL
variable [TabsCtx]
theorem k_parse {d : D} (h : GoodV (-1) d) (st : Store) : F__law_keeping [.str "parse", d] st = .ok (.tup [.exo "ParseError" "line" [d], d]) st := by
  have hd := h.und
  refine runZ_ok (s2 := []) (by simp [D.undL, D.und, hd]) ?_ (by simp [D.undL, D.und, hd])
  have st0 : DL.start 3 [.str "parse", d] = [some (.str "parse"), some d, none] := rfl
  have q_parse : ∀ s, gEq s (.str "parse") (.str "parse") = some (.bl true) := fun _ => by kernel_rfl
  have e : xMkI (-1) "ParseError" "line" (aCons (xVar 1) aNil) [some (.str "parse"), some d, none] [] = .ok (.exo "ParseError" "line" [d]) [] := by
    unfold xMkI
    simp only [ev_aCons, ev_aNil, ev_xVar, List.getElem?_cons_zero, List.getElem?_cons_succ, Res.bind_ok, h.mko, if_true]
  have a : ∀ s, xAttX exT "line" (xVar 2) [some (.str "parse"), some d, some (.exo "ParseError" "line" [d])] s = .ok d s := fun s => by kernel_rfl
  rw [st0]
  unfold b__law_keeping
  simp only [ev_sSeq, ev_sIf, ev_tVal, ev_xOp, ev_xVar, ev_xC, List.getElem?_cons_zero, List.getElem?_cons_succ, Res.bind_ok, q_parse, lift_some, ev_tB, liftB_some, Res.thenS_ok, Bool.false_eq_true, if_false, if_true, ev_sPass, seq_nx, ev_sSet, e, List.set_cons_zero, List.set_cons_succ, ev_sRet, ev_xTup, ev_aCons, ev_aNil, a, seq_ret, ofS_ret]
theorem k_unknown {d : D} (h : GoodV (114) d) (st : Store) : F__law_keeping [.str "unknown", d] st = .ok (.tup [.exo "UnknownName" "wanted" [d], d]) st := by
  have hd := h.und
  refine runZ_ok (s2 := []) (by simp [D.undL, D.und, hd]) ?_ (by simp [D.undL, D.und, hd])
  have st0 : DL.start 3 [.str "unknown", d] = [some (.str "unknown"), some d, none] := rfl
  have q_parse : ∀ s, gEq s (.str "unknown") (.str "parse") = some (.bl false) := fun _ => by kernel_rfl
  have q_unknown : ∀ s, gEq s (.str "unknown") (.str "unknown") = some (.bl true) := fun _ => by kernel_rfl
  have e : xMkI (114) "UnknownName" "wanted" (aCons (xVar 1) aNil) [some (.str "unknown"), some d, none] [] = .ok (.exo "UnknownName" "wanted" [d]) [] := by
    unfold xMkI
    simp only [ev_aCons, ev_aNil, ev_xVar, List.getElem?_cons_zero, List.getElem?_cons_succ, Res.bind_ok, h.mko, if_true]
  have a : ∀ s, xAttX exT "wanted" (xVar 2) [some (.str "unknown"), some d, some (.exo "UnknownName" "wanted" [d])] s = .ok d s := fun s => by kernel_rfl
  rw [st0]
  unfold b__law_keeping
  simp only [ev_sSeq, ev_sIf, ev_tVal, ev_xOp, ev_xVar, ev_xC, List.getElem?_cons_zero, List.getElem?_cons_succ, Res.bind_ok, q_parse, q_unknown, lift_some, ev_tB, liftB_some, Res.thenS_ok, Bool.false_eq_true, if_false, if_true, ev_sPass, seq_nx, ev_sSet, e, List.set_cons_zero, List.set_cons_succ, ev_sRet, ev_xTup, ev_aCons, ev_aNil, a, seq_ret, ofS_ret]
theorem k_count {d : D} (h : GoodV (114) d) (st : Store) : F__law_keeping [.str "count", d] st = .ok (.tup [.exo "InvalidCount" "given" [d], d]) st := by
  have hd := h.und
  refine runZ_ok (s2 := []) (by simp [D.undL, D.und, hd]) ?_ (by simp [D.undL, D.und, hd])
  have st0 : DL.start 3 [.str "count", d] = [some (.str "count"), some d, none] := rfl
  have q_parse : ∀ s, gEq s (.str "count") (.str "parse") = some (.bl false) := fun _ => by kernel_rfl
  have q_unknown : ∀ s, gEq s (.str "count") (.str "unknown") = some (.bl false) := fun _ => by kernel_rfl
  have q_count : ∀ s, gEq s (.str "count") (.str "count") = some (.bl true) := fun _ => by kernel_rfl
  have e : xMkI (114) "InvalidCount" "given" (aCons (xVar 1) aNil) [some (.str "count"), some d, none] [] = .ok (.exo "InvalidCount" "given" [d]) [] := by
    unfold xMkI
    simp only [ev_aCons, ev_aNil, ev_xVar, List.getElem?_cons_zero, List.getElem?_cons_succ, Res.bind_ok, h.mko, if_true]
  have a : ∀ s, xAttX exT "given" (xVar 2) [some (.str "count"), some d, some (.exo "InvalidCount" "given" [d])] s = .ok d s := fun s => by kernel_rfl
  rw [st0]
  unfold b__law_keeping
  simp only [ev_sSeq, ev_sIf, ev_tVal, ev_xOp, ev_xVar, ev_xC, List.getElem?_cons_zero, List.getElem?_cons_succ, Res.bind_ok, q_parse, q_unknown, q_count, lift_some, ev_tB, liftB_some, Res.thenS_ok, Bool.false_eq_true, if_false, if_true, ev_sPass, seq_nx, ev_sSet, e, List.set_cons_zero, List.set_cons_succ, ev_sRet, ev_xTup, ev_aCons, ev_aNil, a, seq_ret, ofS_ret]
theorem k_many {d : D} (h : GoodV (114) d) (st : Store) : F__law_keeping [.str "many", d] st = .ok (.tup [.exo "TooMany" "limit" [d], d]) st := by
  have hd := h.und
  refine runZ_ok (s2 := []) (by simp [D.undL, D.und, hd]) ?_ (by simp [D.undL, D.und, hd])
  have st0 : DL.start 3 [.str "many", d] = [some (.str "many"), some d, none] := rfl
  have q_parse : ∀ s, gEq s (.str "many") (.str "parse") = some (.bl false) := fun _ => by kernel_rfl
  have q_unknown : ∀ s, gEq s (.str "many") (.str "unknown") = some (.bl false) := fun _ => by kernel_rfl
  have q_count : ∀ s, gEq s (.str "many") (.str "count") = some (.bl false) := fun _ => by kernel_rfl
  have q_many : ∀ s, gEq s (.str "many") (.str "many") = some (.bl true) := fun _ => by kernel_rfl
  have e : xMkI (114) "TooMany" "limit" (aCons (xVar 1) aNil) [some (.str "many"), some d, none] [] = .ok (.exo "TooMany" "limit" [d]) [] := by
    unfold xMkI
    simp only [ev_aCons, ev_aNil, ev_xVar, List.getElem?_cons_zero, List.getElem?_cons_succ, Res.bind_ok, h.mko, if_true]
  have a : ∀ s, xAttX exT "limit" (xVar 2) [some (.str "many"), some d, some (.exo "TooMany" "limit" [d])] s = .ok d s := fun s => by kernel_rfl
  rw [st0]
  unfold b__law_keeping
  simp only [ev_sSeq, ev_sIf, ev_tVal, ev_xOp, ev_xVar, ev_xC, List.getElem?_cons_zero, List.getElem?_cons_succ, Res.bind_ok, q_parse, q_unknown, q_count, q_many, lift_some, ev_tB, liftB_some, Res.thenS_ok, Bool.false_eq_true, if_false, if_true, ev_sPass, seq_nx, ev_sSet, e, List.set_cons_zero, List.set_cons_succ, ev_sRet, ev_xTup, ev_aCons, ev_aNil, a, seq_ret, ofS_ret]
theorem k_refused {d : D} (h : GoodV (114) d) (st : Store) : F__law_keeping [.str "refused", d] st = .ok (.tup [.exo "Refused" "reason" [d], d]) st := by
  have hd := h.und
  refine runZ_ok (s2 := []) (by simp [D.undL, D.und, hd]) ?_ (by simp [D.undL, D.und, hd])
  have st0 : DL.start 3 [.str "refused", d] = [some (.str "refused"), some d, none] := rfl
  have q_parse : ∀ s, gEq s (.str "refused") (.str "parse") = some (.bl false) := fun _ => by kernel_rfl
  have q_unknown : ∀ s, gEq s (.str "refused") (.str "unknown") = some (.bl false) := fun _ => by kernel_rfl
  have q_count : ∀ s, gEq s (.str "refused") (.str "count") = some (.bl false) := fun _ => by kernel_rfl
  have q_many : ∀ s, gEq s (.str "refused") (.str "many") = some (.bl false) := fun _ => by kernel_rfl
  have q_refused : ∀ s, gEq s (.str "refused") (.str "refused") = some (.bl true) := fun _ => by kernel_rfl
  have e : xMkI (114) "Refused" "reason" (aCons (xVar 1) aNil) [some (.str "refused"), some d, none] [] = .ok (.exo "Refused" "reason" [d]) [] := by
    unfold xMkI
    simp only [ev_aCons, ev_aNil, ev_xVar, List.getElem?_cons_zero, List.getElem?_cons_succ, Res.bind_ok, h.mko, if_true]
  have a : ∀ s, xAttX exT "reason" (xVar 2) [some (.str "refused"), some d, some (.exo "Refused" "reason" [d])] s = .ok d s := fun s => by kernel_rfl
  rw [st0]
  unfold b__law_keeping
  simp only [ev_sSeq, ev_sIf, ev_tVal, ev_xOp, ev_xVar, ev_xC, List.getElem?_cons_zero, List.getElem?_cons_succ, Res.bind_ok, q_parse, q_unknown, q_count, q_many, q_refused, lift_some, ev_tB, liftB_some, Res.thenS_ok, Bool.false_eq_true, if_false, if_true, ev_sPass, seq_nx, ev_sSet, e, List.set_cons_zero, List.set_cons_succ, ev_sRet, ev_xTup, ev_aCons, ev_aNil, a, seq_ret, ofS_ret]
theorem k_undo {d : D} (h : GoodV (114) d) (st : Store) : F__law_keeping [.str "undo", d] st = .ok (.tup [.exo "NothingToUndo" "wanted" [d], d]) st := by
  have hd := h.und
  refine runZ_ok (s2 := []) (by simp [D.undL, D.und, hd]) ?_ (by simp [D.undL, D.und, hd])
  have st0 : DL.start 3 [.str "undo", d] = [some (.str "undo"), some d, none] := rfl
  have q_parse : ∀ s, gEq s (.str "undo") (.str "parse") = some (.bl false) := fun _ => by kernel_rfl
  have q_unknown : ∀ s, gEq s (.str "undo") (.str "unknown") = some (.bl false) := fun _ => by kernel_rfl
  have q_count : ∀ s, gEq s (.str "undo") (.str "count") = some (.bl false) := fun _ => by kernel_rfl
  have q_many : ∀ s, gEq s (.str "undo") (.str "many") = some (.bl false) := fun _ => by kernel_rfl
  have q_refused : ∀ s, gEq s (.str "undo") (.str "refused") = some (.bl false) := fun _ => by kernel_rfl
  have e : xMkI (114) "NothingToUndo" "wanted" (aCons (xVar 1) aNil) [some (.str "undo"), some d, none] [] = .ok (.exo "NothingToUndo" "wanted" [d]) [] := by
    unfold xMkI
    simp only [ev_aCons, ev_aNil, ev_xVar, List.getElem?_cons_zero, List.getElem?_cons_succ, Res.bind_ok, h.mko, if_true]
  have a : ∀ s, xAttX exT "wanted" (xVar 2) [some (.str "undo"), some d, some (.exo "NothingToUndo" "wanted" [d])] s = .ok d s := fun s => by kernel_rfl
  rw [st0]
  unfold b__law_keeping
  simp only [ev_sSeq, ev_sIf, ev_tVal, ev_xOp, ev_xVar, ev_xC, List.getElem?_cons_zero, List.getElem?_cons_succ, Res.bind_ok, q_parse, q_unknown, q_count, q_many, q_refused, lift_some, ev_tB, liftB_some, Res.thenS_ok, Bool.false_eq_true, if_false, if_true, ev_sPass, seq_nx, ev_sSet, e, List.set_cons_zero, List.set_cons_succ, ev_sRet, ev_xTup, ev_aCons, ev_aNil, a, seq_ret, ofS_ret]
theorem gNe_same {st : Store} {xs : List Str} (ok : ∀ x ∈ xs, PyData.strOk x = true) : gNe st (.lst (xs.map D.str)) (.lst (xs.map D.str)) = some (.bl false) := by
  show ((pyOf st (.lst (xs.map D.str))).bind fun p => (pyOf st (.lst (xs.map D.str))).map fun q => D.bl (!PyData.eqv p q)) = _
  rw [pyOf_lstS xs ok]
  simp [PyData.eqv, eqv_strs]
theorem all_ok {xs : List Str} (h : (xs.all PyData.strOk) = true) : ∀ x ∈ xs, PyData.strOk x = true := fun x hx => List.all_eq_true.mp h x hx
theorem fstep {b : Fs} {s0 s s2 : Store} {d : D} {ds : List D} {ρ ρ1 ρ2 : DEnv} (hρ : ρ.set 4 (some d) = ρ1) (h : b ρ1 s = .nx ρ2 s2) : forD (gN 4) b [] s0 (d :: ds) ρ s = forD (gN 4) b [] s0 ds ρ2 s2 :=
  forD_cons_nx (g := gN 4) (ws := []) (by rw [← hρ]; rfl) h (sameAt_nil ..)
abbrev env (a0 a1 a2 a3 a4 a5 a6 a7 a8 : Option D) : DEnv := [a0, a1, a2, a3, a4, a5, a6, a7, a8]
def body1 : Fs := (sIf (tVal (xOp gNe (xApply F__law_words (aCons (xApply F__law_plain (aCons (xVar 4) aNil)) aNil)) (xApply F__law_due (aCons (xVar 4) aNil)))) (sRet (xC (.bl false))) sPass)
def body2 : Fs := (sSeq (sSet 5 (xLst (aCons (xVar 3) (aCons (xCall gStrI (aCons (xVar 3) aNil)) (aCons (xC .non) (aCons (xTup (aCons (xC (.str "ring")) aNil)) (aCons (xC (.bl true)) (aCons (xTup aNil) (aCons (xOp gAdd (xOp gPow (xC (.int 10)) (xC (.int 60))) (xVar 3)) (aCons (xLst (aCons (xVar 3) aNil)) (aCons (xDisp (pCons (xC (.str "a")) (xVar 3) pNil)) aNil))))))))))) (sSeq (sSet 6 (xApply F__law_pick (aCons (xVar 2) (aCons (xIf (tVal (xOp gNe (xVar 4) (xC (.str "parse")))) (xVar 5) (xLst (aCons (xC .non) (aCons (xC (.int 0)) (aCons (xCall gAbs (aCons (xVar 3) aNil)) aNil))))) aNil)))) (sSeq (sAsg (xApply F__law_keeping (aCons (xVar 4) (aCons (xVar 6) aNil))) (gT 2 (gsCons (gN 7) (gsCons (gN 8) gsNil)))) (sIf (tOrF (tVal (xOp gNe (xApply F__law_words (aCons (xVar 7) aNil)) (xApply F__law_due (aCons (xVar 4) aNil)))) (tVal (xOp gNe (xCall gReprX (aCons (xVar 8) aNil)) (xCall gReprX (aCons (xVar 6) aNil))))) (sRet (xC (.bl false))) sPass))))
theorem s1_row {a0 a1 a2 a3 a4 a5 a6 a7 a8 : Option D} (s : Store) : body1 ((env a0 a1 a2 a3 a4 a5 a6 a7 a8).set 4 (some (.str "row"))) s = .nx (env a0 a1 a2 a3 (some (.str "row")) a5 a6 a7 a8) s := by
  have ne : ∀ s, gNe s (.lst ((["row", "base", "value"] : List Str).map D.str)) (.lst ((["row", "base", "value"] : List Str).map D.str)) = some (.bl false) := fun s => gNe_same (all_ok (by decide +kernel))
  unfold body1 env
  simp only [List.set_cons_zero, List.set_cons_succ, ev_sIf, ev_tVal, ev_xOp, ev_xApply, ev_aCons, ev_aNil, ev_xVar, List.getElem?_cons_zero, List.getElem?_cons_succ, Res.bind_ok, p_row, w_InvalidRow (show D.undL 0 [] = true from rfl), d_row, ne, lift_some, ev_tB, liftB_some, Res.thenS_ok, Bool.false_eq_true, if_false, ev_sPass]
theorem s1_lot {a0 a1 a2 a3 a4 a5 a6 a7 a8 : Option D} (s : Store) : body1 ((env a0 a1 a2 a3 a4 a5 a6 a7 a8).set 4 (some (.str "lot"))) s = .nx (env a0 a1 a2 a3 (some (.str "lot")) a5 a6 a7 a8) s := by
  have ne : ∀ s, gNe s (.lst ((["lot", "base", "value"] : List Str).map D.str)) (.lst ((["lot", "base", "value"] : List Str).map D.str)) = some (.bl false) := fun s => gNe_same (all_ok (by decide +kernel))
  unfold body1 env
  simp only [List.set_cons_zero, List.set_cons_succ, ev_sIf, ev_tVal, ev_xOp, ev_xApply, ev_aCons, ev_aNil, ev_xVar, List.getElem?_cons_zero, List.getElem?_cons_succ, Res.bind_ok, p_lot, w_InvalidLot (show D.undL 0 [] = true from rfl), d_lot, ne, lift_some, ev_tB, liftB_some, Res.thenS_ok, Bool.false_eq_true, if_false, ev_sPass]
theorem s1_book {a0 a1 a2 a3 a4 a5 a6 a7 a8 : Option D} (s : Store) : body1 ((env a0 a1 a2 a3 a4 a5 a6 a7 a8).set 4 (some (.str "book"))) s = .nx (env a0 a1 a2 a3 (some (.str "book")) a5 a6 a7 a8) s := by
  have ne : ∀ s, gNe s (.lst ((["book", "base", "value"] : List Str).map D.str)) (.lst ((["book", "base", "value"] : List Str).map D.str)) = some (.bl false) := fun s => gNe_same (all_ok (by decide +kernel))
  unfold body1 env
  simp only [List.set_cons_zero, List.set_cons_succ, ev_sIf, ev_tVal, ev_xOp, ev_xApply, ev_aCons, ev_aNil, ev_xVar, List.getElem?_cons_zero, List.getElem?_cons_succ, Res.bind_ok, p_book, w_InvalidBook (show D.undL 0 [] = true from rfl), d_book, ne, lift_some, ev_tB, liftB_some, Res.thenS_ok, Bool.false_eq_true, if_false, ev_sPass]
theorem s1_table {a0 a1 a2 a3 a4 a5 a6 a7 a8 : Option D} (s : Store) : body1 ((env a0 a1 a2 a3 a4 a5 a6 a7 a8).set 4 (some (.str "table"))) s = .nx (env a0 a1 a2 a3 (some (.str "table")) a5 a6 a7 a8) s := by
  have ne : ∀ s, gNe s (.lst ((["table", "base", "value"] : List Str).map D.str)) (.lst ((["table", "base", "value"] : List Str).map D.str)) = some (.bl false) := fun s => gNe_same (all_ok (by decide +kernel))
  unfold body1 env
  simp only [List.set_cons_zero, List.set_cons_succ, ev_sIf, ev_tVal, ev_xOp, ev_xApply, ev_aCons, ev_aNil, ev_xVar, List.getElem?_cons_zero, List.getElem?_cons_succ, Res.bind_ok, p_table, w_InvalidTable (show D.undL 0 [] = true from rfl), d_table, ne, lift_some, ev_tB, liftB_some, Res.thenS_ok, Bool.false_eq_true, if_false, ev_sPass]
theorem s1_poly {a0 a1 a2 a3 a4 a5 a6 a7 a8 : Option D} (s : Store) : body1 ((env a0 a1 a2 a3 a4 a5 a6 a7 a8).set 4 (some (.str "poly"))) s = .nx (env a0 a1 a2 a3 (some (.str "poly")) a5 a6 a7 a8) s := by
  have ne : ∀ s, gNe s (.lst ((["poly", "base", "value"] : List Str).map D.str)) (.lst ((["poly", "base", "value"] : List Str).map D.str)) = some (.bl false) := fun s => gNe_same (all_ok (by decide +kernel))
  unfold body1 env
  simp only [List.set_cons_zero, List.set_cons_succ, ev_sIf, ev_tVal, ev_xOp, ev_xApply, ev_aCons, ev_aNil, ev_xVar, List.getElem?_cons_zero, List.getElem?_cons_succ, Res.bind_ok, p_poly, w_InvalidPoly (show D.undL 0 [] = true from rfl), d_poly, ne, lift_some, ev_tB, liftB_some, Res.thenS_ok, Bool.false_eq_true, if_false, ev_sPass]
theorem s1_law {a0 a1 a2 a3 a4 a5 a6 a7 a8 : Option D} (s : Store) : body1 ((env a0 a1 a2 a3 a4 a5 a6 a7 a8).set 4 (some (.str "law"))) s = .nx (env a0 a1 a2 a3 (some (.str "law")) a5 a6 a7 a8) s := by
  have ne : ∀ s, gNe s (.lst ((["law", "base", "value"] : List Str).map D.str)) (.lst ((["law", "base", "value"] : List Str).map D.str)) = some (.bl false) := fun s => gNe_same (all_ok (by decide +kernel))
  unfold body1 env
  simp only [List.set_cons_zero, List.set_cons_succ, ev_sIf, ev_tVal, ev_xOp, ev_xApply, ev_aCons, ev_aNil, ev_xVar, List.getElem?_cons_zero, List.getElem?_cons_succ, Res.bind_ok, p_law, w_InvalidLaw (show D.undL 0 [] = true from rfl), d_law, ne, lift_some, ev_tB, liftB_some, Res.thenS_ok, Bool.false_eq_true, if_false, ev_sPass]
theorem s1_operation {a0 a1 a2 a3 a4 a5 a6 a7 a8 : Option D} (s : Store) : body1 ((env a0 a1 a2 a3 a4 a5 a6 a7 a8).set 4 (some (.str "operation"))) s = .nx (env a0 a1 a2 a3 (some (.str "operation")) a5 a6 a7 a8) s := by
  have ne : ∀ s, gNe s (.lst ((["operation", "base", "value"] : List Str).map D.str)) (.lst ((["operation", "base", "value"] : List Str).map D.str)) = some (.bl false) := fun s => gNe_same (all_ok (by decide +kernel))
  unfold body1 env
  simp only [List.set_cons_zero, List.set_cons_succ, ev_sIf, ev_tVal, ev_xOp, ev_xApply, ev_aCons, ev_aNil, ev_xVar, List.getElem?_cons_zero, List.getElem?_cons_succ, Res.bind_ok, p_operation, w_InvalidOperation (show D.undL 0 [] = true from rfl), d_operation, ne, lift_some, ev_tB, liftB_some, Res.thenS_ok, Bool.false_eq_true, if_false, ev_sPass]
theorem s1_tale {a0 a1 a2 a3 a4 a5 a6 a7 a8 : Option D} (s : Store) : body1 ((env a0 a1 a2 a3 a4 a5 a6 a7 a8).set 4 (some (.str "tale"))) s = .nx (env a0 a1 a2 a3 (some (.str "tale")) a5 a6 a7 a8) s := by
  have ne : ∀ s, gNe s (.lst ((["tale", "base", "value"] : List Str).map D.str)) (.lst ((["tale", "base", "value"] : List Str).map D.str)) = some (.bl false) := fun s => gNe_same (all_ok (by decide +kernel))
  unfold body1 env
  simp only [List.set_cons_zero, List.set_cons_succ, ev_sIf, ev_tVal, ev_xOp, ev_xApply, ev_aCons, ev_aNil, ev_xVar, List.getElem?_cons_zero, List.getElem?_cons_succ, Res.bind_ok, p_tale, w_InvalidTale (show D.undL 0 [] = true from rfl), d_tale, ne, lift_some, ev_tB, liftB_some, Res.thenS_ok, Bool.false_eq_true, if_false, ev_sPass]
theorem loop1 {a0 a1 a2 a3 a4 a5 a6 a7 a8 : Option D} (s0 s : Store) : forD (gN 4) body1 [] s0 [.str "row", .str "lot", .str "book", .str "table", .str "poly", .str "law", .str "operation", .str "tale"] (env a0 a1 a2 a3 a4 a5 a6 a7 a8) s = .nx (env a0 a1 a2 a3 (some (.str "tale")) a5 a6 a7 a8) s := by
  exact (fstep rfl (s1_row s)).trans <| (fstep rfl (s1_lot s)).trans <| (fstep rfl (s1_book s)).trans <| (fstep rfl (s1_table s)).trans <| (fstep rfl (s1_poly s)).trans <| (fstep rfl (s1_law s)).trans <| (fstep rfl (s1_operation s)).trans <| (fstep rfl (s1_tale s)).trans <| forD_nil' ..
/-- one turn of the second loop -/
theorem turn {w cls fld : Str} {c : Int} {n : Int} {L : List Str} {items : List D} (h1 : -1000 ≤ n) (h2 : n < 1000000) (hk : ∀ d, d ∈ items → ∀ st, F__law_keeping [.str w, d] st = .ok (.tup [.exo cls fld [d], d]) st) (hg : ∀ d, d ∈ items → GoodV c d)
    (hw : ∀ f ds, D.undL 0 ds = true → ∀ st, F__law_words [.exo cls f ds] st = .ok (.lst (L.map D.str)) st) (hdue : ∀ st, F__law_due [.str w] st = .ok (.lst (L.map D.str)) st) (hL : (L.all PyData.strOk) = true)
    (hsel : ∀ (a0 a1 a2 a6 a7 a8 : Option D) s, (xIf (tVal (xOp gNe (xVar 4) (xC (.str "parse")))) (xVar 5) (xLst (aCons (xC .non) (aCons (xC (.int 0)) (aCons (xCall gAbs (aCons (xVar 3) aNil)) aNil))))) (env a0 a1 a2 (some (.int n)) (some (.str w)) (some (.lst (vals n))) a6 a7 a8) s = .ok (.lst items) s)
    (hi : 0 < items.length ∧ items.length < 1000) (hu : ∀ m, items.all (D.und m) = true) {st : Store} {l k : Nat} {t : Tri} (S : Dst st l) (G : Gd k t) (hkk : k < 2 ^ 60) (a0 a1 a5 a6 a7 a8 : Option D) :
    ∃ b5 b6 b7 b8 t', body2 (env a0 a1 (some (.loc l)) (some (.int n)) (some (.str w)) a5 a6 a7 a8) (st.set l (Dc t)) = .nx (env a0 a1 (some (.loc l)) (some (.int n)) (some (.str w)) b5 b6 b7 b8) (st.set l (Dc t')) ∧ Gd (k + 1) t' := by
  have gs : ∀ s, gStrI s [.int n] = some (.str (PySem.Str.ofString (toString n))) := fun s => by
    show (if _ then _ else _) = _
    rw [if_pos (by have := log250 (small_n h1 h2); omega)]
  have gp : ∀ s, gPow s (.int 10) (.int 60) = some (.int (10 ^ 60)) := fun s => by kernel_rfl
  have e5 : ∀ (a5 a6 a7 a8 : Option D) s, (xLst (aCons (xVar 3) (aCons (xCall gStrI (aCons (xVar 3) aNil)) (aCons (xC .non) (aCons (xTup (aCons (xC (.str "ring")) aNil)) (aCons (xC (.bl true)) (aCons (xTup aNil) (aCons (xOp gAdd (xOp gPow (xC (.int 10)) (xC (.int 60))) (xVar 3)) (aCons (xLst (aCons (xVar 3) aNil)) (aCons (xDisp (pCons (xC (.str "a")) (xVar 3) pNil)) aNil)))))))))) (env a0 a1 (some (.loc l)) (some (.int n)) (some (.str w)) a5 a6 a7 a8) s = .ok (.lst (vals n)) s := fun a5 a6 a7 a8 s => by
    have xd : ∀ s, (xDisp (pCons (xC (.str "a")) (xVar 3) pNil)) (env a0 a1 (some (.loc l)) (some (.int n)) (some (.str w)) a5 a6 a7 a8) s = .ok (.dct [.inr "a"] [.int n]) s := fun s => by kernel_rfl
    unfold env at xd ⊢
    simp only [ev_xLst, ev_aCons, ev_aNil, ev_xVar, ev_xCall, ev_xC, ev_xTup, ev_xOp, List.getElem?_cons_zero, List.getElem?_cons_succ, Res.bind_ok, gs, gp, lift_some, gAdd_int, xd]
    rfl
  obtain ⟨d, hd, t', G', ep⟩ := pick_u (items := items) G hkk hi.1 hi.2 hu
  have ep := ep S
  rw [← e_pick] at ep
  obtain ⟨r, hr⟩ := (hg d hd).rep
  have hud : D.undL 0 [d] = true := by simp [D.undL, (hg d hd).und]
  have ne : ∀ s, gNe s (.lst (L.map D.str)) (.lst (L.map D.str)) = some (.bl false) := fun s => gNe_same (all_ok hL)
  have ner : ∀ s, gNe s (.str r) (.str r) = some (.bl false) := fun s => by
    show some (D.bl (!decide (r = r))) = _
    simp
  refine ⟨some (.lst (vals n)), some d, some (.exo cls fld [d]), some d, t', ?_, G'⟩
  unfold body2
  have hsel := hsel a0 a1 (some (.loc l)) a6 a7 a8
  have e5 := e5 a5 a6 a7 a8
  unfold env at e5 hsel ⊢
  simp only [ev_sSeq, ev_sSet, e5, Res.thenS_ok, List.set_cons_zero, List.set_cons_succ, seq_nx, ev_xApply, ev_aCons, ev_aNil, ev_xVar, List.getElem?_cons_zero, List.getElem?_cons_succ, Res.bind_ok, hsel, ep, ev_sAsg, hk d hd, ev_gT, List.length_cons, List.length_nil, Nat.reduceAdd, ev_gsCons, ev_gN, Option.bind_some, ev_gsNil, if_true, ev_sIf, ev_tOrF, ev_tVal, ev_xOp, hw fld [d] hud, hdue, ne, lift_some, ev_tB, liftB_some, Bool.false_eq_true, if_false, ev_xCall, hr, ner, ev_sPass]
theorem sel_parse {n : Int} (a0 a1 a2 a6 a7 a8 : Option D) (s : Store) : (xIf (tVal (xOp gNe (xVar 4) (xC (.str "parse")))) (xVar 5) (xLst (aCons (xC .non) (aCons (xC (.int 0)) (aCons (xCall gAbs (aCons (xVar 3) aNil)) aNil))))) (env a0 a1 a2 (some (.int n)) (some (.str "parse")) (some (.lst (vals n))) a6 a7 a8) s = .ok (.lst (pvals n)) s := by
  have q : ∀ s, gNe s (.str "parse") (.str "parse") = some (.bl false) := fun s => by kernel_rfl
  unfold env
  simp only [ev_xIf, ev_tVal, ev_xOp, ev_xVar, ev_xC, List.getElem?_cons_zero, List.getElem?_cons_succ, Res.bind_ok, q, lift_some, ev_tB, liftB_some, Bool.false_eq_true, if_false, ev_xLst, ev_aCons, ev_aNil, ev_xCall, gAbs_int]
  rfl
theorem t_parse {n : Int} (h1 : -1000 ≤ n) (h2 : n < 1000000) {st : Store} {l k : Nat} {t : Tri} (S : Dst st l) (G : Gd k t) (hkk : k < 2 ^ 60) (a0 a1 a5 a6 a7 a8 : Option D) :
    ∃ b5 b6 b7 b8 t', body2 (env a0 a1 (some (.loc l)) (some (.int n)) (some (.str "parse")) a5 a6 a7 a8) (st.set l (Dc t)) = .nx (env a0 a1 (some (.loc l)) (some (.int n)) (some (.str "parse")) b5 b6 b7 b8) (st.set l (Dc t')) ∧ Gd (k + 1) t' :=
  turn (w := "parse") (cls := "ParseError") (fld := "line") (c := (-1)) (L := ["parse", "base", "value"]) (items := pvals n) h1 h2 (fun d hd st => k_parse (pvals_good h1 h2 hd) st) (fun d hd => pvals_good h1 h2 hd) (fun f ds hu st => w_ParseError hu st) d_parse (by decide +kernel) (fun a0 a1 a2 a6 a7 a8 s => sel_parse a0 a1 a2 a6 a7 a8 s) ⟨by simp [pvals], by simp [pvals]⟩ (fun m => by kernel_rfl) S G hkk a0 a1 a5 a6 a7 a8
theorem t_unknown {n : Int} (h1 : -1000 ≤ n) (h2 : n < 1000000) {st : Store} {l k : Nat} {t : Tri} (S : Dst st l) (G : Gd k t) (hkk : k < 2 ^ 60) (a0 a1 a5 a6 a7 a8 : Option D) :
    ∃ b5 b6 b7 b8 t', body2 (env a0 a1 (some (.loc l)) (some (.int n)) (some (.str "unknown")) a5 a6 a7 a8) (st.set l (Dc t)) = .nx (env a0 a1 (some (.loc l)) (some (.int n)) (some (.str "unknown")) b5 b6 b7 b8) (st.set l (Dc t')) ∧ Gd (k + 1) t' :=
  turn (w := "unknown") (cls := "UnknownName") (fld := "wanted") (c := (114)) (L := ["unknown", "key", "lookup"]) (items := vals n) h1 h2 (fun d hd st => k_unknown (vals_good h1 h2 hd) st) (fun d hd => vals_good h1 h2 hd) (fun f ds hu st => w_UnknownName hu st) d_unknown (by decide +kernel) (fun a0 a1 a2 a6 a7 a8 s => by kernel_rfl) ⟨by simp [vals], by simp [vals]⟩ (fun m => by kernel_rfl) S G hkk a0 a1 a5 a6 a7 a8
theorem t_count {n : Int} (h1 : -1000 ≤ n) (h2 : n < 1000000) {st : Store} {l k : Nat} {t : Tri} (S : Dst st l) (G : Gd k t) (hkk : k < 2 ^ 60) (a0 a1 a5 a6 a7 a8 : Option D) :
    ∃ b5 b6 b7 b8 t', body2 (env a0 a1 (some (.loc l)) (some (.int n)) (some (.str "count")) a5 a6 a7 a8) (st.set l (Dc t)) = .nx (env a0 a1 (some (.loc l)) (some (.int n)) (some (.str "count")) b5 b6 b7 b8) (st.set l (Dc t')) ∧ Gd (k + 1) t' :=
  turn (w := "count") (cls := "InvalidCount") (fld := "given") (c := (114)) (L := ["count", "index", "lookup"]) (items := vals n) h1 h2 (fun d hd st => k_count (vals_good h1 h2 hd) st) (fun d hd => vals_good h1 h2 hd) (fun f ds hu st => w_InvalidCount hu st) d_count (by decide +kernel) (fun a0 a1 a2 a6 a7 a8 s => by kernel_rfl) ⟨by simp [vals], by simp [vals]⟩ (fun m => by kernel_rfl) S G hkk a0 a1 a5 a6 a7 a8
theorem t_many {n : Int} (h1 : -1000 ≤ n) (h2 : n < 1000000) {st : Store} {l k : Nat} {t : Tri} (S : Dst st l) (G : Gd k t) (hkk : k < 2 ^ 60) (a0 a1 a5 a6 a7 a8 : Option D) :
    ∃ b5 b6 b7 b8 t', body2 (env a0 a1 (some (.loc l)) (some (.int n)) (some (.str "many")) a5 a6 a7 a8) (st.set l (Dc t)) = .nx (env a0 a1 (some (.loc l)) (some (.int n)) (some (.str "many")) b5 b6 b7 b8) (st.set l (Dc t')) ∧ Gd (k + 1) t' :=
  turn (w := "many") (cls := "TooMany") (fld := "limit") (c := (114)) (L := ["many", "over", "arithmetic"]) (items := vals n) h1 h2 (fun d hd st => k_many (vals_good h1 h2 hd) st) (fun d hd => vals_good h1 h2 hd) (fun f ds hu st => w_TooMany hu st) d_many (by decide +kernel) (fun a0 a1 a2 a6 a7 a8 s => by kernel_rfl) ⟨by simp [vals], by simp [vals]⟩ (fun m => by kernel_rfl) S G hkk a0 a1 a5 a6 a7 a8
theorem t_refused {n : Int} (h1 : -1000 ≤ n) (h2 : n < 1000000) {st : Store} {l k : Nat} {t : Tri} (S : Dst st l) (G : Gd k t) (hkk : k < 2 ^ 60) (a0 a1 a5 a6 a7 a8 : Option D) :
    ∃ b5 b6 b7 b8 t', body2 (env a0 a1 (some (.loc l)) (some (.int n)) (some (.str "refused")) a5 a6 a7 a8) (st.set l (Dc t)) = .nx (env a0 a1 (some (.loc l)) (some (.int n)) (some (.str "refused")) b5 b6 b7 b8) (st.set l (Dc t')) ∧ Gd (k + 1) t' :=
  turn (w := "refused") (cls := "Refused") (fld := "reason") (c := (114)) (L := ["refused", "arithmetic"]) (items := vals n) h1 h2 (fun d hd st => k_refused (vals_good h1 h2 hd) st) (fun d hd => vals_good h1 h2 hd) (fun f ds hu st => w_Refused hu st) d_refused (by decide +kernel) (fun a0 a1 a2 a6 a7 a8 s => by kernel_rfl) ⟨by simp [vals], by simp [vals]⟩ (fun m => by kernel_rfl) S G hkk a0 a1 a5 a6 a7 a8
theorem t_undo {n : Int} (h1 : -1000 ≤ n) (h2 : n < 1000000) {st : Store} {l k : Nat} {t : Tri} (S : Dst st l) (G : Gd k t) (hkk : k < 2 ^ 60) (a0 a1 a5 a6 a7 a8 : Option D) :
    ∃ b5 b6 b7 b8 t', body2 (env a0 a1 (some (.loc l)) (some (.int n)) (some (.str "undo")) a5 a6 a7 a8) (st.set l (Dc t)) = .nx (env a0 a1 (some (.loc l)) (some (.int n)) (some (.str "undo")) b5 b6 b7 b8) (st.set l (Dc t')) ∧ Gd (k + 1) t' :=
  turn (w := "undo") (cls := "NothingToUndo") (fld := "wanted") (c := (114)) (L := ["undo", "lookup"]) (items := vals n) h1 h2 (fun d hd st => k_undo (vals_good h1 h2 hd) st) (fun d hd => vals_good h1 h2 hd) (fun f ds hu st => w_NothingToUndo hu st) d_undo (by decide +kernel) (fun a0 a1 a2 a6 a7 a8 s => by kernel_rfl) ⟨by simp [vals], by simp [vals]⟩ (fun m => by kernel_rfl) S G hkk a0 a1 a5 a6 a7 a8
theorem loop2 {n : Int} (h1 : -1000 ≤ n) (h2 : n < 1000000) {st : Store} {l k : Nat} {t : Tri} (S : Dst st l) (G : Gd k t) (hkk : k + 10 < 2 ^ 60) (a0 a1 a4 a5 a6 a7 a8 : Option D) (s0 : Store) :
    ∃ b4 b5 b6 b7 b8 t', forD (gN 4) body2 [] s0 [.str "parse", .str "unknown", .str "count", .str "many", .str "refused", .str "undo"] (env a0 a1 (some (.loc l)) (some (.int n)) a4 a5 a6 a7 a8) (st.set l (Dc t)) = .nx (env a0 a1 (some (.loc l)) (some (.int n)) b4 b5 b6 b7 b8) (st.set l (Dc t')) := by
  obtain ⟨x5, x6, x7, x8, t1, e1, G1⟩ := t_parse h1 h2 S G (by omega) a0 a1 a5 a6 a7 a8
  obtain ⟨y5, y6, y7, y8, t2, e2, G2⟩ := t_unknown h1 h2 S G1 (by omega) a0 a1 x5 x6 x7 x8
  obtain ⟨z5, z6, z7, z8, t3, e3, G3⟩ := t_count h1 h2 S G2 (by omega) a0 a1 y5 y6 y7 y8
  obtain ⟨u5, u6, u7, u8, t4, e4, G4⟩ := t_many h1 h2 S G3 (by omega) a0 a1 z5 z6 z7 z8
  obtain ⟨v5, v6, v7, v8, t5, e5, G5⟩ := t_refused h1 h2 S G4 (by omega) a0 a1 u5 u6 u7 u8
  obtain ⟨w5, w6, w7, w8, t6, e6, G6⟩ := t_undo h1 h2 S G5 (by omega) a0 a1 v5 v6 v7 v8
  refine ⟨some (.str "undo"), w5, w6, w7, w8, t6, ?_⟩
  exact (fstep rfl e1).trans <| (fstep rfl e2).trans <| (fstep rfl e3).trans <| (fstep rfl e4).trans <| (fstep rfl e5).trans <| (fstep rfl e6).trans <| forD_nil' ..
end K10
set_option maxHeartbeats 4000000
namespace K10
open PySem PySem.Spec PyProof.Rows L2 DL
variable [TabsCtx]
def outB : Fs := (sSeq (sSet 2 (xApply F__law_dice (aCons (xVar 0) (aCons (xVar 1) aNil)))) (sSeq (sSet 3 (xOp gSub (xApply F__law_roll (aCons (xVar 2) (aCons (xOp gPow (xC (.int 10)) (xC (.int 6))) aNil))) (xC (.int 1000)))) (sSeq (sFor (iOfX (xTup (aCons (xC (.str "row")) (aCons (xC (.str "lot")) (aCons (xC (.str "book")) (aCons (xC (.str "table")) (aCons (xC (.str "poly")) (aCons (xC (.str "law")) (aCons (xC (.str "operation")) (aCons (xC (.str "tale")) aNil)))))))))) (gN 4) (sIf (tVal (xOp gNe (xApply F__law_words (aCons (xApply F__law_plain (aCons (xVar 4) aNil)) aNil)) (xApply F__law_due (aCons (xVar 4) aNil)))) (sRet (xC (.bl false))) sPass)) (sFor (iOfX (xTup (aCons (xC (.str "parse")) (aCons (xC (.str "unknown")) (aCons (xC (.str "count")) (aCons (xC (.str "many")) (aCons (xC (.str "refused")) (aCons (xC (.str "undo")) aNil)))))))) (gN 4) (sSeq (sSet 5 (xLst (aCons (xVar 3) (aCons (xCall gStrI (aCons (xVar 3) aNil)) (aCons (xC .non) (aCons (xTup (aCons (xC (.str "ring")) aNil)) (aCons (xC (.bl true)) (aCons (xTup aNil) (aCons (xOp gAdd (xOp gPow (xC (.int 10)) (xC (.int 60))) (xVar 3)) (aCons (xLst (aCons (xVar 3) aNil)) (aCons (xDisp (pCons (xC (.str "a")) (xVar 3) pNil)) aNil))))))))))) (sSeq (sSet 6 (xApply F__law_pick (aCons (xVar 2) (aCons (xIf (tVal (xOp gNe (xVar 4) (xC (.str "parse")))) (xVar 5) (xLst (aCons (xC .non) (aCons (xC (.int 0)) (aCons (xCall gAbs (aCons (xVar 3) aNil)) aNil))))) aNil)))) (sSeq (sAsg (xApply F__law_keeping (aCons (xVar 4) (aCons (xVar 6) aNil))) (gT 2 (gsCons (gN 7) (gsCons (gN 8) gsNil)))) (sIf (tOrF (tVal (xOp gNe (xApply F__law_words (aCons (xVar 7) aNil)) (xApply F__law_due (aCons (xVar 4) aNil)))) (tVal (xOp gNe (xCall gReprX (aCons (xVar 8) aNil)) (xCall gReprX (aCons (xVar 6) aNil))))) (sRet (xC (.bl false))) sPass))))))))
theorem it1 (ρ : DEnv) (s : Store) : (iOfX (xTup (aCons (xC (.str "row")) (aCons (xC (.str "lot")) (aCons (xC (.str "book")) (aCons (xC (.str "table")) (aCons (xC (.str "poly")) (aCons (xC (.str "law")) (aCons (xC (.str "operation")) (aCons (xC (.str "tale")) aNil)))))))))) ρ s = .ok ([.str "row", .str "lot", .str "book", .str "table", .str "poly", .str "law", .str "operation", .str "tale"], []) s := by kernel_rfl
theorem it2 (ρ : DEnv) (s : Store) : (iOfX (xTup (aCons (xC (.str "parse")) (aCons (xC (.str "unknown")) (aCons (xC (.str "count")) (aCons (xC (.str "many")) (aCons (xC (.str "refused")) (aCons (xC (.str "undo")) aNil)))))))) ρ s = .ok ([.str "parse", .str "unknown", .str "count", .str "many", .str "refused", .str "undo"], []) s := by kernel_rfl
theorem outB_eq : outB = (sSeq (sSet 2 (xApply F__law_dice (aCons (xVar 0) (aCons (xVar 1) aNil)))) (sSeq (sSet 3 (xOp gSub (xApply F__law_roll (aCons (xVar 2) (aCons (xOp gPow (xC (.int 10)) (xC (.int 6))) aNil))) (xC (.int 1000)))) (sSeq (sFor (iOfX (xTup (aCons (xC (.str "row")) (aCons (xC (.str "lot")) (aCons (xC (.str "book")) (aCons (xC (.str "table")) (aCons (xC (.str "poly")) (aCons (xC (.str "law")) (aCons (xC (.str "operation")) (aCons (xC (.str "tale")) aNil)))))))))) (gN 4) body1) (sFor (iOfX (xTup (aCons (xC (.str "parse")) (aCons (xC (.str "unknown")) (aCons (xC (.str "count")) (aCons (xC (.str "many")) (aCons (xC (.str "refused")) (aCons (xC (.str "undo")) aNil)))))))) (gN 4) body2)))) := rfl
theorem outer_ok {ns : List Int} {m : Nat} (hm : m ≤ 8) {s0 : Store} : ∃ (b1 b2 b3 b4 b5 b6 b7 b8 : Option D) (ts : List Tri), forD (gN 1) outB [] s0 (rngI 0 m) (env (some (.rol (ns.map D.int))) none none none none none none none none) [] = .nx (env (some (.rol (ns.map D.int))) b1 b2 b3 b4 b5 b6 b7 b8) (ts.map Dc) := by
  obtain ⟨ρ2, s2, e, b1, b2, b3, b4, b5, b6, b7, b8, ts, rfl, rfl⟩ := forD_nx (g := gN 1) (body := outB) (ws := []) (s0 := s0) (fun i ρ s => ∃ (b1 b2 b3 b4 b5 b6 b7 b8 : Option D) (ts : List Tri), ρ = env (some (.rol (ns.map D.int))) b1 b2 b3 b4 b5 b6 b7 b8 ∧ s = ts.map Dc) (rngI 0 m) 0 (env (some (.rol (ns.map D.int))) none none none none none none none none) [] ⟨none, none, none, none, none, none, none, none, [], rfl, rfl⟩ (by
    rintro j d ρ s hd ⟨b1, b2, b3, b4, b5, b6, b7, b8, ts, rfl, rfl⟩
    obtain ⟨hj, hd⟩ := List.getElem?_eq_some_iff.mp hd
    have hjm : j < m := by simpa [rngI] using hj
    have hd : d = .int (j : Nat) := by rw [← hd]; simp [rngI]
    subst hd
    obtain ⟨t, ht, G⟩ := dice_ok (st := ts.map Dc) (ns := ns) (k := j) (by omega)
    rw [← e_dice] at ht
    have ha : ts.map Dc ++ [Dc t] = (ts ++ [t]).map Dc := by simp
    rw [ha] at ht
    rw [show ((ts.map Dc).length) = ts.length from List.length_map ..] at ht
    obtain ⟨v, t1, v0, v1, G1, e1⟩ := roll_u (k := 1000000) G (by decide) (by decide) (by decide)
    have e1 := e1 (dst_dc ts t)
    rw [set_dc, set_dc, ← e_roll] at e1
    have hp : ∀ s, gPow s (.int 10) (.int 6) = some (.int 1000000) := fun s => by kernel_rfl
    obtain ⟨c4, c5, c6, c7, c8, t2, e2⟩ := loop2 (n := v - 1000) (by omega) (by omega) (dst_dc ts t1) G1 (by decide) (some (.rol (ns.map D.int))) (some (.int (j : Nat))) (some (.str "tale")) b5 b6 b7 b8 ((ts ++ [t1]).map Dc)
    rw [set_dc, set_dc] at e2
    refine ⟨_, env (some (.rol (ns.map D.int))) (some (.int (j : Nat))) (some (.loc ts.length)) (some (.int (v - 1000))) c4 c5 c6 c7 c8, (ts ++ [t2]).map Dc, rfl, ?_, sameAt_nil .., ⟨_, _, _, _, _, _, _, _, ts ++ [t2], rfl, rfl⟩⟩
    have l1 := loop1 (a0 := some (.rol (ns.map D.int))) (a1 := some (.int (j : Nat))) (a2 := some (.loc ts.length)) (a3 := some (.int (v - 1000))) (a4 := b4) (a5 := b5) (a6 := b6) (a7 := b7) (a8 := b8) ((ts ++ [t1]).map Dc) ((ts ++ [t1]).map Dc)
    rw [outB_eq]
    unfold env at l1 e2 ⊢
    simp only [List.set_cons_zero, List.set_cons_succ, ev_sSeq, ev_sSet, ev_xApply, ev_aCons, ev_aNil, ev_xVar, ev_xOp, ev_xC, List.getElem?_cons_zero, List.getElem?_cons_succ, Res.bind_ok, ht, Res.thenS_ok, seq_nx, hp, lift_some, e1, gSub_int, ev_sFor, it1, it2, sameAt_nil, if_true, l1, e2])
  exact ⟨b1, b2, b3, b4, b5, b6, b7, b8, ts, e⟩
theorem gLenM_rol (s : Store) (ds : List D) : gLenM s [.rol ds] = some (.int (ds.length : Nat)) := rfl
theorem mathT (ns : List Int) (hns : ns.length ≤ 63) : ∃ st, F_law [.rol (ns.map D.int)] [] = .ok (.bl true) st := by
  refine ⟨[], ?_⟩
  obtain ⟨m, hm6, hmv, hrng⟩ := spots_ok ns 4 (by decide) (by decide)
  obtain ⟨b1, b2, b3, b4, b5, b6, b7, b8, ts, hf⟩ := outer_ok (ns := ns) (m := m) (by omega) (s0 := [])
  have st0 : DL.start 9 [.rol (ns.map D.int)] = env (some (.rol (ns.map D.int))) none none none none none none none none := rfl
  have fin : ∀ s, gEq s (.lst ((["base", "value"] : List Str).map D.str)) (.lst [.str "base", .str "value"]) = some (.bl true) := fun s => by kernel_rfl
  have hb : b_law (DL.start 9 [.rol (ns.map D.int)]) [] = .ret (.bl true) (ts.map Dc) := by
    rw [st0]
    show (sSeq (sFor (iRng rng1 (aCons (xCall gMax (aCons (xC (.int 1)) (aCons (xCall gMin (aCons (xC (.int 4)) (aCons (xCall gLenM (aCons (xVar 0) aNil)) aNil))) aNil))) aNil)) (gN 1) outB) (sRet (xOp gEq (xApply F__law_words (aCons (xMkE "SeriesError") aNil)) (xLst (aCons (xC (.str "base")) (aCons (xC (.str "value")) aNil)))))) _ _ = _
    rw [ev_sSeq, ev_sFor]
    unfold env at hf ⊢
    simp only [ev_iRng, ev_aCons, ev_xCall, ev_xC, Res.bind_ok, ev_aNil, ev_xVar, List.getElem?_cons_zero, gLenM_rol, lift_some, gMin_two, gMax_two]
    rw [show (if (if ((ns.map D.int).length : Int) < 4 then ((ns.map D.int).length : Int) else 4) > 1 then (if ((ns.map D.int).length : Int) < 4 then ((ns.map D.int).length : Int) else 4) else 1) = (m : Nat) from hmv, hrng]
    have hmk : ∀ ρ s, xMkE "SeriesError" ρ s = .ok (.exo "SeriesError" "" []) s := fun _ _ => rfl
    simp only [liftI_some, Res.thenS_ok, sameAt_nil, if_true, hf, seq_nx, ev_sRet, ev_xOp, ev_xApply, ev_aCons, ev_aNil, hmk, Res.bind_ok, w_SeriesError (show D.undL 0 [] = true from rfl), ev_xLst, ev_xC, fin, lift_some]
  show runZ 9 b_law [.rol (ns.map D.int)] [] = _
  unfold runZ runD
  rw [if_pos (hu_rol ns), hb]
  rfl
omit [TabsCtx] in
theorem math (ns : List Int) (hns : ns.length ≤ 63) : ∃ st, F_law [.rol (ns.map D.int)] [] = .ok (.bl true) st := @mathT DL.tc0 ns hns
end K10
open PySem PySem.W PySem.Calls PyProof.Rows
set_option maxRecDepth 100000 in
set_option maxHeartbeats 0 in
theorem PySem.Challenge.cw_shiftlaws_k10_whole_errors_holds : PySem.Challenge.rw_shiftlaws_k10_whole_errors.Holds := by
  w_on
  refine K10.early fun said => ?_
  refine HandSHeadRun.head_any (r := OpenLaw.row PySem.Challenge.rw_shiftlaws_k10_whole_errors) (q := view (OpenLaw.row PySem.Challenge.rw_shiftlaws_k10_whole_errors).prog [24]) (H := K10.hk) (ob := K10.ob) (M := 40000) (loose := K10.loose) (d := HandSHeadRun.topDef (OpenLaw.row PySem.Challenge.rw_shiftlaws_k10_whole_errors).prog 24) (kwd := []) K10.ob_eq
    (by kernel_rfl) (fun s => by kernel_rfl) K10.run (by kernel_rfl) (by kernel_rfl) (by kernel_rfl) (by rfl) (by first | assumption | decide +kernel) (by decide +kernel) K10.end_b ?hw ?hc
  case hw => w_witness2
  case hc =>
    refine DL.lawDT (l := PySem.Challenge.rw_shiftlaws_k10_whole_errors) (n := 63) (x := "script") rfl (by decide) (by kernel_rfl) ?F
    intro w mg fa h Y G hmg0
    obtain ⟨K, KX, c⟩ := Y
    have hmg : mg ("law" : PySem.Str) = some (.ref fa) := by
      have e : (HandSHeadRun.topDef (OpenLaw.row PySem.Challenge.rw_shiftlaws_k10_whole_errors).prog 24).name = ("law" : PySem.Str) := by kernel_rfl
      rw [← e]
      exact hmg0
    have hga : mg ("law" : PySem.Str) = some (.ref (He.ga K "law")) := He.glo_ok KX G (c.fa (.glo "law") (List.mem_of_getElem? (i := 7) rfl))
    cases (Option.some.inj (hmg.symm.trans hga))
    obtain ⟨fd, D⟩ := c.fn _ (List.mem_of_getElem? (i := 7) (show K10.fns[7]? = some _ from rfl))
    have b := L2.FunD.bindsA (ps := ["script"]) D fun _ _ _ _ _ _ us hl => match us, hl with | [_], _ => rfl
    refine ⟨K, fd, 3, K10.F_law, K10.cs K, ⟨rfl, by decide, by decide⟩, KX, fun s v => b s [v] rfl, (@K10.cs_ok ⟨[]⟩ _ _ c), fun ns hl => K10.math ns hl, fun base X2 G2 TB => ?_⟩
    letI : DL.TabsCtx := ⟨(K10.cs K).map fun p => p.2⟩
    exact K10.ok_law (K10.txt_of X2 G2 c TB rfl) D
