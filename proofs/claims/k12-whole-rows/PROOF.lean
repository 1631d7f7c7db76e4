import PyProof.Rows.All
import HandS.ForMost
import HandS.ForExc
import HandS.Wide
import HandS.WideMore
import HandS.TupAny
import HandS.TupMul
import HandS.Zip
import HandS.IsInst
import HandS.Walk
import HandS.CallSlots
import HandS.Flow
import HandS.Small
import HandS.Defaults
import HandS.HeadEnd
import HandS.HeadHook1
import HandS.HeadHook2
import HandS.Head0
import HandS.Head1
import HandS.Head2
import KE.KEqNest
import HandS.Codes
import HandS.Style
import PyProof.Rows.RuleB_pow
import KE.GoesMore
import KE.GoesZip
import KE.GoesEnum
import HandS.SortInts
import HandS.Set
import HandS.Strs
import PyProof.ReprReads
import PyProof.ReprRoads
import PyProof.CallFns
import HandS.SetFor
import KE.KSortKey
import HandS.Keys
import HandS.SortKw
import PyProof.ReprLen
import PyProof.Rows.RegStrFacts
import PySem.Challenge.RW_shiftlaws_k12_whole_rows
set_option Elab.async false
set_option linter.all false
set_option maxRecDepth 100000
set_option maxHeartbeats 4000000
namespace DL
open PySem PySem.Spec PyProof.Rows L2
/-- plain data: immutable trees, and places of what may change -/
inductive D where
  | non | bl (b : Bool) | int (i : Int) | str (x : Str) | ty (n : String) | ob (a : Addr)
  | tup (ds : List D) | lst (ds : List D) | rol (ds : List D) | loc (l : Nat)
  deriving Inhabited
/-- what may change -/
inductive Cell where
  | lst (ds : List D) | dic (kvs : List (Key × D)) | ins (C : Addr) (fs : List (Str × D))
  deriving Inhabited
abbrev Store := List Cell
abbrev DEnv := List (Option D)
abbrev Sg := L2.St
/-- the written part, and addresses that no data stands at -/
structure KB where
  K : PySem.W.Frag
  B : List Addr
def TK (K : PySem.W.Frag) (a : Addr) (xs : List V) : Prop :=
  ∃ (o : Obj) (its : Array Value) (n : Nat), K.lookup a = some o ∧ o.cls = .type "tuple" ∧ o.data = .seq its n ∧ its.size ≤ sizeLine ∧ Vals xs its.toList
def LK (K : PySem.W.Frag) (a : Addr) (xs : List V) : Prop :=
  ∃ (o : Obj) (its : Array Value) (n : Nat), K.lookup a = some o ∧ o.cls = .type "list" ∧ o.dict = none ∧ o.data = .seq its n ∧ its.size ≤ sizeLine ∧ Vals xs its.toList
mutual
def Rep (K : KB) (H : Hp) (m : List Addr) : D → V → Prop
  | .non, v => v = .non
  | .bl b, v => v = .bl b
  | .int i, v => v = .int i
  | .str x, v => v = .str x
  | .ty n, v => v = .ty n
  | .ob a, v => v = .ref a
  | .tup ds, v => ∃ a vs, v = .ref a ∧ ((Rd H a (.tup vs) ∧ a ∉ m ∧ a ∉ K.B) ∨ TK K.K a vs) ∧ RepL K H m ds vs
  | .lst ds, v => ∃ a vs, v = .ref a ∧ (H a = some (.lst vs) ∧ a ∉ m ∧ a ∉ K.B) ∧ RepL K H m ds vs
  | .rol ds, v => ∃ a vs, v = .ref a ∧ (((∃ o, H a = some (.frz o (.lst vs))) ∧ a ∉ m ∧ a ∉ K.B) ∨ LK K.K a vs) ∧ RepL K H m ds vs
  | .loc l, v => ∃ a, v = .ref a ∧ m[l]? = some a
def RepL (K : KB) (H : Hp) (m : List Addr) : List D → List V → Prop
  | [], vs => vs = []
  | d :: ds, vs => ∃ v r, vs = v :: r ∧ Rep K H m d v ∧ RepL K H m ds r
end
def RepP {κ : Type} (K : KB) (H : Hp) (m : List Addr) : List (κ × D) → List (κ × V) → Prop
  | [], vs => vs = []
  | (k, d) :: ds, vs => ∃ v r, vs = (k, v) :: r ∧ Rep K H m d v ∧ RepP K H m ds r
def RepC (K : KB) (H : Hp) (m : List Addr) : Cell → Addr → Prop
  | .lst ds, a => ∃ vs, H a = some (.lst vs) ∧ RepL K H m ds vs
  | .dic kvs, a => ∃ vs, H a = some (.dK vs) ∧ RepP K H m kvs vs
  | .ins C fs, a => ∃ dx vs, H a = some (.ins C dx vs) ∧ H dx = some (.own a) ∧ dx ∉ m ∧ RepP K H m fs vs
structure RepSt (K : KB) (H : Hp) (m : List Addr) (st : Store) : Prop where
  ban : ∀ b ∈ K.B, (∃ o, H b = some o) ∧ b ∉ m
  len : m.length = st.length
  nd : m.Nodup
  cell : ∀ (l : Nat) (c : Cell), st[l]? = some c → ∃ a, m[l]? = some a ∧ RepC K H m c a
structure RepE (K : KB) (H : Hp) (m : List Addr) (ρ : DEnv) (σ : Sg) : Prop where
  len : ρ.length = σ.length
  val : ∀ (i : Nat) (d : D), ρ[i]? = some (some d) → ∃ v, σ[i]? = some (some v) ∧ Rep K H m d v
structure Evo (H : Hp) (m : List Addr) (H' : Hp) (m' : List Addr) : Prop where
  ext : ∃ e, m' = m ++ e
  keep : ∀ a o, H a = some o → a ∉ m → H' a = some o ∧ a ∉ m'
section
variable {K : KB} {H H' H1 H2 : Hp} {m m' m1 m2 : List Addr}
theorem Evo.refl : Evo H m H m := ⟨⟨[], by simp⟩, fun _ _ h n => ⟨h, n⟩⟩
theorem Evo.trans (a : Evo H m H1 m1) (b : Evo H1 m1 H2 m2) : Evo H m H2 m2 := by
  obtain ⟨⟨e, rfl⟩, k⟩ := a
  obtain ⟨⟨e', rfl⟩, k'⟩ := b
  exact ⟨⟨e ++ e', by rw [List.append_assoc]⟩, fun a o h n => let ⟨h1, n1⟩ := k a o h n; k' a o h1 n1⟩
/-- everything tracked stands -/
def Grow (H H' : Hp) : Prop := ∀ a o, H a = some o → H' a = some o
theorem Grow.refl : Grow H H := fun _ _ h => h
theorem Grow.trans (a : Grow H H1) (b : Grow H1 H2) : Grow H H2 := fun x o h => b x o (a x o h)
theorem Grow.evo (g : Grow H H') : Evo H m H' m := ⟨⟨[], by simp⟩, fun a o h n => ⟨g a o h, n⟩⟩
theorem Grow.upd {p : Addr} {o : HO} (h : H p = none) : Grow H (upd H p o) := fun a u e => by rw [upd_ne (ne_of_none e h)]; exact e
theorem Evo.get (e : Evo H m H' m') {l : Nat} {a : Addr} (h : m[l]? = some a) : m'[l]? = some a := by
  obtain ⟨⟨x, rfl⟩, _⟩ := e
  have hl : l < m.length := (List.getElem?_eq_some_iff.mp h).1
  rw [List.getElem?_append_left hl]; exact h
theorem Evo.rd (e : Evo H m H' m') {a : Addr} {u : HO} (h : Rd H a u) (n : a ∉ m) : Rd H' a u ∧ a ∉ m' := by
  rcases h with h | ⟨o, h⟩
  · obtain ⟨h1, n1⟩ := e.keep a _ h n; exact ⟨.inl h1, n1⟩
  · obtain ⟨h1, n1⟩ := e.keep a _ h n; exact ⟨.inr ⟨o, h1⟩, n1⟩
mutual
theorem Rep.evo (e : Evo H m H' m') : ∀ (d : D) (v : V), Rep K H m d v → Rep K H' m' d v
  | .non, _, h => by unfold Rep at h ⊢; exact h
  | .bl _, _, h => by unfold Rep at h ⊢; exact h
  | .int _, _, h => by unfold Rep at h ⊢; exact h
  | .str _, _, h => by unfold Rep at h ⊢; exact h
  | .ty _, _, h => by unfold Rep at h ⊢; exact h
  | .ob _, _, h => by unfold Rep at h ⊢; exact h
  | .tup ds, _, h => by
    unfold Rep at h ⊢
    obtain ⟨a, vs, rfl, h1, h2⟩ := h
    refine ⟨a, vs, rfl, ?_, RepL.evo e ds vs h2⟩
    rcases h1 with ⟨h1, n⟩ | h1
    · obtain ⟨n1, n2⟩ := n
      obtain ⟨q1, q2⟩ := e.rd h1 n1
      exact .inl ⟨q1, q2, n2⟩
    · exact .inr h1
  | .lst ds, _, h => by
    unfold Rep at h ⊢
    obtain ⟨a, vs, rfl, ⟨h1, n, nb⟩, h2⟩ := h
    obtain ⟨q1, q2⟩ := e.keep a _ h1 n
    exact ⟨a, vs, rfl, ⟨q1, q2, nb⟩, RepL.evo e ds vs h2⟩
  | .rol ds, _, h => by
    unfold Rep at h ⊢
    obtain ⟨a, vs, rfl, h1, h2⟩ := h
    refine ⟨a, vs, rfl, ?_, RepL.evo e ds vs h2⟩
    rcases h1 with ⟨⟨o, h1⟩, n, nb⟩ | h1
    · obtain ⟨h3, n3⟩ := e.keep a _ h1 n
      exact .inl ⟨⟨o, h3⟩, n3, nb⟩
    · exact .inr h1
  | .loc l, _, h => by
    unfold Rep at h ⊢
    obtain ⟨a, rfl, h1⟩ := h
    exact ⟨a, rfl, e.get h1⟩
theorem RepL.evo (e : Evo H m H' m') : ∀ (ds : List D) (vs : List V), RepL K H m ds vs → RepL K H' m' ds vs
  | [], _, h => by unfold RepL at h ⊢; exact h
  | d :: ds, _, h => by
    unfold RepL at h ⊢
    obtain ⟨v, r, rfl, h1, h2⟩ := h
    exact ⟨v, r, rfl, Rep.evo e d v h1, RepL.evo e ds r h2⟩
end
theorem RepP.evo {κ : Type} (e : Evo H m H' m') : ∀ (ds : List (κ × D)) (vs : List (κ × V)), RepP K H m ds vs → RepP K H' m' ds vs
  | [], _, h => h
  | (k, d) :: ds, _, ⟨v, r, q, h1, h2⟩ => ⟨v, r, q, Rep.evo e d v h1, RepP.evo e ds r h2⟩
theorem RepE.evo {ρ : DEnv} {σ : Sg} (e : Evo H m H' m') (h : RepE K H m ρ σ) : RepE K H' m' ρ σ :=
  ⟨h.len, fun i d q => let ⟨v, h1, h2⟩ := h.val i d q; ⟨v, h1, Rep.evo e d v h2⟩⟩
theorem RepSt.grow {st : Store} (g : Grow H H') (h : RepSt K H m st) : RepSt K H' m st :=
  ⟨fun b hb => let ⟨⟨o, q⟩, n⟩ := h.ban b hb; ⟨⟨o, g _ _ q⟩, n⟩, h.len, h.nd, fun l c q => by
    obtain ⟨a, h1, h2⟩ := h.cell l c q
    refine ⟨a, h1, ?_⟩
    cases c with
    | lst ds => obtain ⟨vs, x, y⟩ := h2; exact ⟨vs, g _ _ x, RepL.evo g.evo _ _ y⟩
    | dic kvs => obtain ⟨vs, x, y⟩ := h2; exact ⟨vs, g _ _ x, RepP.evo g.evo _ _ y⟩
    | ins C fs => obtain ⟨dx, vs, x, z, n, y⟩ := h2; exact ⟨dx, vs, g _ _ x, g _ _ z, n, RepP.evo g.evo _ _ y⟩⟩
theorem RepC.some {c : Cell} {a : Addr} (h : RepC K H m c a) : ∃ o, H a = some o := by
  cases c with
  | lst ds => obtain ⟨vs, x, y⟩ := h; exact ⟨_, x⟩
  | dic kvs => obtain ⟨vs, x, y⟩ := h; exact ⟨_, x⟩
  | ins C fs => obtain ⟨dx, vs, x, y⟩ := h; exact ⟨_, x⟩
theorem RepSt.mem {st : Store} (h : RepSt K H m st) {a : Addr} (ha : a ∈ m) : ∃ o, H a = some o := by
  obtain ⟨l, hl, e⟩ := List.mem_iff_getElem.mp ha
  have hs : l < st.length := by rw [← h.len]; exact hl
  obtain ⟨b, h1, h2⟩ := h.cell l st[l] (by simp [hs])
  rw [List.getElem?_eq_getElem hl] at h1
  cases h1
  rw [e] at h2
  exact h2.some
theorem RepSt.fresh {st : Store} (h : RepSt K H m st) {p : Addr} (hp : H p = none) : p ∉ m := fun hm => by
  obtain ⟨o, e⟩ := h.mem hm
  rw [hp] at e; cases e
theorem RepSt.freshB {st : Store} (h : RepSt K H m st) {p : Addr} (hp : H p = none) : p ∉ K.B := fun hm => by
  obtain ⟨⟨o, e⟩, _⟩ := h.ban p hm
  rw [hp] at e; cases e
theorem RepL.length : ∀ {ds : List D} {vs : List V}, RepL K H m ds vs → ds.length = vs.length
  | [], _, h => by unfold RepL at h; subst h; rfl
  | d :: ds, _, h => by unfold RepL at h; obtain ⟨v, r, rfl, _, h2⟩ := h; simp [RepL.length h2]
theorem RepL.get : ∀ {ds : List D} {vs : List V} {i : Nat} {d : D}, RepL K H m ds vs → ds[i]? = some d → ∃ v, vs[i]? = some v ∧ Rep K H m d v
  | [], _, _, _, _, q => by simp at q
  | d :: ds, _, 0, _, h, q => by unfold RepL at h; obtain ⟨v, r, rfl, h1, _⟩ := h; simp at q; subst q; exact ⟨v, rfl, h1⟩
  | d :: ds, _, i + 1, _, h, q => by unfold RepL at h; obtain ⟨v, r, rfl, _, h2⟩ := h; simpa using RepL.get h2 (by simpa using q)
theorem RepL.getV : ∀ {ds : List D} {vs : List V} {i : Nat} {v : V}, RepL K H m ds vs → vs[i]? = some v → ∃ d, ds[i]? = some d ∧ Rep K H m d v
  | [], _, _, _, h, q => by unfold RepL at h; subst h; simp at q
  | d :: ds, _, 0, _, h, q => by unfold RepL at h; obtain ⟨v, r, rfl, h1, _⟩ := h; simp at q; subst q; exact ⟨d, rfl, h1⟩
  | d :: ds, _, i + 1, _, h, q => by unfold RepL at h; obtain ⟨v, r, rfl, _, h2⟩ := h; simpa using RepL.getV h2 (by simpa using q)
theorem RepL.nil : RepL K H m [] [] := by unfold RepL; rfl
theorem RepL.cons {d : D} {v : V} {ds : List D} {vs : List V} (h : Rep K H m d v) (t : RepL K H m ds vs) : RepL K H m (d :: ds) (v :: vs) := by unfold RepL; exact ⟨v, vs, rfl, h, t⟩
theorem RepL.append : ∀ {ds es : List D} {vs ws : List V}, RepL K H m ds vs → RepL K H m es ws → RepL K H m (ds ++ es) (vs ++ ws)
  | [], _, _, _, h, t => by unfold RepL at h; subst h; exact t
  | d :: ds, _, _, _, h, t => by unfold RepL at h; obtain ⟨v, r, rfl, h1, h2⟩ := h; exact .cons h1 (RepL.append h2 t)
theorem RepL.take : ∀ {ds : List D} {vs : List V} (n : Nat), RepL K H m ds vs → RepL K H m (ds.take n) (vs.take n)
  | _, _, 0, _ => by simpa using RepL.nil
  | [], _, n + 1, h => by unfold RepL at h; subst h; simpa using RepL.nil
  | d :: ds, _, n + 1, h => by unfold RepL at h; obtain ⟨v, r, rfl, h1, h2⟩ := h; exact .cons h1 (RepL.take n h2)
theorem RepL.drop : ∀ {ds : List D} {vs : List V} (n : Nat), RepL K H m ds vs → RepL K H m (ds.drop n) (vs.drop n)
  | _, _, 0, h => by simpa using h
  | [], _, n + 1, h => by unfold RepL at h; subst h; simpa using RepL.nil
  | d :: ds, _, n + 1, h => by unfold RepL at h; obtain ⟨v, r, rfl, h1, h2⟩ := h; simpa using RepL.drop n h2
theorem RepL.reverse : ∀ {ds : List D} {vs : List V}, RepL K H m ds vs → RepL K H m ds.reverse vs.reverse
  | [], _, h => by unfold RepL at h; subst h; simpa using RepL.nil
  | d :: ds, _, h => by
    unfold RepL at h; obtain ⟨v, r, rfl, h1, h2⟩ := h
    rw [List.reverse_cons, List.reverse_cons]
    exact (RepL.reverse h2).append (.cons h1 .nil)
theorem RepL.replicate : ∀ (n : Nat) {ds : List D} {vs : List V}, RepL K H m ds vs → RepL K H m (List.replicate n ds).flatten (List.replicate n vs).flatten
  | 0, _, _, _ => by simpa using RepL.nil
  | n + 1, _, _, h => by simpa [List.replicate_succ] using h.append (RepL.replicate n h)
theorem RepL.set : ∀ {ds : List D} {vs : List V} {d : D} {v : V} (n : Nat), RepL K H m ds vs → Rep K H m d v → RepL K H m (ds.set n d) (vs.set n v)
  | [], _, _, _, _, h, _ => by unfold RepL at h; subst h; simpa using RepL.nil
  | d :: ds, _, _, _, 0, h, q => by unfold RepL at h; obtain ⟨v, r, rfl, h1, h2⟩ := h; exact .cons q h2
  | d :: ds, _, _, _, n + 1, h, q => by unfold RepL at h; obtain ⟨v, r, rfl, h1, h2⟩ := h; exact .cons h1 (RepL.set n h2 q)
theorem RepL.ints : ∀ ns : List Int, RepL K H m (ns.map D.int) (ns.map V.int)
  | [] => .nil
  | n :: ns => .cons (by unfold Rep; rfl) (RepL.ints ns)
theorem RepL.inv_cons {d : D} {ds : List D} {vs : List V} (h : RepL K H m (d :: ds) vs) : ∃ v r, vs = v :: r ∧ Rep K H m d v ∧ RepL K H m ds r := by unfold RepL at h; exact h
theorem RepL.inv_nil {vs : List V} (h : RepL K H m [] vs) : vs = [] := by unfold RepL at h; exact h
theorem Rep.int_iff {i : Int} {v : V} : Rep K H m (.int i) v ↔ v = .int i := by unfold Rep; rfl
theorem Rep.bl_iff {i : Bool} {v : V} : Rep K H m (.bl i) v ↔ v = .bl i := by unfold Rep; rfl
theorem Rep.str_iff {i : Str} {v : V} : Rep K H m (.str i) v ↔ v = .str i := by unfold Rep; rfl
theorem Rep.non_iff {v : V} : Rep K H m .non v ↔ v = .non := by unfold Rep; rfl
theorem Rep.ty_iff {n : String} {v : V} : Rep K H m (.ty n) v ↔ v = .ty n := by unfold Rep; rfl
theorem Rep.ob_iff {a : Addr} {v : V} : Rep K H m (.ob a) v ↔ v = .ref a := by unfold Rep; rfl
theorem Rep.loc_iff {l : Nat} {v : V} : Rep K H m (.loc l) v ↔ ∃ a, v = .ref a ∧ m[l]? = some a := by unfold Rep; rfl
theorem Rep.tup_iff {ds : List D} {v : V} : Rep K H m (.tup ds) v ↔ ∃ a vs, v = .ref a ∧ ((Rd H a (.tup vs) ∧ a ∉ m ∧ a ∉ K.B) ∨ TK K.K a vs) ∧ RepL K H m ds vs := by rw [Rep]
theorem Rep.lst_iff {ds : List D} {v : V} : Rep K H m (.lst ds) v ↔ ∃ a vs, v = .ref a ∧ (H a = some (.lst vs) ∧ a ∉ m ∧ a ∉ K.B) ∧ RepL K H m ds vs := by rw [Rep]
theorem Rep.rol_iff {ds : List D} {v : V} : Rep K H m (.rol ds) v ↔ ∃ a vs, v = .ref a ∧ (((∃ o, H a = some (.frz o (.lst vs))) ∧ a ∉ m ∧ a ∉ K.B) ∨ LK K.K a vs) ∧ RepL K H m ds vs := by rw [Rep]
theorem Rep.tup_sq {ds : List D} {v : V} (h : Rep K H m (.tup ds) v) : ∃ a vs, v = .ref a ∧ SqT K.K H a vs ∧ RepL K H m ds vs := by
  obtain ⟨a, vs, rfl, h1, h2⟩ := Rep.tup_iff.mp h
  refine ⟨a, vs, rfl, ?_, h2⟩
  rcases h1 with ⟨h1, _⟩ | h1
  · exact .inl h1
  · exact .inr h1
theorem Rep.lst_sq {ds : List D} {v : V} (h : Rep K H m (.lst ds) v) : ∃ a vs, v = .ref a ∧ SqL K.K H a vs ∧ RepL K H m ds vs := by
  obtain ⟨a, vs, rfl, h1, h2⟩ := Rep.lst_iff.mp h
  exact ⟨a, vs, rfl, .inl (.inl h1.1), h2⟩
theorem Rep.rol_sq {ds : List D} {v : V} (h : Rep K H m (.rol ds) v) : ∃ a vs, v = .ref a ∧ SqL K.K H a vs ∧ RepL K H m ds vs := by
  obtain ⟨a, vs, rfl, h1, h2⟩ := Rep.rol_iff.mp h
  refine ⟨a, vs, rfl, ?_, h2⟩
  rcases h1 with ⟨⟨o, h1⟩, _⟩ | h1
  · exact .inl (.inr ⟨o, h1⟩)
  · exact .inr h1
/-- a new tuple -/
theorem Rep.newT {st : Store} (rs : RepSt K H m st) {p : Addr} (hp : H p = none) {ds : List D} {vs : List V} (h : RepL K H m ds vs) : Rep K (upd H p (.tup vs)) m (.tup ds) (.ref p) :=
  Rep.tup_iff.mpr ⟨p, vs, rfl, .inl ⟨.inl upd_same, rs.fresh hp, rs.freshB hp⟩, RepL.evo (Grow.upd hp).evo _ _ h⟩
theorem Rep.newL {st : Store} (rs : RepSt K H m st) {p : Addr} (hp : H p = none) {ds : List D} {vs : List V} (h : RepL K H m ds vs) : Rep K (upd H p (.lst vs)) m (.lst ds) (.ref p) :=
  Rep.lst_iff.mpr ⟨p, vs, rfl, ⟨upd_same, rs.fresh hp, rs.freshB hp⟩, RepL.evo (Grow.upd hp).evo _ _ h⟩
/-- a new place -/
theorem Evo.push {p : Addr} {o : HO} (hp : H p = none) : Evo H m (upd H p o) (m ++ [p]) :=
  ⟨⟨[p], rfl⟩, fun a u e n => ⟨Grow.upd hp a u e, by
    simp only [List.mem_append, List.mem_singleton, not_or]
    exact ⟨n, ne_of_none e hp⟩⟩⟩
theorem RepSt.evoC {st : Store} (rs : RepSt K H m st) {p : Addr} {o : HO} (hp : H p = none) : ∀ (l : Nat) (c : Cell), st[l]? = some c → ∃ a, (m ++ [p])[l]? = some a ∧ RepC K (upd H p o) (m ++ [p]) c a := fun l c q => by
  have e : Evo H m (upd H p o) (m ++ [p]) := .push hp
  obtain ⟨a, h1, h2⟩ := rs.cell l c q
  refine ⟨a, e.get h1, ?_⟩
  have g : Grow H (upd H p o) := Grow.upd hp
  cases c with
  | lst ds => obtain ⟨vs, x, y⟩ := h2; exact ⟨vs, g _ _ x, RepL.evo e _ _ y⟩
  | dic kvs => obtain ⟨vs, x, y⟩ := h2; exact ⟨vs, g _ _ x, RepP.evo e _ _ y⟩
  | ins C fs =>
    obtain ⟨dx, vs, x, z, n, y⟩ := h2
    refine ⟨dx, vs, g _ _ x, g _ _ z, ?_, RepP.evo e _ _ y⟩
    simp only [List.mem_append, List.mem_singleton, not_or]
    exact ⟨n, ne_of_none z hp⟩
theorem RepSt.push {st : Store} (rs : RepSt K H m st) {p : Addr} {o : HO} (hp : H p = none) {c : Cell} (hc : RepC K (upd H p o) (m ++ [p]) c p) : RepSt K (upd H p o) (m ++ [p]) (st ++ [c]) where
  ban := fun b hb => by
    obtain ⟨⟨u, q⟩, n⟩ := rs.ban b hb
    refine ⟨⟨u, Grow.upd hp _ _ q⟩, ?_⟩
    simp only [List.mem_append, List.mem_singleton, not_or]
    exact ⟨n, ne_of_none q hp⟩
  len := by simp [rs.len]
  nd := List.nodup_append.mpr ⟨rs.nd, by simp, fun a ha b hb e => by
    simp at hb; subst hb; subst e; exact rs.fresh hp ha⟩
  cell := fun l c' q => by
    by_cases hl : l < st.length
    · rw [List.getElem?_append_left hl] at q
      exact rs.evoC hp l c' q
    · have hl' : l = st.length := by
        have := (List.getElem?_eq_some_iff.mp q).1
        simp at this; omega
      subst hl'
      simp at q
      subst q
      exact ⟨p, by rw [← rs.len]; simp, hc⟩
/-- a place is written -/
theorem Evo.write {l : Nat} {a : Addr} {o : HO} (h : m[l]? = some a) : Evo H m (upd H a o) m :=
  ⟨⟨[], by simp⟩, fun b u e n => ⟨by rw [upd_ne (fun z => n (by rw [z]; exact List.mem_of_getElem? h))]; exact e, n⟩⟩
theorem RepSt.write {st : Store} (rs : RepSt K H m st) {l : Nat} {a : Addr} {o : HO} {c : Cell} (h : m[l]? = some a) (hown : ∀ y, H a ≠ some (.own y)) (hc : RepC K (upd H a o) m c a) : RepSt K (upd H a o) m (st.set l c) where
  ban := fun b hb => by
    obtain ⟨⟨u, q⟩, n⟩ := rs.ban b hb
    exact ⟨⟨u, by rw [upd_ne (fun z => n (by rw [z]; exact List.mem_of_getElem? h))]; exact q⟩, n⟩
  len := by simp [rs.len]
  nd := rs.nd
  cell := fun k c' q => by
    have e : Evo H m (upd H a o) m := .write h
    by_cases hk : l = k
    · subst hk
      have hl : l < st.length := by
        have := (List.getElem?_eq_some_iff.mp h).1
        rw [rs.len] at this; exact this
      rw [List.getElem?_set_self hl] at q
      cases q
      exact ⟨a, h, hc⟩
    · rw [List.getElem?_set_ne hk] at q
      obtain ⟨b, h1, h2⟩ := rs.cell k c' q
      have hb : b ≠ a := by
        intro z; subst z
        obtain ⟨i1, e1⟩ := List.getElem?_eq_some_iff.mp h
        obtain ⟨i2, e2⟩ := List.getElem?_eq_some_iff.mp h1
        exact hk ((List.getElem_inj rs.nd).mp (e1.trans e2.symm))
      refine ⟨b, h1, ?_⟩
      cases c' with
      | lst ds => obtain ⟨vs, x, y⟩ := h2; exact ⟨vs, by rw [upd_ne hb]; exact x, RepL.evo e _ _ y⟩
      | dic kvs => obtain ⟨vs, x, y⟩ := h2; exact ⟨vs, by rw [upd_ne hb]; exact x, RepP.evo e _ _ y⟩
      | ins C fs =>
        obtain ⟨dx, vs, x, z, n, y⟩ := h2
        exact ⟨dx, vs, by rw [upd_ne hb]; exact x, by rw [upd_ne (fun w => hown b (by rw [← w]; exact z))]; exact z, n, RepP.evo e _ _ y⟩
end
inductive Res (α : Type) where
  | ok (a : α) (st : Store) | exc (c : Value) (fs : Option (List (Str × D))) (st : Store) | fail
def Res.bind {α β : Type} (r : Res α) (k : α → Store → Res β) : Res β := match r with
  | .ok a st => k a st
  | .exc c fs st => .exc c fs st
  | .fail => .fail
@[simp] theorem Res.bind_ok {α β : Type} (a : α) (st : Store) (k : α → Store → Res β) : (Res.ok a st).bind k = k a st := id rfl
@[simp] theorem Res.bind_exc {α β : Type} (c fs st) (k : α → Store → Res β) : (Res.exc c fs st : Res α).bind k = .exc c fs st := id rfl
@[simp] theorem Res.bind_fail {α β : Type} (k : α → Store → Res β) : (Res.fail : Res α).bind k = .fail := id rfl
def RepX (K : KB) (H : Hp) (m : List Addr) : Option (List (Str × D)) → Option Addr → Prop
  | none, d => d = none
  | some fs, d => ∃ a vs, d = some a ∧ H a = some (.xd vs) ∧ a ∉ m ∧ RepP K H m fs vs
abbrev WH := Value → Option Addr → Hp → Prop
/-- a result leads where it shall -/
def GoodR {α β : Type} (R : Hp → List Addr → α → β → Prop) (r : Res α) (Q : β → Hp → Prop) (W : WH) (K : KB) (H : Hp) (m : List Addr) : Prop := match r with
  | .ok d st' => ∀ v H' m', Evo H m H' m' → R H' m' d v → RepSt K H' m' st' → Q v H'
  | .exc c fs st' => ∀ dx H' m', Evo H m H' m' → RepX K H' m' fs dx → RepSt K H' m' st' → W c dx H'
  | .fail => False
section
variable {K : KB} {H H' H1 H2 : Hp} {m m' m1 m2 : List Addr} {α β α' β' : Type}
theorem GoodR.evo {R : Hp → List Addr → α → β → Prop} {r : Res α} {Q : β → Hp → Prop} {W : WH} (h : GoodR R r Q W K H m) (e : Evo H m H' m') : GoodR R r Q W K H' m' := by
  cases r with
  | ok d st => exact fun v H2 m2 e2 => h v H2 m2 (e.trans e2)
  | exc c fs st => exact fun dx H2 m2 e2 => h dx H2 m2 (e.trans e2)
  | fail => exact h
theorem good_bind {R : Hp → List Addr → α → β → Prop} {R' : Hp → List Addr → α' → β' → Prop} {r : Res α} {k : α → Store → Res α'} {Q : β' → Hp → Prop} {Q1 : β → Hp → Prop} {W : WH} (h : GoodR R' (r.bind k) Q W K H m)
    (hk : ∀ d st1 v H1 m1, Evo H m H1 m1 → R H1 m1 d v → RepSt K H1 m1 st1 → GoodR R' (k d st1) Q W K H1 m1 → Q1 v H1) : GoodR R r Q1 W K H m := by
  cases r with
  | ok d st => exact fun v H1 m1 e rv rs => hk d st v H1 m1 e rv rs (GoodR.evo (r := k d st) h e)
  | exc c fs st => exact h
  | fail => exact h
theorem good_ok {R : Hp → List Addr → α → β → Prop} {d : α} {v : β} {st : Store} {Q : β → Hp → Prop} {W : WH} (h : GoodR R (.ok d st) Q W K H m) (r : R H m d v) (rs : RepSt K H m st) : Q v H := h v H m .refl r rs
theorem good_grow {R : Hp → List Addr → α → β → Prop} {d : α} {v : β} {st : Store} {Q : β → Hp → Prop} {W : WH} (h : GoodR R (.ok d st) Q W K H m) (g : Grow H H') (r : R H' m d v) (rs : RepSt K H m st) : Q v H' := h v H' m g.evo r (rs.grow g)
end
abbrev Fe := DEnv → Store → Res D
abbrev Ft := DEnv → Store → Res Bool
abbrev Fa := DEnv → Store → Res (List D)
def RB : Hp → List Addr → Bool → Bool → Prop := fun _ _ b c => c = b
abbrev WX := L2.WX
/-- an expression does what f tells -/
structure DE (X : Cx) (W : WX) (e : Expr) (f : Fe) : Prop where
  ex : ∃ t : TE, PE X e t ∧ ∀ (B : List Addr) (σ : Sg) (H : Hp) (ρ : DEnv) (st : Store) (m : List Addr) (Q : VK), RepE ⟨X.K, B⟩ H m ρ σ → RepSt ⟨X.K, B⟩ H m st → GoodR (Rep ⟨X.K, B⟩) (f ρ st) Q (fun c d H' => W c d σ H') ⟨X.K, B⟩ H m → t σ H Q
structure DT (X : Cx) (W : WX) (e : Expr) (f : Ft) : Prop where
  ex : ∃ t : TT, PT X e t ∧ ∀ (B : List Addr) (σ : Sg) (H : Hp) (ρ : DEnv) (st : Store) (m : List Addr) (Q : Bool → Hp → Prop), RepE ⟨X.K, B⟩ H m ρ σ → RepSt ⟨X.K, B⟩ H m st → GoodR RB (f ρ st) Q (fun c d H' => W c d σ H') ⟨X.K, B⟩ H m → t σ H Q
structure DA (X : Cx) (W : WX) (es : List Expr) (f : Fa) : Prop where
  ex : ∃ t : TA, PA X es t ∧ ∀ (B : List Addr) (σ : Sg) (H : Hp) (ρ : DEnv) (st : Store) (m : List Addr) (Q : List V → Hp → Prop), RepE ⟨X.K, B⟩ H m ρ σ → RepSt ⟨X.K, B⟩ H m st → GoodR (RepL ⟨X.K, B⟩) (f ρ st) Q (fun c d H' => W c d σ H') ⟨X.K, B⟩ H m → t σ H Q
  len : ∀ (ρ : DEnv) (st : Store) (ds : List D) (st' : Store), f ρ st = .ok ds st' → ds.length = es.length
inductive SRes where
  | nx (ρ : DEnv) (st : Store) | ret (d : D) (st : Store) | brk (ρ : DEnv) (st : Store) | cnt (ρ : DEnv) (st : Store)
  | exc (c : Value) (fs : Option (List (Str × D))) (ρ : DEnv) (st : Store) | fail
abbrev Fs := DEnv → Store → SRes
def GoodS (r : SRes) (En : Ends) (W : WX) (K : KB) (H : Hp) (m : List Addr) : Prop := match r with
  | .nx ρ st => ∀ σ' H' m', Evo H m H' m' → RepE K H' m' ρ σ' → RepSt K H' m' st → En.nx σ' H'
  | .ret d st => ∀ v H' m', Evo H m H' m' → Rep K H' m' d v → RepSt K H' m' st → En.rt v H'
  | .brk ρ st => ∀ σ' H' m', Evo H m H' m' → RepE K H' m' ρ σ' → RepSt K H' m' st → En.bk σ' H'
  | .cnt ρ st => ∀ σ' H' m', Evo H m H' m' → RepE K H' m' ρ σ' → RepSt K H' m' st → En.ct σ' H'
  | .exc c fs ρ st => ∀ σ' dx H' m', Evo H m H' m' → RepE K H' m' ρ σ' → RepX K H' m' fs dx → RepSt K H' m' st → W c dx σ' H'
  | .fail => False
structure DS (X : Cx) (W : WX) (s : Stmt) (f : Fs) : Prop where
  ex : ∃ t : TS, PS X s t ∧ ∀ (B : List Addr) (σ : Sg) (H : Hp) (ρ : DEnv) (st : Store) (m : List Addr) (En : Ends), RepE ⟨X.K, B⟩ H m ρ σ → RepSt ⟨X.K, B⟩ H m st → GoodS (f ρ st) En W ⟨X.K, B⟩ H m → t En σ H
structure DB (X : Cx) (W : WX) (ss : List Stmt) (f : Fs) : Prop where
  ex : ∃ t : TS, PSs X ss t ∧ ∀ (B : List Addr) (σ : Sg) (H : Hp) (ρ : DEnv) (st : Store) (m : List Addr) (En : Ends), RepE ⟨X.K, B⟩ H m ρ σ → RepSt ⟨X.K, B⟩ H m st → GoodS (f ρ st) En W ⟨X.K, B⟩ H m → t En σ H
/-- an expression's result, then a statement's -/
def Res.thenS {α : Type} (r : Res α) (ρ : DEnv) (k : α → Store → SRes) : SRes := match r with
  | .ok a st => k a st
  | .exc c fs st => .exc c fs ρ st
  | .fail => .fail
@[simp] theorem Res.thenS_ok {α : Type} (a : α) (st : Store) (ρ : DEnv) (k : α → Store → SRes) : (Res.ok a st).thenS ρ k = k a st := id rfl
@[simp] theorem Res.thenS_exc {α : Type} (c fs st) (ρ : DEnv) (k : α → Store → SRes) : (Res.exc c fs st : Res α).thenS ρ k = .exc c fs ρ st := id rfl
@[simp] theorem Res.thenS_fail {α : Type} (ρ : DEnv) (k : α → Store → SRes) : (Res.fail : Res α).thenS ρ k = .fail := id rfl
def SRes.seq (r : SRes) (k : Fs) : SRes := match r with
  | .nx ρ st => k ρ st
  | r => r
section
variable {K : KB} {H H' H1 H2 : Hp} {m m' m1 m2 : List Addr} {α β : Type} {W : WX} {En : Ends}
theorem GoodS.evo {r : SRes} (h : GoodS r En W K H m) (e : Evo H m H' m') : GoodS r En W K H' m' := by
  cases r with
  | nx ρ st => exact fun v H2 m2 e2 => h v H2 m2 (e.trans e2)
  | ret d st => exact fun v H2 m2 e2 => h v H2 m2 (e.trans e2)
  | brk ρ st => exact fun v H2 m2 e2 => h v H2 m2 (e.trans e2)
  | cnt ρ st => exact fun v H2 m2 e2 => h v H2 m2 (e.trans e2)
  | exc c fs ρ st => exact fun σ dx H2 m2 e2 => h σ dx H2 m2 (e.trans e2)
  | fail => exact h
theorem good_thenS {R : Hp → List Addr → α → β → Prop} {r : Res α} {ρ : DEnv} {σ : Sg} {k : α → Store → SRes} {Q1 : β → Hp → Prop} (re : RepE K H m ρ σ) (h : GoodS (r.thenS ρ k) En W K H m)
    (hk : ∀ d st1 v H1 m1, Evo H m H1 m1 → R H1 m1 d v → RepSt K H1 m1 st1 → GoodS (k d st1) En W K H1 m1 → Q1 v H1) : GoodR R r Q1 (fun c d H' => W c d σ H') K H m := by
  cases r with
  | ok d st => exact fun v H1 m1 e rv rs => hk d st v H1 m1 e rv rs (GoodS.evo (r := k d st) h e)
  | exc c fs st => exact fun dx H1 m1 e rx rs => h σ dx H1 m1 e (re.evo e) rx rs
  | fail => exact h
end
end DL
namespace DL
open PySem PySem.Spec PyProof.Rows L2
section
variable {X : Cx} {W : WX} {pos : Pos} {a b e : Expr} {fa fb f : Fe}
def xVar (i : Nat) : Fe := fun ρ st => match ρ[i]? with
  | some (some d) => .ok d st
  | _ => .fail
theorem de_var (i : Nat) {x : Str} {pos : Pos} (hN : X.N[i]? = some x := by rfl) (hv : Vis X.env.scope x := by first | exact Or.inl rfl | exact Or.inr (Or.inl rfl) | exact Or.inr (Or.inr rfl)) (hd : (x == ("__debug__" : Str)) = false := by decide)
    (hcd : (x == ("__classdict__" : Str)) = false := by decide) : DE X W (.Name x pos) (xVar i) := by
  refine ⟨_, pv i hN hv hd hcd, fun B σ H ρ st m Q re rs h => ?_⟩
  unfold xVar at h
  cases q : ρ[i]? with
  | none => rw [q] at h; exact h.elim
  | some o =>
    cases o with
    | none => rw [q] at h; exact h.elim
    | some d =>
      rw [q] at h
      obtain ⟨v, h1, h2⟩ := re.val i d q
      exact ⟨v, h1, good_ok h h2 rs⟩
def xC (d : D) : Fe := fun _ st => .ok d st
theorem de_c {v : V} {d : D} (h : PE X e (tC v)) (r : ∀ B H m, Rep ⟨X.K, B⟩ H m d v) : DE X W e (xC d) :=
  ⟨_, h, fun B σ H ρ st m Q re rs h => good_ok h (r B H m) rs⟩
theorem de_int {i : Int} {j pos} : DE X W (.Constant (.int i) j pos) (xC (.int i)) := de_c pe_int fun _ _ _ => Rep.int_iff.mpr rfl
theorem de_bl {b : Bool} {j pos} : DE X W (.Constant (.bool b) j pos) (xC (.bl b)) := de_c pe_bl fun _ _ _ => Rep.bl_iff.mpr rfl
theorem de_non {j pos} : DE X W (.Constant .none j pos) (xC .non) := de_c pe_non fun _ _ _ => Rep.non_iff.mpr rfl
theorem de_str {x : Str} {j pos} : DE X W (.Constant (.str x) j pos) (xC (.str x)) := de_c pe_str fun _ _ _ => Rep.str_iff.mpr rfl
/-- a module's constant -/
theorem de_glob {x : Str} {u : Value} {v : V} {d : D} {pos} (hg : Gl X x) (hm : X.mg x = some u) (r : RelV v u) (rd : ∀ B H m, Rep ⟨X.K, B⟩ H m d v) (hd : (x == ("__debug__" : Str)) = false := by decide) : DE X W (.Name x pos) (xC d) := de_c (pe_glob hg hm r hd) rd
theorem de_gint {x : Str} {i : Int} {t : Tok} {pos} (hg : Gl X x) (hm : X.mg x = some (.int i t)) (hd : (x == ("__debug__" : Str)) = false := by decide) : DE X W (.Name x pos) (xC (.int i)) := de_glob (v := .int i) hg hm ⟨_, rfl⟩ (fun _ _ _ => Rep.int_iff.mpr rfl) hd
theorem de_gstr {x : Str} {i : Str} {t : Tok} {pos} (hg : Gl X x) (hm : X.mg x = some (.str i t)) (hd : (x == ("__debug__" : Str)) = false := by decide) : DE X W (.Name x pos) (xC (.str i)) := de_glob (v := .str i) hg hm ⟨_, rfl⟩ (fun _ _ _ => Rep.str_iff.mpr rfl) hd
theorem de_gref {x : Str} {p : Addr} {pos} (hg : Gl X x) (hm : X.mg x = some (.ref p)) (hd : (x == ("__debug__" : Str)) = false := by decide) : DE X W (.Name x pos) (xC (.ob p)) := de_glob (v := .ref p) hg hm rfl (fun _ _ _ => Rep.ob_iff.mpr rfl) hd
/-- a built-in type's name -/
theorem de_bty {x : Str} {n : String} {pos} (hg : Gl X x) (hm : X.mg x = none) (hv : bootBuiltins x = some (.type n)) (hn : x ≠ "__name__" := by decide) (hd : (x == ("__debug__" : Str)) = false := by decide) : DE X W (.Name x pos) (xC (.ty n)) :=
  de_c (pe_bltn (v := .ty n) hg hm hv rfl hn hd) fun _ _ _ => Rep.ty_iff.mpr rfl
def lift (o : Option D) (st : Store) : Res D := match o with
  | some d => .ok d st
  | none => .fail
@[simp] theorem lift_some (d : D) (st : Store) : lift (some d) st = .ok d st := id rfl
@[simp] theorem lift_none (st : Store) : lift none st = .fail := id rfl
abbrev G2 := Store → D → D → Option D
abbrev G1 := Store → D → Option D
abbrev GL := Store → List D → Option D
structure DOp (X : Cx) (F : Value → Value → Sem Value) (g : G2) : Prop where
  ex : ∃ r : R2, OpR X F r ∧ ∀ (B : List Addr) (x y : V) (H : Hp) (m : List Addr) (st : Store) (da db d : D) (Q : VK), RepSt ⟨X.K, B⟩ H m st → Rep ⟨X.K, B⟩ H m da x → Rep ⟨X.K, B⟩ H m db y → g st da db = some d →
    (∀ v H', Grow H H' → Rep ⟨X.K, B⟩ H' m d v → Q v H') → r x y H Q
structure DUn (X : Cx) (F : Value → Sem Value) (g : G1) : Prop where
  ex : ∃ r, UnR X F r ∧ ∀ (B : List Addr) (x : V) (H : Hp) (m : List Addr) (st : Store) (da d : D) (Q : VK), RepSt ⟨X.K, B⟩ H m st → Rep ⟨X.K, B⟩ H m da x → g st da = some d →
    (∀ v H', Grow H H' → Rep ⟨X.K, B⟩ H' m d v → Q v H') → r x H Q
structure DCall (X : Cx) (f : Value) (g : GL) : Prop where
  ex : ∃ r, CallR X f r ∧ ∀ (B : List Addr) (xs : List V) (H : Hp) (m : List Addr) (st : Store) (ds : List D) (d : D) (Q : VK), RepSt ⟨X.K, B⟩ H m st → RepL ⟨X.K, B⟩ H m ds xs → g st ds = some d →
    (∀ v H', Grow H H' → Rep ⟨X.K, B⟩ H' m d v → Q v H') → r xs H Q
def xOp (g : G2) (fa fb : Fe) : Fe := fun ρ st => (fa ρ st).bind fun da s1 => (fb ρ s1).bind fun db s2 => lift (g s2 da db) s2
def xUn (g : G1) (fa : Fe) : Fe := fun ρ st => (fa ρ st).bind fun da s1 => lift (g s1 da) s1
def xCall (g : GL) (fa : Fa) : Fe := fun ρ st => (fa ρ st).bind fun ds s1 => lift (g s1 ds) s1
theorem good_lift {R : V → Hp → Prop} {K : KB} {H : Hp} {m : List Addr} {o : Option D} {st : Store} {W : WH} (h : GoodR (Rep K) (lift o st) R W K H m) : ∃ d, o = some d ∧ ∀ v H', Grow H H' → RepSt K H m st → Rep K H' m d v → R v H' := by
  cases o with
  | none => exact h.elim
  | some d => exact ⟨d, rfl, fun v H' g rs r => h v H' m g.evo r (rs.grow g)⟩
theorem op_run {F : Value → Value → Sem Value} {g : G2} {r : R2} (hr : ∀ (B : List Addr) (x y : V) (H : Hp) (m : List Addr) (st : Store) (da db d : D) (Q : VK), RepSt ⟨X.K, B⟩ H m st → Rep ⟨X.K, B⟩ H m da x → Rep ⟨X.K, B⟩ H m db y → g st da db = some d → (∀ v H', Grow H H' → Rep ⟨X.K, B⟩ H' m d v → Q v H') → r x y H Q)
    {ta tb : TE} (ha : ∀ (B : List Addr) (σ : Sg) (H : Hp) (ρ : DEnv) (st : Store) (m : List Addr) (Q : VK), RepE ⟨X.K, B⟩ H m ρ σ → RepSt ⟨X.K, B⟩ H m st → GoodR (Rep ⟨X.K, B⟩) (fa ρ st) Q (fun c d H' => W c d σ H') ⟨X.K, B⟩ H m → ta σ H Q)
    (hb : ∀ (B : List Addr) (σ : Sg) (H : Hp) (ρ : DEnv) (st : Store) (m : List Addr) (Q : VK), RepE ⟨X.K, B⟩ H m ρ σ → RepSt ⟨X.K, B⟩ H m st → GoodR (Rep ⟨X.K, B⟩) (fb ρ st) Q (fun c d H' => W c d σ H') ⟨X.K, B⟩ H m → tb σ H Q)
    (B : List Addr) (σ : Sg) (H : Hp) (ρ : DEnv) (st : Store) (m : List Addr) (Q : VK) (re : RepE ⟨X.K, B⟩ H m ρ σ) (rs : RepSt ⟨X.K, B⟩ H m st) (h : GoodR (Rep ⟨X.K, B⟩) (xOp g fa fb ρ st) Q (fun c d H' => W c d σ H') ⟨X.K, B⟩ H m) : tOp r ta tb σ H Q := by
  refine ha B σ H ρ st m _ re rs (good_bind h fun da s1 x H1 m1 e1 r1 rs1 h1 => ?_)
  refine hb B σ H1 ρ s1 m1 _ (re.evo e1) rs1 (good_bind h1 fun db s2 y H2 m2 e2 r2 rs2 h2 => ?_)
  obtain ⟨d, hd, q⟩ := good_lift h2
  exact hr B x y H2 m2 s2 da db d Q rs2 (Rep.evo e2 _ _ r1) r2 hd fun v H' g rv => q v H' g rs2 rv
theorem de_op {op : Operator} {g : G2} (o : DOp X (binaryOp op) g) (ha : DE X W a fa) (hb : DE X W b fb) : DE X W (.BinOp a op b pos) (xOp g fa fb) := by
  obtain ⟨r, hr, hq⟩ := o
  obtain ⟨ta, pa, qa⟩ := ha
  obtain ⟨tb, pb, qb⟩ := hb
  exact ⟨_, pe_op hr pa pb, op_run (F := binaryOp op) hq qa qb⟩
theorem de_cmp {op : CmpOp} {g : G2} (o : DOp X (compareOp op) g) (ha : DE X W a fa) (hb : DE X W b fb) (hm : behindInMarks op b = false := by first | exact nomark _ | rfl) : DE X W (.Compare a [op] [b] pos) (xOp g fa fb) := by
  obtain ⟨r, hr, hq⟩ := o
  obtain ⟨ta, pa, qa⟩ := ha
  obtain ⟨tb, pb, qb⟩ := hb
  exact ⟨_, pe_cmpR hr pa pb hm, op_run (F := compareOp op) hq qa qb⟩
theorem de_un {op : UnaryOp} {g : G1} (o : DUn X (unaryOp op) g) (ha : DE X W a fa) : DE X W (.UnaryOp op a pos) (xUn g fa) := by
  obtain ⟨r, hr, hq⟩ := o
  obtain ⟨ta, pa, qa⟩ := ha
  refine ⟨_, pe_un hr pa, fun B σ H ρ st m Q re rs h => ?_⟩
  refine qa B σ H ρ st m _ re rs (good_bind h fun da s1 x H1 m1 e1 r1 rs1 h1 => ?_)
  obtain ⟨d, hd, q⟩ := good_lift h1
  exact hq B x H1 m1 s1 da d Q rs1 r1 hd fun v H' g rv => q v H' g rs1 rv
variable {es : List Expr} {fs : Fa}
def aNil : Fa := fun _ st => .ok [] st
def aCons (f : Fe) (fs : Fa) : Fa := fun ρ st => (f ρ st).bind fun d s1 => (fs ρ s1).bind fun ds s2 => .ok (d :: ds) s2
theorem da_nil : DA X W [] aNil := ⟨⟨_, pa_nil, fun B σ H ρ st m Q re rs h => good_ok h RepL.nil rs⟩, fun ρ st ds st' h => by
  have e : Res.ok [] st = Res.ok ds st' := h
  injection e with e1 _
  subst e1; rfl⟩
theorem Res.bind_eq_ok {α β : Type} {r : Res α} {k : α → Store → Res β} {b : β} {st : Store} (h : r.bind k = .ok b st) : ∃ a s1, r = .ok a s1 ∧ k a s1 = .ok b st := by
  cases r with
  | ok a s1 => exact ⟨a, s1, rfl, h⟩
  | exc c fs st => nomatch h
  | fail => nomatch h
theorem da_cons {f : Fe} (h1 : DE X W e f) (h2 : DA X W es fs) (hs : starEach (e :: es) X.env = (false, eval e X.env) :: starEach es X.env := by rfl) : DA X W (e :: es) (aCons f fs) := by
  obtain ⟨ta, pa, qa⟩ := h1
  obtain ⟨⟨tb, pb, qb⟩, hl⟩ := h2
  refine ⟨⟨_, pa_cons pa pb hs, fun B σ H ρ st m Q re rs h => ?_⟩, fun ρ st ds st' h => ?_⟩
  · refine qa B σ H ρ st m _ re rs (good_bind h fun d s1 x H1 m1 e1 r1 rs1 h1 => ?_)
    refine qb B σ H1 ρ s1 m1 _ (re.evo e1) rs1 (good_bind h1 fun ds s2 xs H2 m2 e2 r2 rs2 h2 => ?_)
    exact good_ok h2 (RepL.cons (Rep.evo e2 _ _ r1) r2) rs2
  · obtain ⟨d, s1, _, h⟩ := Res.bind_eq_ok h
    obtain ⟨ds', s2, e2, h⟩ := Res.bind_eq_ok h
    injection h with h _
    subst h
    simp [hl _ _ _ _ e2]
theorem small_line {n : Nat} (h : n ≤ 1000) : n ≤ sizeLine := by rw [sizeLine_eq]; omega
def xTup (fs : Fa) : Fe := fun ρ st => (fs ρ st).bind fun ds s1 => .ok (.tup ds) s1
theorem de_tup {k : Nat} (h : DA X W es fs) (hn : es.length ≤ 1000 := by decide) : DE X W (.Tuple es k pos) (xTup fs) := by
  obtain ⟨⟨t, p, q⟩, hl⟩ := h
  refine ⟨_, pe_tup p, fun B σ H ρ st m Q re rs h => ?_⟩
  cases er : fs ρ st with
  | fail => rw [xTup, er] at h; exact h.elim
  | exc c f s => exact q B σ H ρ st m _ re rs (by rw [er]; rw [xTup, er] at h; exact h)
  | ok ds s1 =>
    refine q B σ H ρ st m _ re rs ?_
    rw [er]
    rw [xTup, er] at h
    intro xs H1 m1 e1 r1 rs1
    refine ⟨small_line (by rw [← r1.length, hl _ _ _ _ er]; exact hn), fun p hp => ?_⟩
    exact h (.ref p) _ m1 (e1.trans (Grow.upd hp).evo) (Rep.newT rs1 hp r1) (rs1.grow (Grow.upd hp))
/-- a list that is never changed -/
def xLst (fs : Fa) : Fe := fun ρ st => (fs ρ st).bind fun ds s1 => .ok (.lst ds) s1
/-- a list at a place of its own -/
def xNew (fs : Fa) : Fe := fun ρ st => (fs ρ st).bind fun ds s1 => .ok (.loc s1.length) (s1 ++ [.lst ds])
theorem de_lst (h : DA X W es fs) (hn : es.length ≤ 1000 := by decide) : DE X W (.List es pos) (xLst fs) := by
  obtain ⟨⟨t, p, q⟩, hl⟩ := h
  refine ⟨_, pe_lst p, fun B σ H ρ st m Q re rs h => ?_⟩
  cases er : fs ρ st with
  | fail => rw [xLst, er] at h; exact h.elim
  | exc c f s => exact q B σ H ρ st m _ re rs (by rw [er]; rw [xLst, er] at h; exact h)
  | ok ds s1 =>
    refine q B σ H ρ st m _ re rs ?_
    rw [er]
    rw [xLst, er] at h
    intro xs H1 m1 e1 r1 rs1
    refine ⟨small_line (by rw [← r1.length, hl _ _ _ _ er]; exact hn), fun p hp => ?_⟩
    exact h (.ref p) _ m1 (e1.trans (Grow.upd hp).evo) (Rep.newL rs1 hp r1) (rs1.grow (Grow.upd hp))
/-- a fresh list object becomes a place -/
theorem new_place {K : KB} {H : Hp} {m : List Addr} {st : Store} {ds : List D} {vs : List V} (rs : RepSt K H m st) (r : RepL K H m ds vs) {p : Addr} (hp : H p = none) :
    Evo H m (upd H p (.lst vs)) (m ++ [p]) ∧ Rep K (upd H p (.lst vs)) (m ++ [p]) (.loc st.length) (.ref p) ∧ RepSt K (upd H p (.lst vs)) (m ++ [p]) (st ++ [.lst ds]) :=
  ⟨.push hp, Rep.loc_iff.mpr ⟨p, rfl, by rw [← rs.len]; simp⟩, rs.push hp ⟨vs, upd_same, RepL.evo (.push hp) _ _ r⟩⟩
theorem de_new (h : DA X W es fs) (hn : es.length ≤ 1000 := by decide) : DE X W (.List es pos) (xNew fs) := by
  obtain ⟨⟨t, p, q⟩, hl⟩ := h
  refine ⟨_, pe_lst p, fun B σ H ρ st m Q re rs h => ?_⟩
  cases er : fs ρ st with
  | fail => rw [xNew, er] at h; exact h.elim
  | exc c f s => exact q B σ H ρ st m _ re rs (by rw [er]; rw [xNew, er] at h; exact h)
  | ok ds s1 =>
    refine q B σ H ρ st m _ re rs ?_
    rw [er]
    rw [xNew, er] at h
    intro xs H1 m1 e1 r1 rs1
    refine ⟨small_line (by rw [← r1.length, hl _ _ _ _ er]; exact hn), fun p hp => ?_⟩
    obtain ⟨a1, a2, a3⟩ := new_place rs1 r1 hp
    exact h (.ref p) _ _ (e1.trans a1) a2 a3
theorem de_callB {x : Str} {p : Pos} {id : String} {g : GL} (hc : DCall X (.builtin id) g) (hg : Gl X x) (hm : X.mg x = none) (hv : bootBuiltins x = some (.builtin id)) (ha : DA X W (e :: es) fs) (hn : x ≠ "__name__" := by decide) (hdb : (x == ("__debug__" : Str)) = false := by decide)
    (he : starEach (e :: es) X.env = (false, eval e X.env) :: starEach es X.env := by rfl) (hpl : (backTo pos (starEach es X.env)).any (·.1) = false := by rfl) : DE X W (.Call (.Name x p) (e :: es) [] pos) (xCall g fs) := by
  obtain ⟨r, hr, hq⟩ := hc
  obtain ⟨⟨t, pt, q⟩, _⟩ := ha
  refine ⟨_, pe_callB hr hg hm hv pt hn hdb he hpl, fun B σ H ρ st m Q re rs h => ?_⟩
  refine q B σ H ρ st m _ re rs (good_bind h fun ds s1 xs H1 m1 e1 r1 rs1 h1 => ?_)
  obtain ⟨d, hd, q⟩ := good_lift h1
  exact hq B xs H1 m1 s1 ds d Q rs1 r1 hd fun v H' g rv => q v H' g rs1 rv
theorem de_callTy {x : Str} {p : Pos} {T : String} {g : GL} (hc : DCall X (.type T) g) (hg : Gl X x) (hm : X.mg x = none) (hv : bootBuiltins x = some (.type T)) (ha : DA X W (e :: es) fs) (hn : x ≠ "__name__" := by decide) (hdb : (x == ("__debug__" : Str)) = false := by decide)
    (he : starEach (e :: es) X.env = (false, eval e X.env) :: starEach es X.env := by rfl) (hpl : (backTo pos (starEach es X.env)).any (·.1) = false := by rfl) : DE X W (.Call (.Name x p) (e :: es) [] pos) (xCall g fs) := by
  obtain ⟨r, hr, hq⟩ := hc
  obtain ⟨⟨t, pt, q⟩, _⟩ := ha
  refine ⟨_, pe_callTy hr hg hm hv pt hn hdb he hpl, fun B σ H ρ st m Q re rs h => ?_⟩
  refine q B σ H ρ st m _ re rs (good_bind h fun ds s1 xs H1 m1 e1 r1 rs1 h1 => ?_)
  obtain ⟨d, hd, q⟩ := good_lift h1
  exact hq B xs H1 m1 s1 ds d Q rs1 r1 hd fun v H' g rv => q v H' g rs1 rv
def tB : D → Option Bool
  | .bl b => some b
  | _ => none
def liftB (o : Option Bool) (st : Store) : Res Bool := match o with
  | some d => .ok d st
  | none => .fail
@[simp] theorem liftB_some (d : Bool) (st : Store) : liftB (some d) st = .ok d st := id rfl
@[simp] theorem liftB_none (st : Store) : liftB none st = .fail := id rfl
theorem good_liftB {R : Bool → Hp → Prop} {K : KB} {H : Hp} {m : List Addr} {o : Option Bool} {st : Store} {W : WH} (h : GoodR RB (liftB o st) R W K H m) : ∃ d, o = some d ∧ (RepSt K H m st → R d H) := by
  cases o with
  | none => exact h.elim
  | some d => exact ⟨d, rfl, fun rs => good_ok h rfl rs⟩
/-- a value that is a bool, as a test -/
def tVal (f : Fe) : Ft := fun ρ st => (f ρ st).bind fun d s1 => liftB (tB d) s1
theorem dt_cmp {op : CmpOp} {g : G2} (o : DOp X (compareOp op) g) (ha : DE X W a fa) (hb : DE X W b fb) (hm : behindInMarks op b = false := by first | exact nomark _ | rfl) : DT X W (.Compare a [op] [b] pos) (tVal (xOp g fa fb)) := by
  obtain ⟨r, hr, hq⟩ := o
  obtain ⟨ta, pa, qa⟩ := ha
  obtain ⟨tb, pb, qb⟩ := hb
  refine ⟨_, pt_cmpR hr pa pb hm, fun B σ H ρ st m Q re rs h => ?_⟩
  refine op_run (F := compareOp op) hq qa qb B σ H ρ st m _ re rs (good_bind h fun d s1 x H1 m1 e1 r1 rs1 h1 => ?_)
  obtain ⟨c, hc, q⟩ := good_liftB h1
  cases d with
  | bl k => cases hc; exact ⟨_, Rep.bl_iff.mp r1, q rs1⟩
  | _ => nomatch hc
theorem dt_val (ha : DE X W a fa) (he : ∀ whole, isTrue a X.env whole = (do let v ← whole; standAt a.pos; holding [v] (truthy v)) := by intro _; rfl) : DT X W a (tVal fa) := by
  obtain ⟨ta, pa, qa⟩ := ha
  refine ⟨_, pt_val pa he, fun B σ H ρ st m Q re rs h => ?_⟩
  refine qa B σ H ρ st m _ re rs (good_bind h fun d s1 x H1 m1 e1 r1 rs1 h1 => ?_)
  obtain ⟨c, hc, q⟩ := good_liftB h1
  cases d with
  | bl k => cases hc; exact ⟨_, Rep.bl_iff.mp r1, q rs1⟩
  | _ => nomatch hc
/-- what may be read as a list, as a tuple -/
def lstV (st : Store) : D → Option (List D)
  | .lst ds => some ds
  | .rol ds => some ds
  | .loc l => match st[l]? with
    | some (.lst ds) => some ds
    | _ => none
  | _ => none
def lstM (st : Store) : D → Option (List D)
  | .lst ds => some ds
  | .loc l => match st[l]? with
    | some (.lst ds) => some ds
    | _ => none
  | _ => none
def tupV : D → Option (List D)
  | .tup ds => some ds
  | _ => none
theorem lstM_rep {K : KB} {H : Hp} {m : List Addr} {st : Store} (rs : RepSt K H m st) {d : D} {v : V} {ds : List D} (r : Rep K H m d v) (h : lstM st d = some ds) : ∃ a vs, v = .ref a ∧ H a = some (.lst vs) ∧ RepL K H m ds vs := by
  cases d with
  | lst xs =>
    cases h
    obtain ⟨a, vs, h1, h2, h3⟩ := Rep.lst_iff.mp r
    exact ⟨a, vs, h1, h2.1, h3⟩
  | loc l =>
    obtain ⟨a, rfl, h1⟩ := Rep.loc_iff.mp r
    cases q : st[l]? with
    | none => simp [lstM, q] at h
    | some c =>
      simp only [lstM, q] at h
      cases c with
      | lst xs =>
        cases h
        obtain ⟨b, h2, vs, h3, h4⟩ := rs.cell l _ q
        rw [h1] at h2; cases h2
        exact ⟨a, vs, rfl, h3, h4⟩
      | dic _ => nomatch h
      | ins _ _ => nomatch h
  | _ => nomatch h
theorem lstV_rep {K : KB} {H : Hp} {m : List Addr} {st : Store} (rs : RepSt K H m st) {d : D} {v : V} {ds : List D} (r : Rep K H m d v) (h : lstV st d = some ds) : ∃ a vs, v = .ref a ∧ SqL K.K H a vs ∧ RepL K H m ds vs := by
  cases d with
  | lst xs => cases h; exact r.lst_sq
  | rol xs => cases h; exact r.rol_sq
  | loc l =>
    obtain ⟨a, vs, h1, h2, h3⟩ := lstM_rep (ds := ds) rs r h
    exact ⟨a, vs, h1, .of h2, h3⟩
  | _ => nomatch h
theorem tupV_rep {K : KB} {H : Hp} {m : List Addr} {d : D} {v : V} {ds : List D} (r : Rep K H m d v) (h : tupV d = some ds) : ∃ a vs, v = .ref a ∧ SqT K.K H a vs ∧ RepL K H m ds vs := by
  cases d with
  | tup xs => cases h; exact r.tup_sq
  | _ => nomatch h
/-- truth -/
def truD (st : Store) (d : D) : Option Bool := match d with
  | .non => some false
  | .bl b => some b
  | .int i => some (i != 0)
  | .str y => if y.length ≤ sizeLine then some ((y.length : Int) != 0) else none
  | .tup ds => some (!ds.isEmpty)
  | d => (lstV st d).map fun ds => !ds.isEmpty
theorem isEmpty_len {α β : Type} {xs : List α} {ys : List β} (h : xs.length = ys.length) : xs.isEmpty = ys.isEmpty := by
  cases xs <;> cases ys <;> simp_all
theorem truD_rep {K : KB} {H : Hp} {m : List Addr} {st : Store} (rs : RepSt K H m st) {d : D} {v : V} {k : Bool} (r : Rep K H m d v) (h : truD st d = some k) : TruV K.K v H k := by
  have ls : ∀ {d : D}, Rep K H m d v → (lstV st d).map (fun ds => !ds.isEmpty) = some k → TruV K.K v H k := fun {d} r h => by
    obtain ⟨ds, h1, h2⟩ := Option.map_eq_some_iff.mp h
    obtain ⟨a, vs, rfl, h3, h4⟩ := lstV_rep rs r h1
    exact .inl ⟨vs, h3, by rw [← h2, isEmpty_len h4.length]⟩
  cases d with
  | non => cases Rep.non_iff.mp r; cases h; rfl
  | bl b => cases Rep.bl_iff.mp r; cases h; rfl
  | int i => cases Rep.int_iff.mp r; cases h; rfl
  | str y =>
    cases Rep.str_iff.mp r
    unfold truD at h
    simp only at h
    split at h
    · rename_i hy; cases h; exact ⟨hy, rfl⟩
    · nomatch h
  | tup ds =>
    obtain ⟨a, vs, rfl, h3, h4⟩ := r.tup_sq
    cases h
    exact .inr (.inl ⟨vs, h3, by rw [isEmpty_len h4.length]⟩)
  | lst ds => exact ls r h
  | rol ds => exact ls r h
  | loc l => exact ls r h
  | ty n => nomatch h
  | ob a => nomatch h
def tTru (f : Fe) : Ft := fun ρ st => (f ρ st).bind fun d s1 => liftB (truD s1 d) s1
theorem dt_tru (ha : DE X W a fa) (he : ∀ whole, isTrue a X.env whole = (do let v ← whole; standAt a.pos; holding [v] (truthy v)) := by intro _; rfl) : DT X W a (tTru fa) := by
  obtain ⟨ta, pa, qa⟩ := ha
  refine ⟨_, pt_truth pa he, fun B σ H ρ st m Q re rs h => ?_⟩
  refine qa B σ H ρ st m _ re rs (good_bind h fun d s1 x H1 m1 e1 r1 rs1 h1 => ?_)
  obtain ⟨c, hc, q⟩ := good_liftB h1
  exact ⟨c, truD_rep rs1 r1 hc, q rs1⟩
/-- and, or as tests -/
structure DW (X : Cx) (W : WX) (e : Expr) (f : Ft) : Prop where
  ex : ∃ t : TT, PW X e t ∧ ∀ (B : List Addr) (σ : Sg) (H : Hp) (ρ : DEnv) (st : Store) (m : List Addr) (Q : Bool → Hp → Prop), RepE ⟨X.K, B⟩ H m ρ σ → RepSt ⟨X.K, B⟩ H m st → GoodR RB (f ρ st) Q (fun c d H' => W c d σ H') ⟨X.K, B⟩ H m → t σ H Q
theorem DW.dt {f : Ft} (h : DW X W e f) : DT X W e f := let ⟨t, p, q⟩ := h; ⟨t, p.pt, q⟩
variable {ft gt : Ft} {rest : List Expr}
theorem dw_and1 (h : DT X W a ft) : DW X W (.BoolOp .And [a] pos) ft := let ⟨⟨t, p, q⟩⟩ := h; ⟨t, pw_and1 p, q⟩
theorem dw_or1 (h : DT X W a ft) : DW X W (.BoolOp .Or [a] pos) ft := let ⟨⟨t, p, q⟩⟩ := h; ⟨t, pw_or1 p, q⟩
def tAndF (f g : Ft) : Ft := fun ρ st => (f ρ st).bind fun b s1 => if b = true then g ρ s1 else .ok false s1
def tOrF (f g : Ft) : Ft := fun ρ st => (f ρ st).bind fun b s1 => if b = true then .ok true s1 else g ρ s1
def tNotF (f : Ft) : Ft := fun ρ st => (f ρ st).bind fun b s1 => .ok (!b) s1
theorem dw_and (ha : DT X W a ft) (hb : DW X W (.BoolOp .And (b :: rest) pos) gt) : DW X W (.BoolOp .And (a :: b :: rest) pos) (tAndF ft gt) := by
  obtain ⟨ta, pa, qa⟩ := ha
  obtain ⟨tb, pb, qb⟩ := hb
  refine ⟨_, pw_and pa pb, fun B σ H ρ st m Q re rs h => ?_⟩
  refine qa B σ H ρ st m _ re rs (good_bind h fun d s1 x H1 m1 e1 r1 rs1 h1 => ?_)
  cases (show x = d from r1)
  cases d with
  | true => rw [if_pos rfl] at h1 ⊢; exact qb B σ H1 ρ s1 m1 Q (re.evo e1) rs1 h1
  | false => rw [if_neg Bool.false_ne_true] at h1 ⊢; exact good_ok h1 rfl rs1
theorem dw_or (ha : DT X W a ft) (hb : DW X W (.BoolOp .Or (b :: rest) pos) gt) : DW X W (.BoolOp .Or (a :: b :: rest) pos) (tOrF ft gt) := by
  obtain ⟨ta, pa, qa⟩ := ha
  obtain ⟨tb, pb, qb⟩ := hb
  refine ⟨_, pw_or pa pb, fun B σ H ρ st m Q re rs h => ?_⟩
  refine qa B σ H ρ st m _ re rs (good_bind h fun d s1 x H1 m1 e1 r1 rs1 h1 => ?_)
  cases (show x = d from r1)
  cases d with
  | true => rw [if_pos rfl] at h1 ⊢; exact good_ok h1 rfl rs1
  | false => rw [if_neg Bool.false_ne_true] at h1 ⊢; exact qb B σ H1 ρ s1 m1 Q (re.evo e1) rs1 h1
theorem dt_not (ha : DT X W a ft) : DT X W (.UnaryOp .Not a pos) (tNotF ft) := by
  obtain ⟨ta, pa, qa⟩ := ha
  refine ⟨_, pt_not pa, fun B σ H ρ st m Q re rs h => ?_⟩
  refine qa B σ H ρ st m _ re rs (good_bind h fun d s1 x H1 m1 e1 r1 rs1 h1 => ?_)
  cases (show x = d from r1)
  exact good_ok h1 rfl rs1
/-- .. as values -/
def xAndF (f g : Fe) : Fe := fun ρ st => (f ρ st).bind fun d s1 => match d with
  | .bl true => g ρ s1
  | .bl false => .ok (.bl false) s1
  | _ => .fail
def xOrF (f g : Fe) : Fe := fun ρ st => (f ρ st).bind fun d s1 => match d with
  | .bl true => .ok (.bl true) s1
  | .bl false => g ρ s1
  | _ => .fail
def xNotF (f : Fe) : Fe := fun ρ st => (f ρ st).bind fun d s1 => match d with
  | .bl b => .ok (.bl (!b)) s1
  | _ => .fail
theorem de_one {op} (h : DE X W a fa) : DE X W (.BoolOp op [a] pos) fa := let ⟨⟨t, p, q⟩⟩ := h; ⟨t, pe_one p, q⟩
theorem de_and (ha : DE X W a fa) (hb : DE X W (.BoolOp .And (b :: rest) pos) fb) : DE X W (.BoolOp .And (a :: b :: rest) pos) (xAndF fa fb) := by
  obtain ⟨ta, pa, qa⟩ := ha
  obtain ⟨tb, pb, qb⟩ := hb
  refine ⟨_, pe_and pa pb, fun B σ H ρ st m Q re rs h => ?_⟩
  refine qa B σ H ρ st m _ re rs (good_bind h fun d s1 x H1 m1 e1 r1 rs1 h1 => ?_)
  cases d with
  | bl k =>
    cases Rep.bl_iff.mp r1
    refine ⟨k, rfl, ?_⟩
    cases k with
    | true => rw [if_pos rfl]; exact qb B σ H1 ρ s1 m1 Q (re.evo e1) rs1 h1
    | false => rw [if_neg Bool.false_ne_true]; exact good_ok h1 (Rep.bl_iff.mpr rfl) rs1
  | _ => exact h1.elim
theorem de_or (ha : DE X W a fa) (hb : DE X W (.BoolOp .Or (b :: rest) pos) fb) : DE X W (.BoolOp .Or (a :: b :: rest) pos) (xOrF fa fb) := by
  obtain ⟨ta, pa, qa⟩ := ha
  obtain ⟨tb, pb, qb⟩ := hb
  refine ⟨_, pe_or pa pb, fun B σ H ρ st m Q re rs h => ?_⟩
  refine qa B σ H ρ st m _ re rs (good_bind h fun d s1 x H1 m1 e1 r1 rs1 h1 => ?_)
  cases d with
  | bl k =>
    cases Rep.bl_iff.mp r1
    refine ⟨k, rfl, ?_⟩
    cases k with
    | true => rw [if_pos rfl]; exact good_ok h1 (Rep.bl_iff.mpr rfl) rs1
    | false => rw [if_neg Bool.false_ne_true]; exact qb B σ H1 ρ s1 m1 Q (re.evo e1) rs1 h1
  | _ => exact h1.elim
theorem de_not (ha : DE X W a fa) : DE X W (.UnaryOp .Not a pos) (xNotF fa) := by
  obtain ⟨ta, pa, qa⟩ := ha
  refine ⟨_, pe_not pa, fun B σ H ρ st m Q re rs h => ?_⟩
  refine qa B σ H ρ st m _ re rs (good_bind h fun d s1 x H1 m1 e1 r1 rs1 h1 => ?_)
  cases d with
  | bl k => exact ⟨k, Rep.bl_iff.mp r1, good_ok h1 (Rep.bl_iff.mpr rfl) rs1⟩
  | _ => exact h1.elim
def xIf (c : Ft) (f g : Fe) : Fe := fun ρ st => (c ρ st).bind fun b s1 => if b = true then f ρ s1 else g ρ s1
theorem de_if {c : Expr} (hc : DT X W c ft) (ha : DE X W a fa) (hb : DE X W b fb) : DE X W (.IfExp c a b pos) (xIf ft fa fb) := by
  obtain ⟨tc, pc, qc⟩ := hc
  obtain ⟨ta, pa, qa⟩ := ha
  obtain ⟨tb, pb, qb⟩ := hb
  refine ⟨_, pe_ifExp pc pa pb, fun B σ H ρ st m Q re rs h => ?_⟩
  refine qc B σ H ρ st m _ re rs (good_bind h fun d s1 x H1 m1 e1 r1 rs1 h1 => ?_)
  cases (show x = d from r1)
  cases d with
  | true => rw [if_pos rfl] at h1 ⊢; exact qa B σ H1 ρ s1 m1 Q (re.evo e1) rs1 h1
  | false => rw [if_neg Bool.false_ne_true] at h1 ⊢; exact qb B σ H1 ρ s1 m1 Q (re.evo e1) rs1 h1
/-- a < b < c -/
def xChain (g g' : G2) (fa fb fc : Fe) : Fe := fun ρ st => (fa ρ st).bind fun da s1 => (fb ρ s1).bind fun db s2 => (lift (g s2 da db) s2).bind fun k s3 => match k with
  | .bl true => (fc ρ s3).bind fun dc s4 => lift (g' s4 db dc) s4
  | .bl false => .ok (.bl false) s3
  | _ => .fail
theorem chain_run {op op' : CmpOp} {g g' : G2} {r r' : R2} {c : Expr} {fc : Fe} (hr : ∀ (B : List Addr) (x y : V) (H : Hp) (m : List Addr) (st : Store) (da db d : D) (Q : VK), RepSt ⟨X.K, B⟩ H m st → Rep ⟨X.K, B⟩ H m da x → Rep ⟨X.K, B⟩ H m db y → g st da db = some d → (∀ v H', Grow H H' → Rep ⟨X.K, B⟩ H' m d v → Q v H') → r x y H Q)
    (hr' : ∀ (B : List Addr) (x y : V) (H : Hp) (m : List Addr) (st : Store) (da db d : D) (Q : VK), RepSt ⟨X.K, B⟩ H m st → Rep ⟨X.K, B⟩ H m da x → Rep ⟨X.K, B⟩ H m db y → g' st da db = some d → (∀ v H', Grow H H' → Rep ⟨X.K, B⟩ H' m d v → Q v H') → r' x y H Q)
    {ta tb tc : TE} (ha : ∀ (B : List Addr) (σ : Sg) (H : Hp) (ρ : DEnv) (st : Store) (m : List Addr) (Q : VK), RepE ⟨X.K, B⟩ H m ρ σ → RepSt ⟨X.K, B⟩ H m st → GoodR (Rep ⟨X.K, B⟩) (fa ρ st) Q (fun c d H' => W c d σ H') ⟨X.K, B⟩ H m → ta σ H Q)
    (hb : ∀ (B : List Addr) (σ : Sg) (H : Hp) (ρ : DEnv) (st : Store) (m : List Addr) (Q : VK), RepE ⟨X.K, B⟩ H m ρ σ → RepSt ⟨X.K, B⟩ H m st → GoodR (Rep ⟨X.K, B⟩) (fb ρ st) Q (fun c d H' => W c d σ H') ⟨X.K, B⟩ H m → tb σ H Q)
    (hc : ∀ (B : List Addr) (σ : Sg) (H : Hp) (ρ : DEnv) (st : Store) (m : List Addr) (Q : VK), RepE ⟨X.K, B⟩ H m ρ σ → RepSt ⟨X.K, B⟩ H m st → GoodR (Rep ⟨X.K, B⟩) (fc ρ st) Q (fun c d H' => W c d σ H') ⟨X.K, B⟩ H m → tc σ H Q)
    (B : List Addr) (σ : Sg) (H : Hp) (ρ : DEnv) (st : Store) (m : List Addr) (Q : VK) (re : RepE ⟨X.K, B⟩ H m ρ σ) (rs : RepSt ⟨X.K, B⟩ H m st) (h : GoodR (Rep ⟨X.K, B⟩) (xChain g g' fa fb fc ρ st) Q (fun c d H' => W c d σ H') ⟨X.K, B⟩ H m) : tChain r r' ta tb tc σ H Q := by
  refine ha B σ H ρ st m _ re rs (good_bind h fun da s1 x H1 m1 e1 r1 rs1 h1 => ?_)
  refine hb B σ H1 ρ s1 m1 _ (re.evo e1) rs1 (good_bind h1 fun db s2 y H2 m2 e2 r2 rs2 h2 => ?_)
  cases hg : g s2 da db with
  | none => rw [hg] at h2; exact h2.elim
  | some d =>
    rw [hg] at h2
    refine hr B x y H2 m2 s2 da db d _ rs2 (Rep.evo e2 _ _ r1) r2 hg fun v H3 gr rv => ?_
    simp only [lift_some, Res.bind_ok] at h2
    cases d with
    | bl k =>
      refine ⟨k, Rep.bl_iff.mp rv, ?_⟩
      cases k with
      | true =>
        rw [if_pos rfl]
        refine hc B σ H3 ρ s2 m2 _ ((re.evo e1).evo (e2.trans gr.evo)) (rs2.grow gr) (good_bind (h2.evo gr.evo) fun dc s4 z H4 m4 e4 r4 rs4 h4 => ?_)
        obtain ⟨d, hd, q⟩ := good_lift h4
        exact hr' B y z H4 m4 s4 db dc d Q rs4 (Rep.evo (gr.evo.trans e4) _ _ r2) r4 hd fun v H' g rv => q v H' g rs4 rv
      | false => rw [if_neg Bool.false_ne_true]; exact h2 _ H3 m2 gr.evo (Rep.bl_iff.mpr rfl) (rs2.grow gr)
    | _ => exact h2.elim
theorem dt_chain {op op' : CmpOp} {g g' : G2} {c : Expr} {fc : Fe} (o : DOp X (compareOp op) g) (o' : DOp X (compareOp op') g') (ha : DE X W a fa) (hb : DE X W b fb) (hc : DE X W c fc)
    (hm : lastMarks [op, op'] [b, c] = false := by with_unfolding_all rfl) : DT X W (.Compare a [op, op'] [b, c] pos) (tVal (xChain g g' fa fb fc)) := by
  obtain ⟨r, hr, hq⟩ := o
  obtain ⟨r', hr', hq'⟩ := o'
  obtain ⟨ta, pa, qa⟩ := ha
  obtain ⟨tb, pb, qb⟩ := hb
  obtain ⟨tc, pc, qc⟩ := hc
  refine ⟨_, pt_chain hr hr' pa pb pc hm, fun B σ H ρ st m Q re rs h => ?_⟩
  refine chain_run (c := c) (op := op) (op' := op') hq hq' qa qb qc B σ H ρ st m _ re rs (good_bind h fun d s1 x H1 m1 e1 r1 rs1 h1 => ?_)
  obtain ⟨c, hc, q⟩ := good_liftB h1
  cases d with
  | bl k => cases hc; exact ⟨_, Rep.bl_iff.mp r1, q rs1⟩
  | _ => nomatch hc
theorem de_chain {op op' : CmpOp} {g g' : G2} {c : Expr} {fc : Fe} (o : DOp X (compareOp op) g) (o' : DOp X (compareOp op') g') (ha : DE X W a fa) (hb : DE X W b fb) (hc : DE X W c fc)
    (hm : lastMarks [op, op'] [b, c] = false := by with_unfolding_all rfl) : DE X W (.Compare a [op, op'] [b, c] pos) (xChain g g' fa fb fc) := by
  obtain ⟨r, hr, hq⟩ := o
  obtain ⟨r', hr', hq'⟩ := o'
  obtain ⟨ta, pa, qa⟩ := ha
  obtain ⟨tb, pb, qb⟩ := hb
  obtain ⟨tc, pc, qc⟩ := hc
  exact ⟨_, pe_chain hr hr' pa pb pc hm, chain_run (c := c) (op := op) (op' := op') hq hq' qa qb qc⟩
structure DIx (X : Cx) (g : G2) : Prop where
  ex : ∃ r : R2, IxR X r ∧ ∀ (B : List Addr) (x y : V) (H : Hp) (m : List Addr) (st : Store) (da db d : D) (Q : VK), RepSt ⟨X.K, B⟩ H m st → Rep ⟨X.K, B⟩ H m da x → Rep ⟨X.K, B⟩ H m db y → g st da db = some d →
    (∀ v H', Grow H H' → Rep ⟨X.K, B⟩ H' m d v → Q v H') → r x y H Q
theorem de_ix {g : G2} (o : DIx X g) (ha : DE X W a fa) (hb : DE X W b fb) (hs : PlainIx b := by intro _ _; rfl) : DE X W (.Subscript a b pos) (xOp g fa fb) := by
  obtain ⟨r, hr, hq⟩ := o
  obtain ⟨ta, pa, qa⟩ := ha
  obtain ⟨tb, pb, qb⟩ := hb
  exact ⟨_, pe_ix hr pa pb hs, op_run (F := fun _ _ => pure .none) hq qa qb⟩
abbrev Fo := DEnv → Store → Res (Option Int)
structure DO (X : Cx) (W : WX) (e : Option Expr) (f : Fo) : Prop where
  ex : ∃ t : TO, PO X e t ∧ ∀ (B : List Addr) (σ : Sg) (H : Hp) (ρ : DEnv) (st : Store) (m : List Addr) (Q : Option Int → Hp → Prop), RepE ⟨X.K, B⟩ H m ρ σ → RepSt ⟨X.K, B⟩ H m st → GoodR (fun _ _ (b c : Option Int) => c = b) (f ρ st) Q (fun c d H' => W c d σ H') ⟨X.K, B⟩ H m → t σ H Q
def oNone : Fo := fun _ st => .ok none st
def oSome (f : Fe) : Fo := fun ρ st => (f ρ st).bind fun d s1 => match d with
  | .int i => .ok (some i) s1
  | _ => .fail
theorem do_none : DO X W none oNone := ⟨_, po_none, fun B σ H ρ st m Q re rs h => good_ok h rfl rs⟩
theorem do_some (ha : DE X W a fa) : DO X W (some a) (oSome fa) := by
  obtain ⟨ta, pa, qa⟩ := ha
  refine ⟨_, po_some pa, fun B σ H ρ st m Q re rs h => ?_⟩
  refine qa B σ H ρ st m _ re rs (good_bind h fun d s1 x H1 m1 e1 r1 rs1 h1 => ?_)
  cases d with
  | int i => exact ⟨i, Rep.int_iff.mp r1, good_ok h1 rfl rs1⟩
  | _ => exact h1.elim
abbrev GS := Store → D → Option Int → Option Int → Option D
structure DSl (X : Cx) (g : GS) : Prop where
  ex : ∃ r, SlR X r ∧ ∀ (B : List Addr) (x : V) (lo hi : Option Int) (H : Hp) (m : List Addr) (st : Store) (da d : D) (Q : VK), RepSt ⟨X.K, B⟩ H m st → Rep ⟨X.K, B⟩ H m da x → g st da lo hi = some d →
    (∀ v H', Grow H H' → Rep ⟨X.K, B⟩ H' m d v → Q v H') → r x lo hi H Q
def xSl (g : GS) (fa : Fe) (fl fh : Fo) : Fe := fun ρ st => (fa ρ st).bind fun da s1 => (fl ρ s1).bind fun lo s2 => (fh ρ s2).bind fun hi s3 => lift (g s3 da lo hi) s3
theorem de_sl {g : GS} {lo hi : Option Expr} {fl fh : Fo} {p2 : Pos} (o : DSl X g) (ha : DE X W a fa) (hl : DO X W lo fl) (hh : DO X W hi fh) : DE X W (.Subscript a (.Slice lo hi none p2) pos) (xSl g fa fl fh) := by
  obtain ⟨r, hr, hq⟩ := o
  obtain ⟨ta, pa, qa⟩ := ha
  obtain ⟨tl, pl, ql⟩ := hl
  obtain ⟨th, ph, qh⟩ := hh
  refine ⟨_, pe_slice hr pa pl ph, fun B σ H ρ st m Q re rs h => ?_⟩
  refine qa B σ H ρ st m _ re rs (good_bind h fun da s1 x H1 m1 e1 r1 rs1 h1 => ?_)
  refine ql B σ H1 ρ s1 m1 _ (re.evo e1) rs1 (good_bind h1 fun l s2 l' H2 m2 e2 r2 rs2 h2 => ?_)
  refine qh B σ H2 ρ s2 m2 _ (re.evo (e1.trans e2)) rs2 (good_bind h2 fun u s3 u' H3 m3 e3 r3 rs3 h3 => ?_)
  cases (show l' = l from r2)
  cases (show u' = u from r3)
  obtain ⟨d, hd, q⟩ := good_lift h3
  exact hq B x _ _ H3 m3 s3 da d Q rs3 (Rep.evo (e2.trans e3) _ _ r1) hd fun v H' g rv => q v H' g rs3 rv
end
end DL
namespace DL
open PySem PySem.Spec PyProof.Rows L2
mutual
def D.beq : D → D → Bool
  | .non, .non => true
  | .bl a, .bl b => a == b
  | .int a, .int b => a == b
  | .str a, .str b => a == b
  | .ty a, .ty b => a == b
  | .ob a, .ob b => a == b
  | .tup a, .tup b => D.beqL a b
  | .lst a, .lst b => D.beqL a b
  | .rol a, .rol b => D.beqL a b
  | .loc a, .loc b => a == b
  | _, _ => false
def D.beqL : List D → List D → Bool
  | [], [] => true
  | a :: r, b :: s => D.beq a b && D.beqL r s
  | _, _ => false
end
mutual
theorem D.beq_refl : ∀ a : D, D.beq a a = true
  | .non => rfl
  | .bl a => by simp [D.beq]
  | .int a => by simp [D.beq]
  | .str a => by simp [D.beq]
  | .ty a => by simp [D.beq]
  | .ob a => by simp [D.beq]
  | .tup a => by simp [D.beq, D.beqL_refl a]
  | .lst a => by simp [D.beq, D.beqL_refl a]
  | .rol a => by simp [D.beq, D.beqL_refl a]
  | .loc a => by simp [D.beq]
theorem D.beqL_refl : ∀ a : List D, D.beqL a a = true
  | [] => rfl
  | a :: r => by simp [D.beqL, D.beq_refl a, D.beqL_refl r]
end
mutual
theorem D.beq_eq : ∀ (a b : D), D.beq a b = true → a = b
  | .non, b, h => by cases b <;> simp_all [D.beq]
  | .bl a, b, h => by cases b <;> simp_all [D.beq]
  | .int a, b, h => by cases b <;> simp_all [D.beq]
  | .str a, b, h => by cases b <;> simp_all [D.beq]
  | .ty a, b, h => by cases b <;> simp_all [D.beq]
  | .ob a, b, h => by cases b <;> simp_all [D.beq]
  | .tup a, b, h => by
    cases b with
    | tup c => rw [D.beqL_eq a c (by simpa [D.beq] using h)]
    | _ => simp [D.beq] at h
  | .lst a, b, h => by
    cases b with
    | lst c => rw [D.beqL_eq a c (by simpa [D.beq] using h)]
    | _ => simp [D.beq] at h
  | .rol a, b, h => by
    cases b with
    | rol c => rw [D.beqL_eq a c (by simpa [D.beq] using h)]
    | _ => simp [D.beq] at h
  | .loc a, b, h => by cases b <;> simp_all [D.beq]
theorem D.beqL_eq : ∀ (a b : List D), D.beqL a b = true → a = b
  | [], b, h => by cases b with
    | nil => rfl
    | cons x y => simp [D.beqL] at h
  | a :: r, b, h => by
    cases b with
    | nil => simp [D.beqL] at h
    | cons x y =>
      simp only [D.beqL, Bool.and_eq_true] at h
      rw [D.beq_eq a x h.1, D.beqL_eq r y h.2]
end
def beqP {κ : Type} [DecidableEq κ] : List (κ × D) → List (κ × D) → Bool
  | [], [] => true
  | (k, a) :: r, (j, b) :: s => decide (k = j) && D.beq a b && beqP r s
  | _, _ => false
theorem beqP_refl {κ : Type} [DecidableEq κ] : ∀ a : List (κ × D), beqP a a = true
  | [] => rfl
  | (k, a) :: r => by simp [beqP, D.beq_refl, beqP_refl r]
theorem beqP_eq {κ : Type} [DecidableEq κ] : ∀ (a b : List (κ × D)), beqP a b = true → a = b
  | [], b, h => by cases b with
    | nil => rfl
    | cons x y => simp [beqP] at h
  | (k, a) :: r, b, h => by
    cases b with
    | nil => simp [beqP] at h
    | cons x y =>
      obtain ⟨j, x⟩ := x
      simp only [beqP, Bool.and_eq_true, decide_eq_true_eq] at h
      rw [h.1.1, D.beq_eq a x h.1.2, beqP_eq r y h.2]
def Cell.beq : Cell → Cell → Bool
  | .lst a, .lst b => D.beqL a b
  | .dic a, .dic b => beqP a b
  | .ins C a, .ins D b => C == D && beqP a b
  | _, _ => false
theorem Cell.beq_refl (a : Cell) : Cell.beq a a = true := by
  cases a <;> simp [Cell.beq, D.beqL_refl, beqP_refl]
theorem Cell.beq_eq (a b : Cell) (h : Cell.beq a b = true) : a = b := by
  cases a <;> cases b <;> simp only [Cell.beq, Bool.and_eq_true, beq_iff_eq] at h <;> try (exact absurd h Bool.false_ne_true)
  · rw [D.beqL_eq _ _ h]
  · rw [beqP_eq _ _ h]
  · rw [h.1, beqP_eq _ _ h.2]
def Store.beq : Store → Store → Bool
  | [], [] => true
  | a :: r, b :: s => Cell.beq a b && Store.beq r s
  | _, _ => false
theorem Store.beq_refl : ∀ a : Store, Store.beq a a = true
  | [] => rfl
  | a :: r => by simp [Store.beq, Cell.beq_refl, Store.beq_refl r]
theorem Store.beq_eq : ∀ (a b : Store), Store.beq a b = true → a = b
  | [], b, h => by cases b with
    | nil => rfl
    | cons x y => simp [Store.beq] at h
  | a :: r, b, h => by
    cases b with
    | nil => simp [Store.beq] at h
    | cons x y =>
      simp only [Store.beq, Bool.and_eq_true] at h
      rw [Cell.beq_eq a x h.1, Store.beq_eq r y h.2]
mutual
/-- no place from n on -/
def D.und (n : Nat) : D → Bool
  | .loc l => decide (l < n)
  | .tup ds => D.undL n ds
  | .lst ds => D.undL n ds
  | .rol ds => D.undL n ds
  | _ => true
def D.undL (n : Nat) : List D → Bool
  | [] => true
  | d :: ds => D.und n d && D.undL n ds
end
def belowP {κ : Type} (n : Nat) : List (κ × D) → Bool
  | [] => true
  | (_, d) :: r => D.und n d && belowP n r
def Cell.below (n : Nat) : Cell → Bool
  | .lst ds => D.undL n ds
  | .dic kvs => belowP n kvs
  | .ins _ fs => belowP n fs
def Store.below (n : Nat) : Store → Bool
  | [] => true
  | c :: s => Cell.below n c && Store.below n s
theorem Store.below_get {n : Nat} : ∀ {s : Store} {l : Nat} {c : Cell}, Store.below n s = true → s[l]? = some c → Cell.below n c = true
  | [], _, _, _, h => by simp at h
  | a :: s, 0, c, h, q => by simp only [Store.below, Bool.and_eq_true] at h; simp at q; subst q; exact h.1
  | a :: s, l + 1, c, h, q => by simp only [Store.below, Bool.and_eq_true] at h; exact Store.below_get h.2 (by simpa using q)
section
variable {K : KB} {H : Hp} {m e : List Addr} {n : Nat}
mutual
theorem Rep.below : ∀ {d : D} {v : V}, Rep K H m d v → D.und m.length d = true
  | .loc l, _, h => by
    obtain ⟨a, _, h1⟩ := Rep.loc_iff.mp h
    simp only [D.und, decide_eq_true_eq]
    exact (List.getElem?_eq_some_iff.mp h1).1
  | .tup ds, _, h => by obtain ⟨a, vs, _, _, h2⟩ := Rep.tup_iff.mp h; simp only [D.und]; exact RepL.below h2
  | .lst ds, _, h => by obtain ⟨a, vs, _, _, h2⟩ := Rep.lst_iff.mp h; simp only [D.und]; exact RepL.below h2
  | .rol ds, _, h => by obtain ⟨a, vs, _, _, h2⟩ := Rep.rol_iff.mp h; simp only [D.und]; exact RepL.below h2
  | .non, _, _ => rfl
  | .bl _, _, _ => rfl
  | .int _, _, _ => rfl
  | .str _, _, _ => rfl
  | .ty _, _, _ => rfl
  | .ob _, _, _ => rfl
theorem RepL.below : ∀ {ds : List D} {vs : List V}, RepL K H m ds vs → D.undL m.length ds = true
  | [], _, _ => rfl
  | d :: ds, _, h => by
    obtain ⟨v, r, _, h1, h2⟩ := h.inv_cons
    simp only [D.undL, Bool.and_eq_true]
    exact ⟨Rep.below h1, RepL.below h2⟩
end
theorem RepP.below {κ : Type} : ∀ {ds : List (κ × D)} {vs : List (κ × V)}, RepP K H m ds vs → belowP m.length ds = true
  | [], _, _ => rfl
  | (k, d) :: ds, _, ⟨v, r, _, h1, h2⟩ => by
    simp only [belowP, Bool.and_eq_true]
    exact ⟨Rep.below h1, RepP.below h2⟩
mutual
/-- later places forgotten -/
theorem Rep.cut : ∀ {d : D} {v : V}, Rep K H (m ++ e) d v → D.und m.length d = true → Rep K H m d v
  | .loc l, _, h, b => by
    obtain ⟨a, rfl, h1⟩ := Rep.loc_iff.mp h
    simp only [D.und, decide_eq_true_eq] at b
    rw [List.getElem?_append_left b] at h1
    exact Rep.loc_iff.mpr ⟨a, rfl, h1⟩
  | .tup ds, _, h, b => by
    obtain ⟨a, vs, rfl, h1, h2⟩ := Rep.tup_iff.mp h
    simp only [D.und] at b
    refine Rep.tup_iff.mpr ⟨a, vs, rfl, ?_, RepL.cut h2 b⟩
    rcases h1 with ⟨h1, n⟩ | h1
    · exact .inl ⟨h1, fun z => n.1 (List.mem_append_left _ z), n.2⟩
    · exact .inr h1
  | .lst ds, _, h, b => by
    obtain ⟨a, vs, rfl, ⟨h1, n, nb⟩, h2⟩ := Rep.lst_iff.mp h
    simp only [D.und] at b
    exact Rep.lst_iff.mpr ⟨a, vs, rfl, ⟨h1, fun z => n (List.mem_append_left _ z), nb⟩, RepL.cut h2 b⟩
  | .rol ds, _, h, b => by
    obtain ⟨a, vs, rfl, h1, h2⟩ := Rep.rol_iff.mp h
    simp only [D.und] at b
    refine Rep.rol_iff.mpr ⟨a, vs, rfl, ?_, RepL.cut h2 b⟩
    rcases h1 with ⟨h1, n⟩ | h1
    · exact .inl ⟨h1, fun z => n.1 (List.mem_append_left _ z), n.2⟩
    · exact .inr h1
  | .non, _, h, _ => by unfold Rep at h ⊢; exact h
  | .bl _, _, h, _ => by unfold Rep at h ⊢; exact h
  | .int _, _, h, _ => by unfold Rep at h ⊢; exact h
  | .str _, _, h, _ => by unfold Rep at h ⊢; exact h
  | .ty _, _, h, _ => by unfold Rep at h ⊢; exact h
  | .ob _, _, h, _ => by unfold Rep at h ⊢; exact h
theorem RepL.cut : ∀ {ds : List D} {vs : List V}, RepL K H (m ++ e) ds vs → D.undL m.length ds = true → RepL K H m ds vs
  | [], _, h, _ => by unfold RepL at h ⊢; exact h
  | d :: ds, _, h, b => by
    obtain ⟨v, r, rfl, h1, h2⟩ := h.inv_cons
    simp only [D.undL, Bool.and_eq_true] at b
    exact .cons (Rep.cut h1 b.1) (RepL.cut h2 b.2)
end
theorem RepP.cut {κ : Type} : ∀ {ds : List (κ × D)} {vs : List (κ × V)}, RepP K H (m ++ e) ds vs → belowP m.length ds = true → RepP K H m ds vs
  | [], _, h, _ => h
  | (k, d) :: ds, _, ⟨v, r, q, h1, h2⟩, b => by
    simp only [belowP, Bool.and_eq_true] at b
    exact ⟨v, r, q, Rep.cut h1 b.1, RepP.cut h2 b.2⟩
theorem RepC.below {c : Cell} {a : Addr} (h : RepC K H m c a) : Cell.below m.length c = true := by
  cases c with
  | lst ds => obtain ⟨vs, x, y⟩ := h; exact y.below
  | dic kvs => obtain ⟨vs, x, y⟩ := h; exact y.below
  | ins C fs => obtain ⟨dx, vs, x, z, n, y⟩ := h; exact y.below
theorem RepC.cut {c : Cell} {a : Addr} (h : RepC K H (m ++ e) c a) (b : Cell.below m.length c = true) : RepC K H m c a := by
  cases c with
  | lst ds => obtain ⟨vs, x, y⟩ := h; exact ⟨vs, x, y.cut b⟩
  | dic kvs => obtain ⟨vs, x, y⟩ := h; exact ⟨vs, x, y.cut b⟩
  | ins C fs => obtain ⟨dx, vs, x, z, n, y⟩ := h; exact ⟨dx, vs, x, z, fun w => n (List.mem_append_left _ w), y.cut b⟩
theorem RepSt.below {st : Store} (h : RepSt K H m st) : Store.below m.length st = true := by
  have key : ∀ (s : Store), (∀ (l : Nat) (c : Cell), s[l]? = some c → Cell.below m.length c = true) → Store.below m.length s = true := by
    intro s
    induction s with
    | nil => intro _; rfl
    | cons c s ih =>
      intro hh
      simp only [Store.below, Bool.and_eq_true]
      exact ⟨hh 0 c rfl, ih fun l c' q => hh (l + 1) c' (by simpa using q)⟩
  exact key st fun l c q => let ⟨a, _, r⟩ := h.cell l c q; r.below
theorem RepSt.cut {st : Store} (h : RepSt K H (m ++ e) st) (hn : n = m.length) (b : Store.below n (st.take n) = true) : RepSt K H m (st.take n) := by
  subst hn
  have hl := h.len
  refine ⟨fun b hb => let ⟨q, n⟩ := h.ban b hb; ⟨q, fun z => n (List.mem_append_left _ z)⟩, by simp at hl ⊢; omega, (List.nodup_append.mp h.nd).1, fun l c q => ?_⟩
  have hlt : l < m.length := by
    have := (List.getElem?_eq_some_iff.mp q).1
    simp at this; omega
  obtain ⟨a, h1, h2⟩ := h.cell l c (by rw [List.getElem?_take_of_lt hlt] at q; exact q)
  rw [List.getElem?_append_left hlt] at h1
  exact ⟨a, h1, h2.cut (Store.below_get b q)⟩
end
def start (N : Nat) (ds : List D) : DEnv := ds.map some ++ List.replicate (N - ds.length) none
def ofS (r : SRes) : Res D := match r with
  | .nx _ st => .ok .non st
  | .ret d st => .ok d st
  | .exc c fs _ st => .exc c fs st
  | _ => .fail
abbrev Fd := List D → Store → Res D
def runD (N : Nat) (body : Fs) : Fd := fun ds st => ofS (body (start N ds) st)
/-- what is handed out with places made within is fixed -/
def frz (n : Nat) (s : Store) (d : D) : Option D := if D.und n d then some d else match d with
  | .loc l => match s[l]? with
    | some (.lst ds) => if D.undL n ds then some (.lst ds) else none
    | _ => none
  | _ => none
/-- the places made within are forgotten -/
def pureR (n : Nat) (st : Store) (r : Res D) : Res D := match r with
  | .ok d s => if Store.beq (s.take n) st || Store.below n (s.take n) then
      match frz n s d with
      | some d' => .ok d' (s.take n)
      | none => .fail
    else .fail
  | .exc c none s => if Store.beq (s.take n) st || Store.below n (s.take n) then .exc c none (s.take n) else .fail
  | .exc c (some fs) s => if (Store.beq (s.take n) st || Store.below n (s.take n)) && belowP n fs then .exc c (some fs) (s.take n) else .fail
  | .fail => .fail
def runP (N : Nat) (body : Fs) : Fd := fun ds st => pureR st.length st (runD N body ds st)
def spD (K : PySem.W.Frag) (n : Nat) (F : Fd) : Sp := fun vs H Q E => ∃ (B : List Addr) (ds : List D) (st : Store) (m : List Addr), ds.length = n ∧ RepL ⟨K, B⟩ H m ds vs ∧ RepSt ⟨K, B⟩ H m st ∧ GoodR (Rep ⟨K, B⟩) (F ds st) Q E ⟨K, B⟩ H m
theorem pure_run {K : KB} {H : Hp} {m : List Addr} {st : Store} {r : Res D} {Q : VK} {E : WH} (rs : RepSt K H m st) (h : GoodR (Rep K) (pureR st.length st r) Q E K H m) : GoodR (Rep K) r Q E K H m := by
  have hb : ∀ {s : Store}, (Store.beq (s.take st.length) st || Store.below st.length (s.take st.length)) = true → Store.below st.length (s.take st.length) = true := fun {s} h => by
    rcases Bool.or_eq_true_iff.mp h with h | h
    · rw [Store.beq_eq _ _ h]; have := rs.below; rw [rs.len] at this; exact this
    · exact h
  cases r with
  | fail => exact h
  | ok d s =>
    intro v H1 m1 e1 r1 rs1
    unfold pureR at h
    simp only at h
    split at h
    · rename_i hc
      have hb := hb hc
      obtain ⟨⟨x, rfl⟩, k⟩ := e1
      have e0 : Evo H m H1 m := ⟨⟨[], by simp⟩, fun a o q n => ⟨(k a o q n).1, n⟩⟩
      have rc : RepSt K H1 m (s.take st.length) := RepSt.cut rs1 rs.len.symm hb
      cases hf : frz st.length s d with
      | none => rw [hf] at h; exact h.elim
      | some d' =>
        rw [hf] at h
        refine h v H1 m e0 ?_ rc
        unfold frz at hf
        rw [← rs.len] at hf
        split at hf
        · rename_i hd; cases hf; exact r1.cut hd
        · rename_i hd
          cases d with
          | loc l =>
            simp only at hf
            cases q : s[l]? with
            | none => rw [q] at hf; cases hf
            | some c =>
              rw [q] at hf
              cases c with
              | lst ds =>
                simp only at hf
                split at hf
                · rename_i hds
                  cases hf
                  obtain ⟨a, rfl, h1⟩ := Rep.loc_iff.mp r1
                  obtain ⟨b, h2, vs, h3, h4⟩ := rs1.cell l _ q
                  rw [h1] at h2; cases h2
                  refine Rep.lst_iff.mpr ⟨a, vs, rfl, ⟨h3, fun hm => ?_, fun hB => (rs1.ban a hB).2 (List.mem_of_getElem? h1)⟩, h4.cut hds⟩
                  have hl : m.length ≤ l := by simpa [D.und] using hd
                  obtain ⟨i, hi, e⟩ := List.mem_iff_getElem.mp hm
                  have hi' : (m ++ x)[i]? = some a := by rw [List.getElem?_append_left hi, List.getElem?_eq_getElem hi, e]
                  obtain ⟨i1, e1⟩ := List.getElem?_eq_some_iff.mp h1
                  obtain ⟨i2, e2⟩ := List.getElem?_eq_some_iff.mp hi'
                  have := (List.getElem_inj rs1.nd).mp (e1.trans e2.symm)
                  omega
                · cases hf
              | dic _ => cases hf
              | ins _ _ => cases hf
          | _ => cases hf
    · exact h.elim
  | exc c fs s =>
    intro dx H1 m1 e1 r1 rs1
    obtain ⟨⟨x, rfl⟩, k⟩ := e1
    have e0 : Evo H m H1 m := ⟨⟨[], by simp⟩, fun a o q n => ⟨(k a o q n).1, n⟩⟩
    cases fs with
    | none =>
      unfold pureR at h
      simp only at h
      split at h
      · rename_i hc
        exact h dx H1 m e0 r1 (RepSt.cut rs1 rs.len.symm (hb hc))
      · exact h.elim
    | some fs =>
      unfold pureR at h
      simp only at h
      split at h
      · rename_i hc
        rw [Bool.and_eq_true] at hc
        obtain ⟨a, vs, h1, h2, h3, h4⟩ := r1
        exact h dx H1 m e0 ⟨a, vs, h1, h2, fun z => h3 (List.mem_append_left _ z), h4.cut (by rw [rs.len]; exact hc.2)⟩ (RepSt.cut rs1 rs.len.symm (hb hc.1))
      · exact h.elim
end DL
namespace DL
open PySem PySem.Spec PyProof.Rows L2
/-- what a body has at hand -/
structure XOk (X : Cx) (W : WX) : Prop where
  calm : X.calm = true
  nd : X.N.Nodup
  tk : Takes X W
  gd : X.A.guards = some []
/-- a def's promise where no text is being made around it -/
structure FnG (P : Program) (w : World) (K : PySem.W.Frag) (mg : Str → Option Value) (base : Heap) (k : Nat) (f : Addr) (fd : FuncData) (ps : List Str) (sp : Sp) : Prop where
  len : ∀ vs H Q E, sp vs H Q E → vs.length = ps.length
  run : ∀ (A : Around) (ou : List Env) (s : Shared) (H : Hp) (ar : Args) (us : List Value) (vs : List V) (Q : VK) (E : XK), Room k A → A.guards = some [] → Env0 P w K mg base A ou s H → BindsTo s fd ar (ps.zip us) → Vals vs us → sp vs H Q E →
    codeAny (model P w) A (.call (.ref f) ar) (CR (L2.CX P w) ou P w H s Q E) s
theorem FnG.imp {P : Program} {w : World} {K : PySem.W.Frag} {mg : Str → Option Value} {base : Heap} {k : Nat} {f : Addr} {fd : FuncData} {ps : List Str} {sp sp' : Sp} (F : FnG P w K mg base k f fd ps sp)
    (h : ∀ vs H Q E, sp' vs H Q E → sp vs H Q E) : FnG P w K mg base k f fd ps sp' :=
  ⟨fun vs H Q E q => F.len vs H Q E (h vs H Q E q), fun A ou s H ar us vs Q E r g e b v q => F.run A ou s H ar us vs Q E r g e b v (h vs H Q E q)⟩
/-- a def's body, entered -/
theorem fnG_of {P : Program} {w : World} {K : PySem.W.Frag} {mg : Str → Option Value} {base : Heap} {x qual : Str} {st : Stmt} {f : Addr} {fd : FuncData} {N ps : List Str} {k : Nat} {sp : Sp} (F : FunD K x qual (defArgs st) (defBody st) (defScope st) [] [] f fd) (S : FnScope N ps (defScope st))
    (hlen : ∀ vs H Q E, sp vs H Q E → vs.length = ps.length)
    (hb : ∀ (cd : Value) (A : Around) (ou : List Env) (s : Shared) (H : Hp) (vs : List V) (Q : VK) (E : XK), Room k (A.deeper (envOfC qual (defScope st) s.heap.objs.size f cd)) → A.guards = some [] → sp vs H Q E →
      ∃ t, PSs (cxOf (L2.CX P w) P w K mg base N qual (defScope st) f cd A ou s H E) (defBody st) t ∧ t { nx := fun _ H' => Q .non H', rt := Q } (L2.start N vs) H) : FnG P w K mg base (k + 1) f fd ps sp := by
  obtain ⟨oc, od, dV, kV, doc, pm, an, cd, ct, osl, rfl, hk, hc, _, _⟩ := F.ex
  refine ⟨hlen, fun A ou s H ar us vs Q E room hg env b hv hsp => ?_⟩
  have inK : K.In s.heap := env.mod.kin.keeps fun c o q => (env.bs c o q).1
  have nolim : s.heap.NoLimit := env.mod.nolimit.keeps fun c o q => (env.bs c o q).1
  have names : ∀ y ∈ ps.zip us, (defScope st).names.lookup y.1 = some .local ∨ ((defScope st).names.lookup y.1 = some .cell ∧ ((cellsFrom (s.heap.objs.size + 1) (defScope st).names []).lookup y.1).isSome = true) := by
    rintro ⟨n, u⟩ hy
    exact (S.par n (List.of_mem_zip hy).1).imp id fun q => ⟨q, PySem.W.cellsFrom_some _ _ _ (.inl q)⟩
  refine codeAny_call_function room.depth (inK _ _ hk) rfl S.co S.gen rfl (PySem.W.codeRec_of inK hc) (b _ _ _ _ ?_)
  refine wpAny_newFunctionEnv_cells S.kind names fun en en_eq s' inn => ?_
  cases en_eq
  refine ⟨nolim.keeps inn.toInCall.keep, codeAny_func ?_⟩
  obtain ⟨t, pt, qt⟩ := hb cd A ou s H vs Q E (room.deeper _) hg hsp
  have inv : Inv (cxOf (L2.CX P w) P w K mg base N qual (defScope st) f cd A ou s H E) [] (L2.start N vs) H s' := inv_start S room.hd env (hlen vs H Q E hsp) hv inn
  have out : ∀ {τ : Sg} {H2 : Hp} {v : V} {u : Value} {s2 : Shared}, Inv (cxOf (L2.CX P w) P w K mg base N qual (defScope st) f cd A ou s H E) [] τ H2 s2 → RelV v u → Q v H2 → CE ou P w H s Q u s2 :=
    fun {τ H2 v u s2} J rel q => ⟨v, H2, J.os, J.bare, J.base, J.hok, rel, q⟩
  refine wpAny_mono (pt.run [] s' _ H _ inv qt) (fun fl s2 q => ?_) fun _ _ q => q
  match fl, q with
  | .next, ⟨τ, H2, J, q⟩ => exact out (v := .non) (u := .none) J rfl q
  | .ret u, ⟨v, τ, H2, J, rel, q⟩ => exact out J rel q
  | .brk, ⟨_, _, _, q⟩ => exact q.elim
  | .cont, ⟨_, _, _, q⟩ => exact q.elim
section
variable {X : Cx} {W : WX} {pos : Pos} {e : Expr} {f : Fe} {s : Stmt} {ss : List Stmt} {fs gs : Fs}
theorem RepE.set {K : KB} {H : Hp} {m : List Addr} {ρ : DEnv} {σ : Sg} {d : D} {v : V} (i : Nat) (h : RepE K H m ρ σ) (r : Rep K H m d v) : RepE K H m (ρ.set i (some d)) (σ.set i (some v)) where
  len := by simp [h.len]
  val := fun j d' q => by
    by_cases hj : i = j
    · subst hj
      have hl : i < ρ.length := by
        have := (List.getElem?_eq_some_iff.mp q).1
        simpa using this
      rw [List.getElem?_set_self hl] at q
      cases q
      exact ⟨v, by rw [List.getElem?_set_self (by rw [← h.len]; exact hl)], r⟩
    · rw [List.getElem?_set_ne hj] at q ⊢
      exact h.val j d' q
def sSet (i : Nat) (f : Fe) : Fs := fun ρ st => (f ρ st).thenS ρ fun d s1 => .nx (ρ.set i (some d)) s1
theorem ds_set {i : Nat} {x : Str} {pos' : Pos} (hx : XOk X W) (he : DE X W e f) (hi : X.N[i]? = some x := by rfl) (hl : Loc X.env.scope x := by first | exact Or.inl rfl | exact Or.inr rfl)
    (hs : swapsWith e (some (.Name x pos')) pos.line X.env = pure false := by rfl) (hf : X.fn x = true ∨ X.env.scope.names.lookup x = some .local := by first | exact .inl rfl | exact .inr rfl) : DS X W (.Assign [.Name x pos'] e pos) (sSet i f) := by
  obtain ⟨t, p, q⟩ := he
  refine ⟨_, ps_set hx.nd hi hl p hs hf, fun B σ H ρ st m En re rs h => ?_⟩
  refine q B σ H ρ st m _ re rs (good_thenS re h fun d s1 v H1 m1 e1 r1 rs1 h1 => ?_)
  exact h1 _ H1 m1 .refl ((re.evo e1).set i r1) rs1
def sDrop (f : Fe) : Fs := fun ρ st => (f ρ st).thenS ρ fun _ s1 => .nx ρ s1
theorem ds_expr (he : DE X W e f) (hs : swapsWith e none pos.line X.env = pure false := by rfl) : DS X W (.Expr e pos) (sDrop f) := by
  obtain ⟨t, p, q⟩ := he
  refine ⟨_, ps_expr p hs, fun B σ H ρ st m En re rs h => ?_⟩
  refine q B σ H ρ st m _ re rs (good_thenS re h fun d s1 v H1 m1 e1 r1 rs1 h1 => ?_)
  exact h1 σ H1 m1 .refl (re.evo e1) rs1
def sRet (f : Fe) : Fs := fun ρ st => (f ρ st).thenS ρ fun d s1 => .ret d s1
theorem ds_ret (he : DE X W e f) : DS X W (.Return (some e) pos) (sRet f) := by
  obtain ⟨t, p, q⟩ := he
  refine ⟨_, ps_ret p, fun B σ H ρ st m En re rs h => ?_⟩
  refine q B σ H ρ st m _ re rs (good_thenS re h fun d s1 v H1 m1 e1 r1 rs1 h1 => ?_)
  exact h1 v H1 m1 .refl r1 rs1
def sRetN : Fs := fun _ st => .ret .non st
theorem ds_retN : DS X W (.Return none pos) sRetN := ⟨_, ps_retN, fun B σ H ρ st m En re rs h => h .non H m .refl (Rep.non_iff.mpr rfl) rs⟩
def sPass : Fs := fun ρ st => .nx ρ st
theorem ds_pass : DS X W (.Pass pos) sPass := ⟨_, ps_pass, fun B σ H ρ st m En re rs h => h σ H m .refl re rs⟩
def sBrk : Fs := fun ρ st => .brk ρ st
theorem ds_brk : DS X W (.Break pos) sBrk := ⟨_, ps_break, fun B σ H ρ st m En re rs h => h σ H m .refl re rs⟩
def sCnt : Fs := fun ρ st => .cnt ρ st
theorem ds_cnt : DS X W (.Continue pos) sCnt := ⟨_, ps_continue, fun B σ H ρ st m En re rs h => h σ H m .refl re rs⟩
def sNever : Fs := fun _ _ => .fail
theorem ds_never : DS X W s sNever := ⟨_, ps_never, fun B σ H ρ st m En re rs h => h⟩
theorem db_nil : DB X W [] sPass := ⟨_, pss_nil, fun B σ H ρ st m En re rs h => h σ H m .refl re rs⟩
theorem db_one (h : DS X W s fs) : DB X W [s] fs := let ⟨⟨t, p, q⟩⟩ := h; ⟨t, pss_one p, q⟩
def sSeq (f g : Fs) : Fs := fun ρ st => (f ρ st).seq g
theorem db_cons (h1 : DS X W s fs) (h2 : DB X W ss gs) : DB X W (s :: ss) (sSeq fs gs) := by
  obtain ⟨t, p, q⟩ := h1
  obtain ⟨u, p', q'⟩ := h2
  refine ⟨_, pss_cons p p', fun B σ H ρ st m En re rs h => ?_⟩
  refine q B σ H ρ st m _ re rs ?_
  unfold sSeq at h
  cases er : fs ρ st with
  | nx ρ1 s1 =>
    rw [er] at h
    exact fun σ' H' m' e1 re1 rs1 => q' B σ' H' ρ1 s1 m' En re1 rs1 (GoodS.evo (r := gs ρ1 s1) h e1)
  | ret d s1 => rw [er] at h; exact h
  | brk ρ1 s1 => rw [er] at h; exact h
  | cnt ρ1 s1 => rw [er] at h; exact h
  | exc c fs ρ1 s1 => rw [er] at h; exact h
  | fail => rw [er] at h; exact h
def sIf (c : Ft) (f g : Fs) : Fs := fun ρ st => (c ρ st).thenS ρ fun b s1 => if b = true then f ρ s1 else g ρ s1
theorem ds_if {c : Expr} {ft : Ft} {a b : List Stmt} (hc : DT X W c ft) (ha : DB X W a fs) (hb : DB X W b gs) : DS X W (.If c a b pos) (sIf ft fs gs) := by
  obtain ⟨tc, pc, qc⟩ := hc
  obtain ⟨ta, pa, qa⟩ := ha
  obtain ⟨tb, pb, qb⟩ := hb
  refine ⟨_, ps_if pc pa pb, fun B σ H ρ st m En re rs h => ?_⟩
  refine qc B σ H ρ st m _ re rs (good_thenS re h fun d s1 x H1 m1 e1 r1 rs1 h1 => ?_)
  cases (show x = d from r1)
  cases d with
  | true => rw [if_pos rfl] at h1 ⊢; exact qa B σ H1 ρ s1 m1 En (re.evo e1) rs1 h1
  | false => rw [if_neg Bool.false_ne_true] at h1 ⊢; exact qb B σ H1 ρ s1 m1 En (re.evo e1) rs1 h1
abbrev Fg := D → DEnv → Option DEnv
abbrev Fgs := List D → DEnv → Option DEnv
theorem wipe_set {σ : Sg} {i : Nat} {x : Option V} : ∀ {vs : List Nat}, i ∈ vs → wipe (σ.set i x) vs = wipe σ vs
  | v :: vs, h => by
    unfold wipe
    by_cases hv : i ∈ vs
    · rw [wipe_set hv]
    · have e : i = v := by
        rcases List.mem_cons.mp h with h | h
        · exact h
        · exact absurd h hv
      subst e
      have key : ∀ (us : List Nat), i ∉ us → wipe (σ.set i x) us = (wipe σ us).set i x := by
        intro us
        induction us with
        | nil => intro _; rfl
        | cons u us ih =>
          intro hn
          simp only [List.mem_cons, not_or] at hn
          unfold wipe
          rw [ih hn.2, List.set_comm _ _ hn.1]
      rw [key vs hv, List.set_set]
structure DG (X : Cx) (tg : Expr) (is : List Nat) (g : Fg) : Prop where
  ex : ∃ t : TG, PG X tg t ∧ ∀ (B : List Addr) (v : V) (σ : Sg) (H : Hp) (ρ ρ' : DEnv) (m : List Addr) (d : D) (Q : Sg → Hp → Prop), RepE ⟨X.K, B⟩ H m ρ σ → Rep ⟨X.K, B⟩ H m d v → g d ρ = some ρ' →
    (∀ σ', RepE ⟨X.K, B⟩ H m ρ' σ' → (∀ vs, (∀ i ∈ is, i ∈ vs) → wipe σ' vs = wipe σ vs) → Q σ' H) → t v σ H Q
structure DGs (X : Cx) (tgs : List Expr) (is : List Nat) (g : Fgs) : Prop where
  ex : ∃ t : TGs, PGs X tgs t ∧ ∀ (B : List Addr) (vs : List V) (σ : Sg) (H : Hp) (ρ ρ' : DEnv) (m : List Addr) (ds : List D) (Q : Sg → Hp → Prop), RepE ⟨X.K, B⟩ H m ρ σ → RepL ⟨X.K, B⟩ H m ds vs → g ds ρ = some ρ' →
    (∀ σ', RepE ⟨X.K, B⟩ H m ρ' σ' → (∀ us, (∀ i ∈ is, i ∈ us) → wipe σ' us = wipe σ us) → Q σ' H) → t vs σ H Q
def gN (i : Nat) : Fg := fun d ρ => some (ρ.set i (some d))
theorem dg_name {i : Nat} {x : Str} (hN : X.N.Nodup) (hi : X.N[i]? = some x := by rfl) (hl : Loc X.env.scope x := by first | exact Or.inl rfl | exact Or.inr rfl)
    (hf : X.fn x = true ∨ X.env.scope.names.lookup x = some .local := by first | exact .inl rfl | exact .inr rfl) : DG X (.Name x pos) [i] (gN i) := by
  refine ⟨_, pg_name hN hi hl hf, fun B v σ H ρ ρ' m d Q re r h q => ?_⟩
  cases h
  exact q _ (re.set i r) fun vs hv => wipe_set (hv i (by simp))
def gsNil : Fgs := fun ds ρ => match ds with
  | [] => some ρ
  | _ => none
def gsCons (g : Fg) (gs : Fgs) : Fgs := fun ds ρ => match ds with
  | d :: r => (g d ρ).bind fun ρ1 => gs r ρ1
  | [] => none
theorem dgs_nil : DGs X [] [] gsNil := by
  refine ⟨_, pgs_nil, fun B vs σ H ρ ρ' m ds Q re r h q => ?_⟩
  cases ds with
  | nil =>
    cases h
    exact ⟨r.inv_nil, q σ re fun _ _ => rfl⟩
  | cons _ _ => cases h
theorem dgs_cons {tg : Expr} {tgs : List Expr} {is js : List Nat} {g : Fg} {gs : Fgs} (h1 : DG X tg is g) (h2 : DGs X tgs js gs)
    (hs : (assignEach (tg :: tgs) X.env).map (·.2) = assign tg X.env :: (assignEach tgs X.env).map (·.2) := by rfl) : DGs X (tg :: tgs) (is ++ js) (gsCons g gs) := by
  obtain ⟨t, p, q⟩ := h1
  obtain ⟨t', p', q'⟩ := h2
  refine ⟨_, pgs_cons p p' hs, fun B vs σ H ρ ρ' m ds Q re r h k => ?_⟩
  cases ds with
  | nil => cases h
  | cons d ds =>
    obtain ⟨v, vr, rfl, r1, r2⟩ := r.inv_cons
    obtain ⟨ρ1, e1, e2⟩ := Option.bind_eq_some_iff.mp h
    refine ⟨v, vr, rfl, q B v σ H ρ ρ1 m d _ re r1 e1 fun σ1 re1 w1 => ?_⟩
    refine q' B vr σ1 H ρ1 ρ' m ds _ re1 r2 e2 fun σ2 re2 w2 => k σ2 re2 fun us hu => ?_
    rw [w2 us fun i hi => hu i (List.mem_append_right _ hi), w1 us fun i hi => hu i (List.mem_append_left _ hi)]
def gT (n : Nat) (gs : Fgs) : Fg := fun d ρ => match d with
  | .tup ds => if ds.length = n then gs ds ρ else none
  | _ => none
theorem dg_tup {es : List Expr} {k n : Nat} {is : List Nat} {gs : Fgs} (hc : X.calm = true) (h : DGs X es is gs) (hn : (assignEach es X.env).length = n := by rfl) (hst : (assignEach es X.env).findIdx? (·.1) = none := by rfl) : DG X (.Tuple es k pos) is (gT n gs) := by
  obtain ⟨t, p, q⟩ := h
  refine ⟨_, pg_tup hc p hn hst, fun B v σ H ρ ρ' m d Q re r h k => ?_⟩
  cases d with
  | tup ds =>
    simp only [gT] at h
    split at h
    · rename_i hl
      obtain ⟨a, vs, rfl, hq, r2⟩ := r.tup_sq
      exact ⟨a, vs, rfl, hq, by rw [← r2.length]; exact hl, q B vs σ H ρ ρ' m ds _ re r2 h k⟩
    · cases h
  | _ => cases h
def sAsg (f : Fe) (g : Fg) : Fs := fun ρ st => (f ρ st).thenS ρ fun d s1 => match g d ρ with
  | some ρ' => .nx ρ' s1
  | none => .fail
theorem ds_asg {tg : Expr} {is : List Nat} {g : Fg} (he : DE X W e f) (hg : DG X tg is g) (hs : swapsWithSole [tg] e pos.line X.env = pure false := by rfl) (hw : swappedStores [tg] e X.env = pure none := by rfl)
    (h1 : (assignEach [tg] X.env).map (·.2) = [assign tg X.env] := by rfl) : DS X W (.Assign [tg] e pos) (sAsg f g) := by
  obtain ⟨t, p, q⟩ := he
  obtain ⟨t', p', q'⟩ := hg
  refine ⟨_, ps_asg p p' hs hw h1, fun B σ H ρ st m En re rs h => ?_⟩
  refine q B σ H ρ st m _ re rs (good_thenS re h fun d s1 v H1 m1 e1 r1 rs1 h1 => ?_)
  cases hd : g d ρ with
  | none => rw [hd] at h1; exact h1.elim
  | some ρ' =>
    rw [hd] at h1
    exact q' B v σ H1 ρ ρ' m1 d _ (re.evo e1) r1 hd fun σ' re' _ => h1 σ' H1 m1 .refl re' rs1
/-- a, b = x, y -/
def sPar (i j : Nat) (fa : Fa) : Fs := fun ρ st => (fa ρ st).thenS ρ fun ds s1 => match ds with
  | [a, b] => .nx ((ρ.set i (some a)).set j (some b)) s1
  | _ => .fail
theorem ds_par {i j : Nat} {x y : Str} {a b : Expr} {fa : Fa} {px py pt : Pos} {kt k2 pt2} (hx : XOk X W) (ha : DA X W [a, b] fa) (hi : X.N[i]? = some x := by rfl) (hj : X.N[j]? = some y := by rfl) (hij : i ≠ j := by decide)
    (h1 : X.env.scope.names.lookup x = some .local := by rfl) (h2 : X.env.scope.names.lookup y = some .local := by rfl)
    (hw : swappedStores [.Tuple [.Name x px, .Name y py] kt pt] (.Tuple [a, b] k2 pt2) X.env = pure (some [x, y]) := by rfl)
    (hs : swapsWithSole [.Tuple [.Name x px, .Name y py] kt pt] (.Tuple [a, b] k2 pt2) pos.line X.env = pure false := by rfl) : DS X W (.Assign [.Tuple [.Name x px, .Name y py] kt pt] (.Tuple [a, b] k2 pt2) pos) (sPar i j fa) := by
  obtain ⟨⟨t, p, q⟩, _⟩ := ha
  refine ⟨_, ps_par hx.calm hx.nd hi hj hij h1 h2 p hw hs, fun B σ H ρ st m En re rs h => ?_⟩
  refine q B σ H ρ st m _ re rs (good_thenS re h fun ds s1 vs H1 m1 e1 r1 rs1 h1 => ?_)
  match ds, h1, r1 with
  | [a, b], h1, r1 =>
    obtain ⟨v, r, rfl, ra, r1⟩ := r1.inv_cons
    obtain ⟨w, r, rfl, rb, r1⟩ := r1.inv_cons
    cases r1.inv_nil
    exact ⟨v, w, rfl, h1 _ H1 m1 .refl (((re.evo e1).set i ra).set j rb) rs1⟩
  | [], h1, _ => exact h1.elim
  | [_], h1, _ => exact h1.elim
  | _ :: _ :: _ :: _, h1, _ => exact h1.elim
/-- o[i] = e -/
def putL (st : Store) (o k d : D) : Option Store := match o, k with
  | .loc l, .int i => match st[l]? with
    | some (.lst ds) => (ixN ds.length i).map fun j => st.set l (.lst (ds.set j d))
    | _ => none
  | _, _ => none
def sPut (fo fi fe : Fe) : Fs := fun ρ st => (fe ρ st).thenS ρ fun d s1 => (fo ρ s1).thenS ρ fun o s2 => (fi ρ s2).thenS ρ fun k s3 => match putL s3 o k d with
  | some s4 => .nx ρ s4
  | none => .fail
theorem loc_lst {K : KB} {H : Hp} {m : List Addr} {st : Store} {l : Nat} {v : V} {ds : List D} (rs : RepSt K H m st) (r : Rep K H m (.loc l) v) (q : st[l]? = some (.lst ds)) : ∃ a vs, v = .ref a ∧ m[l]? = some a ∧ H a = some (.lst vs) ∧ RepL K H m ds vs := by
  obtain ⟨a, rfl, h1⟩ := Rep.loc_iff.mp r
  obtain ⟨b, h2, vs, h3, h4⟩ := rs.cell l _ q
  rw [h1] at h2; cases h2
  exact ⟨a, vs, rfl, h1, h3, h4⟩
theorem ds_put {o i : Expr} {fo fi : Fe} {tp : Pos} (ho : DE X W o fo) (hi : DE X W i fi) (he : DE X W e f)
    (hs : swapsWithSole [.Subscript o i tp] e pos.line X.env = pure false := by rfl) (hw : swappedStores [.Subscript o i tp] e X.env = pure none := by rfl)
    (h1 : (assignEach [.Subscript o i tp] X.env).map (·.2) = [assign (.Subscript o i tp) X.env] := by rfl)
    (ha : ∀ v, assign (.Subscript o i tp) X.env v = (do
      let ov ← holding [v] (eval o X.env)
      let iv ← holding [v, ov] (eval i X.env)
      standAt tp
      holding [v, ov, iv] (setItem ov iv v)
      release [v, ov, iv] []) := by intro _; rfl) : DS X W (.Assign [.Subscript o i tp] e pos) (sPut fo fi f) := by
  obtain ⟨to, po, qo⟩ := ho
  obtain ⟨ti, pi, qi⟩ := hi
  obtain ⟨t, p, q⟩ := he
  refine ⟨_, ps_asg p (pg_sub po pi set_list ha) hs hw h1, fun B σ H ρ st m En re rs h => ?_⟩
  refine q B σ H ρ st m _ re rs (good_thenS re h fun d s1 v H1 m1 e1 r1 rs1 h1 => ?_)
  refine qo B σ H1 ρ s1 m1 _ (re.evo e1) rs1 (good_thenS (re.evo e1) h1 fun od s2 ov H2 m2 e2 r2 rs2 h2 => ?_)
  refine qi B σ H2 ρ s2 m2 _ (re.evo (e1.trans e2)) rs2 (good_thenS (re.evo (e1.trans e2)) h2 fun kd s3 kv H3 m3 e3 r3 rs3 h3 => ?_)
  cases hp : putL s3 od kd d with
  | none => rw [hp] at h3; exact h3.elim
  | some s4 =>
    rw [hp] at h3
    cases od with
    | loc l =>
      cases kd with
      | int k =>
        cases Rep.int_iff.mp r3
        simp only [putL] at hp
        cases hq : s3[l]? with
        | none => rw [hq] at hp; cases hp
        | some c =>
          rw [hq] at hp
          cases c with
          | lst ds =>
            obtain ⟨j, hj, rfl⟩ := Option.map_eq_some_iff.mp hp
            obtain ⟨a, vs, rfl, hm, hH, rl⟩ := loc_lst rs3 (Rep.evo e3 _ _ r2) hq
            refine ⟨a, vs, k, j, rfl, rfl, hH, by rw [← rl.length]; exact hj, ?_⟩
            have e4 : Evo H3 m3 (upd H3 a (.lst (vs.set j v))) m3 := .write hm
            refine h3 σ _ m3 e4 ((re.evo (e1.trans (e2.trans e3))).evo e4) (rs3.write hm (fun y z => by rw [hH] at z; cases z) ⟨_, upd_same, ?_⟩)
            exact RepL.evo e4 _ _ (rl.set j (Rep.evo (e2.trans e3) _ _ r1))
          | dic _ => cases hp
          | ins _ _ => cases hp
      | _ => simp [putL] at hp
    | _ => simp [putL] at hp
/-- x.append(e) -/
def xApp (fo fe : Fe) : Fe := fun ρ st => (fo ρ st).bind fun o s1 => match o with
  | .loc l => match s1[l]? with
    | some (.lst _) => (fe ρ s1).bind fun d s2 => match s2[l]? with
      | some (.lst ds) => if ds.length < sizeLine then .ok .non (s2.set l (.lst (ds ++ [d]))) else .fail
      | _ => .fail
    | _ => .fail
  | _ => .fail
theorem de_app {o : Expr} {fo : Fe} {apos cpos : Pos} (ho : DE X W o fo) (he : DE X W e f)
    (hbase : attributeBase o "append" X.env (eval o X.env) = eval o X.env := by rfl)
    (hfew : ((backTo cpos (starEach [e] X.env)).all (fun x => !x.1) && (backToKw cpos (keywordEach [] X.env)).all (fun x => x.1.isSome)
      && decide ([e].length + ([] : List Keyword).length + (if ([] : List Keyword).isEmpty then 0 else 1) < 30)) = true := by rfl)
    (hline : (apos.endLine == cpos.line) = true := by rfl) (hs : starEach [e] X.env = (false, eval e X.env) :: starEach [] X.env := by rfl) (hplain : (backTo cpos (starEach [] X.env)).any (·.1) = false := by rfl) :
    DE X W (.Call (.Attribute o "append" apos) [e] [] cpos) (xApp fo f) := by
  obtain ⟨to, po, qo⟩ := ho
  obtain ⟨t, p, q⟩ := he
  refine ⟨_, pe_bm PySem.F.plainAttrs_list PySem.F.slot_list_append PySem.F.type_list_append mt_append po (pa_cons p pa_nil hs) hbase hfew hline hs hplain, fun B σ H ρ st m Q re rs h => ?_⟩
  refine qo B σ H ρ st m _ re rs (good_bind h fun od s1 ov H1 m1 e1 r1 rs1 h1 => ?_)
  cases od with
  | loc l =>
    simp only at h1
    cases hq : s1[l]? with
    | none => rw [hq] at h1; exact h1.elim
    | some c =>
      rw [hq] at h1
      cases c with
      | lst ds =>
        simp only at h1
        obtain ⟨a, vs, rfl, hm, hH, rl⟩ := loc_lst rs1 r1 hq
        refine ⟨.inl ⟨rfl, vs, .of hH⟩, ?_⟩
        refine q B σ H1 ρ s1 m1 _ (re.evo e1) rs1 (good_bind h1 fun d s2 v H2 m2 e2 r2 rs2 h2 => ?_)
        cases hq2 : s2[l]? with
        | none => rw [hq2] at h2; exact h2.elim
        | some c2 =>
          rw [hq2] at h2
          cases c2 with
          | lst ds2 =>
            simp only at h2
            split at h2
            · rename_i hz
              obtain ⟨a', vs2, ea, hm2, hH2, rl2⟩ := loc_lst rs2 (Rep.evo e2 _ _ r1) hq2
              cases ea
              refine ⟨a, vs2, v, rfl, rfl, hH2, by rw [← rl2.length]; exact hz, ?_⟩
              have e4 : Evo H2 m2 (upd H2 a (.lst (vs2 ++ [v]))) m2 := .write hm2
              exact h2 .non _ m2 e4 (Rep.non_iff.mpr rfl) (rs2.write hm2 (fun y z => by rw [hH2] at z; cases z) ⟨_, upd_same, RepL.evo e4 _ _ (rl2.append (.cons r2 .nil))⟩)
            · exact h2.elim
          | dic _ => exact h2.elim
          | ins _ _ => exact h2.elim
      | dic _ => exact h1.elim
      | ins _ _ => exact h1.elim
  | _ => exact h1.elim
def xApply (F : Fd) (fa : Fa) : Fe := fun ρ st => (fa ρ st).bind fun ds s1 => F ds s1
/-- the def runs -/
theorem runG {k : Nat} {g : Addr} {fd : FuncData} {ps : List Str} {sp : Sp} {pins : List (Addr × Obj)} {σ : Sg} {H : Hp} {s : Shared} {Q : VK} {us : List Value} {vs : List V} (G : FnG X.prog X.w X.K X.mg X.base k g fd ps sp) (room : Room k X.A) (hx : XOk X W) (hb : Binds X.K fd ps [])
    (I : Inv X pins σ H s) (r : Vals vs us) (h : sp vs H Q fun c d H' => W c d σ H') : wpAny (model X.prog X.w) X.A (call (.ref g) us) (EP X pins σ Q) X.xe s := by
  have hn : us.length = ps.length := by rw [← r.length]; exact G.len _ _ _ _ h
  have hb := hb s us I.kIn (by rw [List.append_nil]; exact hn)
  rw [List.append_nil] at hb
  refine wpAny_call (codeAny_mono (G.run X.A X.stack s H ⟨us, []⟩ us vs Q _ room hx.gd I.env0 hb r h) fun res s' q => ?_)
  match res, q with
  | .error e, q => exact passAt hx.tk σ pins H s e s' I q
  | .ok (.ret u), q => exact I.after q
  | .ok .next, q => exact q.elim
  | .ok .brk, q => exact q.elim
  | .ok .cont, q => exact q.elim
theorem de_call {k : Nat} {g : Addr} {fd : FuncData} {ps : List Str} {n : Nat} {F : Fd} {x : Str} {p : Pos} {es : List Expr} {fa : Fa} (G : FnG X.prog X.w X.K X.mg X.base k g fd ps (spD X.K n F)) (hr : Room k X.A) (hx : XOk X W) (hm : X.mg x = some (.ref g)) (hk : PySem.W.keepIn X.K (.ref g) = true)
    (hb : Binds X.K fd ps []) (ha : DA X W (e :: es) fa) (hg : Gl X x := by rfl) (hn : (e :: es).length = n := by rfl) (hdb : (x == ("__debug__" : Str)) = false := by decide)
    (he : starEach (e :: es) X.env = (false, eval e X.env) :: starEach es X.env := by rfl) (hpl : (backTo pos (starEach es X.env)).any (·.1) = false := by rfl) : DE X W (.Call (.Name x p) (e :: es) [] pos) (xApply F fa) := by
  obtain ⟨⟨t, pt, q⟩, hl⟩ := ha
  refine ⟨fun σ H Q => t σ H fun vs H1 => spD X.K n F vs H1 Q fun c d H' => W c d σ H', ⟨fun pins s σ H Q I h => ?_⟩, fun B σ H ρ st m Q re rs h => ?_⟩
  · refine wpAny_Call_Name_kw (ld_glob I hg hm ?_ hdb)
    refine PySem.W.callWith_K (h₀ := X.base) I.ok.mod.kin hk (thn (pt.run pos pins s σ H _ I h) fun us s1 ⟨vs, H1, I1, r, q⟩ => ⟨I1.kIn, ?_⟩) he hpl
    exact runG G hr hx hb I1 r q
  · unfold xApply at h
    cases er : fa ρ st with
    | fail => rw [er] at h; exact h.elim
    | exc c f s => exact q B σ H ρ st m _ re rs (by rw [er] at h ⊢; exact h)
    | ok ds s1 =>
      refine q B σ H ρ st m _ re rs ?_
      rw [er] at h ⊢
      intro vs H1 m1 e1 r1 rs1
      exact ⟨B, ds, s1, m1, by rw [hl _ _ _ _ er]; exact hn, r1, rs1, GoodR.evo (r := F ds s1) h e1⟩
end
/-- a def by its body -/
theorem fn_D {P : Program} {w : World} {K : PySem.W.Frag} {mg : Str → Option Value} {base : Heap} {x qual : Str} {st : Stmt} {f : Addr} {fd : FuncData} {N ps : List Str} {k : Nat} {body : Fs} (F : FunD K x qual (defArgs st) (defBody st) (defScope st) [] [] f fd) (S : FnScope N ps (defScope st))
    (hbody : ∀ (cdv : Value) (A : Around) (outer : List Env) (s : Shared) (H : Hp) (E : XK), Room k (A.deeper (envOfC qual (defScope st) s.heap.objs.size f cdv)) →
      XOk (cxOf (L2.CX P w) P w K mg base N qual (defScope st) f cdv A outer s H E) (fun c d _ H' => E c d H') →
      DB (cxOf (L2.CX P w) P w K mg base N qual (defScope st) f cdv A outer s H E) (fun c d _ H' => E c d H') (defBody st) body) :
    FnG P w K mg base (k + 1) f fd ps (spD K ps.length (runD N.length body)) := by
  refine fnG_of F S (fun vs H Q E h => ?_) (fun cdv A outer s H vs Q E hr hgd h => ?_)
  · obtain ⟨B, ds, st, m, h1, h2, _⟩ := h
    rw [← h2.length, h1]
  · obtain ⟨B, ds, s0, m, hl, rl, rs, h⟩ := h
    obtain ⟨t, p, q⟩ := hbody cdv A outer s H E hr ⟨rfl, S.nd, takes_of rfl rfl rfl rfl, hgd⟩
    refine ⟨t, p, ?_⟩
    have re : RepE ⟨K, B⟩ H m (start N.length ds) (L2.start N vs) := by
      refine ⟨by unfold start L2.start; simp [rl.length], fun i d hi => ?_⟩
      have hlt : i < ds.length := by
        unfold start at hi
        by_cases hlt : i < ds.length
        · exact hlt
        · rw [List.getElem?_append_right (by simpa using hlt), List.getElem?_replicate] at hi
          split at hi <;> cases hi
      unfold start at hi
      rw [List.getElem?_append_left (by simpa using hlt), List.getElem?_map] at hi
      have hi' : ds[i]? = some d := by
        cases e : ds[i]? with
        | none => rw [e] at hi; cases hi
        | some a => rw [e] at hi; cases hi; rfl
      obtain ⟨v, h1, h2⟩ := rl.get hi'
      refine ⟨v, ?_, h2⟩
      unfold L2.start
      rw [List.getElem?_append_left (by rw [List.length_map, ← rl.length]; exact hlt), List.getElem?_map, h1]
      rfl
    refine q B _ H (start N.length ds) s0 m _ re rs ?_
    have h : GoodR (Rep ⟨K, B⟩) (ofS (body (start N.length ds) s0)) Q E ⟨K, B⟩ H m := h
    cases er : body (start N.length ds) s0 with
    | nx ρ s1 => rw [er] at h; exact fun σ' H' m' e1 re1 rs1 => h .non H' m' e1 (Rep.non_iff.mpr rfl) rs1
    | ret d s1 => rw [er] at h; exact h
    | brk ρ s1 => rw [er] at h; exact h.elim
    | cnt ρ s1 => rw [er] at h; exact h.elim
    | exc c fs ρ s1 => rw [er] at h; exact fun σ' dx H' m' e1 re1 rx rs1 => h dx H' m' e1 rx rs1
    | fail => rw [er] at h; exact h.elim
/-- .. whose places are its own -/
theorem fn_P {P : Program} {w : World} {K : PySem.W.Frag} {mg : Str → Option Value} {base : Heap} {k : Nat} {f : Addr} {fd : FuncData} {ps : List Str} {n N : Nat} {body : Fs} (F : FnG P w K mg base k f fd ps (spD K n (runD N body))) :
    FnG P w K mg base k f fd ps (spD K n (runP N body)) := F.imp fun vs H Q E ⟨B, ds, st, m, h1, h2, h3, h4⟩ => ⟨B, ds, st, m, h1, h2, h3, pure_run h3 h4⟩
end DL
namespace DL
open PySem PySem.Spec PyProof.Rows L2
def sameAt (ws : List Nat) (s t : Store) : Bool := ws.all fun l => match s[l]?, t[l]? with
  | some a, some b => Cell.beq a b
  | _, _ => false
@[simp] theorem sameAt_nil (s t : Store) : sameAt [] s t = true := rfl
theorem sameAt_get {ws : List Nat} {s t : Store} (h : sameAt ws s t = true) {l : Nat} (hl : l ∈ ws) : ∃ c, s[l]? = some c ∧ t[l]? = some c := by
  have := List.all_eq_true.mp h l hl
  cases e1 : s[l]? with
  | none => rw [e1] at this; simp at this
  | some a =>
    cases e2 : t[l]? with
    | none => rw [e1, e2] at this; simp at this
    | some b =>
      rw [e1, e2] at this
      exact ⟨a, rfl, by rw [Cell.beq_eq a b this]⟩
/-- what an iterator gives, whatever is done between, if the places watched stay -/
structure ItRep (K : PySem.W.Frag) (B : List Addr) (J : It) (items : List D) (ws : List Nat) (s1 : Store) (H1 : Hp) (m1 : List Addr) : Prop where
  goes : ∀ (B' : List Addr) (i : Nat) (H : Hp) (m : List Addr) (st : Store), (∀ b ∈ B', b ∈ B ∨ H1 b = none) → i < items.length → Evo H1 m1 H m → RepSt ⟨K, B'⟩ H m st → sameAt ws s1 st = true → J.go i H
  stops : ∀ (B' : List Addr) (H : Hp) (m : List Addr) (st : Store), (∀ b ∈ B', b ∈ B ∨ H1 b = none) → Evo H1 m1 H m → RepSt ⟨K, B'⟩ H m st → sameAt ws s1 st = true → J.stop items.length H
  yields : ∀ (B' : List Addr) (i : Nat) (d : D) (H : Hp) (m : List Addr) (st : Store) (x : V) (H' : Hp), (∀ b ∈ B', b ∈ B ∨ H1 b = none) → items[i]? = some d → Evo H1 m1 H m → RepSt ⟨K, B'⟩ H m st → sameAt ws s1 st = true → J.yld i H x H' →
    Grow H H' ∧ Rep ⟨K, B'⟩ H' m d x
section
variable {K : PySem.W.Frag} {B B' : List Addr} {H : Hp} {m : List Addr}
mutual
theorem Rep.ban (hb : ∀ b ∈ B', b ∈ B ∨ H b = none) : ∀ {d : D} {v : V}, Rep ⟨K, B⟩ H m d v → Rep ⟨K, B'⟩ H m d v
  | .tup ds, _, h => by
    obtain ⟨a, vs, rfl, h1, h2⟩ := Rep.tup_iff.mp h
    refine Rep.tup_iff.mpr ⟨a, vs, rfl, ?_, RepL.ban hb h2⟩
    rcases h1 with ⟨h1, n, nb⟩ | h1
    · refine .inl ⟨h1, n, fun z => ?_⟩
      rcases hb a z with q | q
      · exact nb q
      · rcases h1 with h1 | ⟨o, h1⟩
        · rw [q] at h1; cases h1
        · rw [q] at h1; cases h1
    · exact .inr h1
  | .lst ds, _, h => by
    obtain ⟨a, vs, rfl, ⟨h1, n, nb⟩, h2⟩ := Rep.lst_iff.mp h
    refine Rep.lst_iff.mpr ⟨a, vs, rfl, ⟨h1, n, fun z => ?_⟩, RepL.ban hb h2⟩
    rcases hb a z with q | q
    · exact nb q
    · rw [q] at h1; cases h1
  | .rol ds, _, h => by
    obtain ⟨a, vs, rfl, h1, h2⟩ := Rep.rol_iff.mp h
    refine Rep.rol_iff.mpr ⟨a, vs, rfl, ?_, RepL.ban hb h2⟩
    rcases h1 with ⟨⟨o, h1⟩, n, nb⟩ | h1
    · refine .inl ⟨⟨o, h1⟩, n, fun z => ?_⟩
      rcases hb a z with q | q
      · exact nb q
      · rw [q] at h1; cases h1
    · exact .inr h1
  | .loc l, _, h => by unfold Rep at h ⊢; exact h
  | .non, _, h => by unfold Rep at h ⊢; exact h
  | .bl _, _, h => by unfold Rep at h ⊢; exact h
  | .int _, _, h => by unfold Rep at h ⊢; exact h
  | .str _, _, h => by unfold Rep at h ⊢; exact h
  | .ty _, _, h => by unfold Rep at h ⊢; exact h
  | .ob _, _, h => by unfold Rep at h ⊢; exact h
theorem RepL.ban (hb : ∀ b ∈ B', b ∈ B ∨ H b = none) : ∀ {ds : List D} {vs : List V}, RepL ⟨K, B⟩ H m ds vs → RepL ⟨K, B'⟩ H m ds vs
  | [], _, h => by unfold RepL at h ⊢; exact h
  | d :: ds, _, h => by
    obtain ⟨v, r, rfl, h1, h2⟩ := h.inv_cons
    exact .cons (Rep.ban hb h1) (RepL.ban hb h2)
end
theorem RepP.ban {κ : Type} (hb : ∀ b ∈ B', b ∈ B ∨ H b = none) : ∀ {ds : List (κ × D)} {vs : List (κ × V)}, RepP ⟨K, B⟩ H m ds vs → RepP ⟨K, B'⟩ H m ds vs
  | [], _, h => h
  | (k, d) :: ds, _, ⟨v, r, q, h1, h2⟩ => ⟨v, r, q, Rep.ban hb h1, RepP.ban hb h2⟩
theorem RepC.ban {c : Cell} {a : Addr} (hb : ∀ b ∈ B', b ∈ B ∨ H b = none) (h : RepC ⟨K, B⟩ H m c a) : RepC ⟨K, B'⟩ H m c a := by
  cases c with
  | lst ds => obtain ⟨vs, x, y⟩ := h; exact ⟨vs, x, y.ban hb⟩
  | dic kvs => obtain ⟨vs, x, y⟩ := h; exact ⟨vs, x, y.ban hb⟩
  | ins C fs => obtain ⟨dx, vs, x, z, n, y⟩ := h; exact ⟨dx, vs, x, z, n, y.ban hb⟩
theorem RepE.ban {ρ : DEnv} {σ : Sg} (hb : ∀ b ∈ B', b ∈ B ∨ H b = none) (h : RepE ⟨K, B⟩ H m ρ σ) : RepE ⟨K, B'⟩ H m ρ σ := ⟨h.len, fun i d q => let ⟨v, h1, h2⟩ := h.val i d q; ⟨v, h1, h2.ban hb⟩⟩
end
abbrev Fi := DEnv → Store → Res (List D × List Nat)
def GoodI (r : Res (List D × List Nat)) (R : It → Hp → Prop) (W : WH) (K : PySem.W.Frag) (B : List Addr) (H : Hp) (m : List Addr) : Prop := match r with
  | .ok p s1 => ∀ J H1 m1, Evo H m H1 m1 → RepSt ⟨K, B⟩ H1 m1 s1 → ItRep K B J p.1 p.2 s1 H1 m1 → R J H1
  | .exc c fs st' => ∀ dx H' m', Evo H m H' m' → RepX ⟨K, B⟩ H' m' fs dx → RepSt ⟨K, B⟩ H' m' st' → W c dx H'
  | .fail => False
structure DI (X : Cx) (W : WX) (tg e : Expr) (f : Fi) : Prop where
  ex : ∃ t : TI, PI X tg e t ∧ ∀ (B : List Addr) (σ : Sg) (H : Hp) (ρ : DEnv) (st : Store) (m : List Addr) (R : It → Hp → Prop), RepE ⟨X.K, B⟩ H m ρ σ → RepSt ⟨X.K, B⟩ H m st → GoodI (f ρ st) R (fun c d H' => W c d σ H') X.K B H m → t σ H R
theorem good_bindI {α β : Type} {K : PySem.W.Frag} {B : List Addr} {H : Hp} {m : List Addr} {R : Hp → List Addr → α → β → Prop} {r : Res α} {k : α → Store → Res (List D × List Nat)} {R' : It → Hp → Prop} {Q1 : β → Hp → Prop} {W : WH} (h : GoodI (r.bind k) R' W K B H m)
    (hk : ∀ d st1 v H1 m1, Evo H m H1 m1 → R H1 m1 d v → RepSt ⟨K, B⟩ H1 m1 st1 → GoodI (k d st1) R' W K B H1 m1 → Q1 v H1) : GoodR R r Q1 W ⟨K, B⟩ H m := by
  cases r with
  | ok d st =>
    refine fun v H1 m1 e rv rs => hk d st v H1 m1 e rv rs ?_
    have h : GoodI (k d st) R' W K B H m := h
    cases q : k d st with
    | ok p s => rw [q] at h; exact fun J H2 m2 e2 => h J H2 m2 (e.trans e2)
    | exc c fs s => rw [q] at h; exact fun dx H2 m2 e2 => h dx H2 m2 (e.trans e2)
    | fail => rw [q] at h; exact h.elim
  | exc c fs st => exact h
  | fail => exact h.elim
section
variable {X : Cx} {W : WX} {pos : Pos} {e tg iter : Expr} {f : Fe} {fi : Fi}
theorem it_list {K : PySem.W.Frag} {B : List Addr} {H1 : Hp} {m1 : List Addr} {a : Addr} {vs : List V} {ds : List D} {s1 : Store} (hs : SqL K H1 a vs) (ha : a ∉ m1) (r : RepL ⟨K, B⟩ H1 m1 ds vs) : ItRep K B (Itl K a) ds [] s1 H1 m1 := by
  have sq : ∀ {H : Hp} {m : List Addr}, Evo H1 m1 H m → SqL K H a vs := fun {H m} e => by
    rcases hs with hs | hs
    · exact .inl (e.rd hs ha).1
    · exact .inr hs
  refine ⟨fun B' i H m st hb hi e rs _ => ?_, fun B' H m st hb e rs _ => ⟨vs, sq e, by rw [← r.length]; exact Nat.le_refl _⟩, fun B' i d H m st x H' hb hi e rs _ y => ?_⟩
  · have hv : i < vs.length := by rw [← r.length]; exact hi
    exact ⟨vs, vs[i], sq e, by simp [hv]⟩
  · obtain ⟨rfl, y⟩ := y
    have hx := y vs (sq e)
    obtain ⟨v, h1, h2⟩ := r.get hi
    rw [h1] at hx; cases hx
    exact ⟨Grow.refl, Rep.evo e _ _ (h2.ban hb)⟩
theorem it_tup {K : PySem.W.Frag} {B : List Addr} {H1 : Hp} {m1 : List Addr} {a : Addr} {vs : List V} {ds : List D} {s1 : Store} (hs : (Rd H1 a (.tup vs) ∧ a ∉ m1) ∨ TK K a vs) (r : RepL ⟨K, B⟩ H1 m1 ds vs) : ItRep K B (Itt K a) ds [] s1 H1 m1 := by
  have sq : ∀ {H : Hp} {m : List Addr}, Evo H1 m1 H m → SqT K H a vs := fun {H m} e => by
    rcases hs with ⟨hs, ha⟩ | hs
    · exact .inl (e.rd hs ha).1
    · exact .inr hs
  refine ⟨fun B' i H m st hb hi e rs _ => ?_, fun B' H m st hb e rs _ => ⟨vs, sq e, by rw [← r.length]; exact Nat.le_refl _⟩, fun B' i d H m st x H' hb hi e rs _ y => ?_⟩
  · have hv : i < vs.length := by rw [← r.length]; exact hi
    exact ⟨vs, vs[i], sq e, by simp [hv]⟩
  · obtain ⟨rfl, y⟩ := y
    have hx := y vs (sq e)
    obtain ⟨v, h1, h2⟩ := r.get hi
    rw [h1] at hx; cases hx
    exact ⟨Grow.refl, Rep.evo e _ _ (h2.ban hb)⟩
theorem it_loc {K : PySem.W.Frag} {B : List Addr} {H1 : Hp} {m1 : List Addr} {a : Addr} {l : Nat} {ds : List D} {s1 : Store} (hm : m1[l]? = some a) (hl : s1[l]? = some (.lst ds)) : ItRep K B (Itl K a) ds [l] s1 H1 m1 := by
  have key : ∀ {B' : List Addr} {H : Hp} {m : List Addr} {st : Store}, Evo H1 m1 H m → RepSt ⟨K, B'⟩ H m st → sameAt [l] s1 st = true → ∃ vs, H a = some (.lst vs) ∧ RepL ⟨K, B'⟩ H m ds vs := fun {B' H m st} e rs w => by
    obtain ⟨c, h1, h2⟩ := sameAt_get w (List.mem_singleton.mpr rfl)
    rw [hl] at h1; cases h1
    obtain ⟨b, h3, vs, h4, h5⟩ := rs.cell l _ h2
    rw [e.get hm] at h3; cases h3
    exact ⟨vs, h4, h5⟩
  refine ⟨fun B' i H m st hb hi e rs w => ?_, fun B' H m st hb e rs w => ?_, fun B' i d H m st x H' hb hi e rs w y => ?_⟩
  · obtain ⟨vs, h1, h2⟩ := key e rs w
    have hv : i < vs.length := by rw [← h2.length]; exact hi
    exact ⟨vs, vs[i], .of h1, by simp [hv]⟩
  · obtain ⟨vs, h1, h2⟩ := key e rs w
    exact ⟨vs, .of h1, by rw [← h2.length]; exact Nat.le_refl _⟩
  · obtain ⟨rfl, y⟩ := y
    obtain ⟨vs, h1, h2⟩ := key e rs w
    have hx := y vs (.of h1)
    obtain ⟨v, h3, h4⟩ := h2.get hi
    rw [h3] at hx; cases hx
    exact ⟨Grow.refl, h4⟩
/-- any list or tuple -/
def iSeq (K : PySem.W.Frag) (tl : TE) : TI := fun σ H R => tl σ H fun x H1 => ∃ a, x = .ref a ∧ (((∃ xs, SqL K H1 a xs) ∧ R (Itl K a) H1) ∨ ((∃ xs, SqT K H1 a xs) ∧ R (Itt K a) H1))
theorem pi_seq {l : Expr} {tl : TE} (hl : PE X l tl) : PI X tg l (iSeq X.K tl) := by
  refine ⟨fun pins s σ H R I h => ?_⟩
  refine thn (hl.run pins s σ H _ I h) fun v s1 ⟨x, H1, I1, r1, q1⟩ => ?_
  obtain ⟨a, e, q1⟩ := q1
  subst e
  cases r1
  rcases q1 with ⟨⟨xs, hq⟩, q⟩ | ⟨⟨xs, hq⟩, q⟩
  · obtain ⟨its, rv, p, hz⟩ := I1.list hq
    refine wpAny_pyIter_list p.isList ?_
    refine ⟨s1.heap.objs.size, [s1.heap.objs.size], _, _, H1, rfl, I1.kept (t' := s1.toks) fun b o e => Heap.get?_push_of_some _ e, turn_list a _, ⟨_, Heap.get?_push_size _ rfl, rfl, rfl⟩, fun b hb => ?_, q⟩
    have e : b = s1.heap.objs.size := by simpa using hb
    subst e
    exact I1.fpOk (Nat.le_refl _) (I1.hok.fresh (Nat.le_refl _))
  · obtain ⟨its, rv, p, hz⟩ := I1.tuple hq
    refine wpAny_pyIter_tuple (show s1.heap.IsTuple a its.toArray from p) ?_
    refine ⟨s1.heap.objs.size, [s1.heap.objs.size], _, _, H1, rfl, I1.kept (t' := s1.toks) fun b o e => Heap.get?_push_of_some _ e, turn_tuple a _, ⟨_, Heap.get?_push_size _ rfl, rfl, rfl⟩, fun b hb => ?_, q⟩
    have e : b = s1.heap.objs.size := by simpa using hb
    subst e
    exact I1.fpOk (Nat.le_refl _) (I1.hok.fresh (Nat.le_refl _))
def seqI (st : Store) : D → Option (List D × List Nat)
  | .tup ds => some (ds, [])
  | .lst ds => some (ds, [])
  | .rol ds => some (ds, [])
  | .loc l => match st[l]? with
    | some (.lst ds) => some (ds, [l])
    | _ => none
  | _ => none
def liftI (o : Option (List D × List Nat)) (st : Store) : Res (List D × List Nat) := match o with
  | some d => .ok d st
  | none => .fail
@[simp] theorem liftI_some (d) (st : Store) : liftI (some d) st = .ok d st := id rfl
@[simp] theorem liftI_none (st : Store) : liftI none st = .fail := id rfl
def iOf (f : Fe) : Fi := fun ρ st => (f ρ st).bind fun d s1 => liftI (seqI s1 d) s1
/-- a value walked: where it stands -/
theorem seqI_rep {K : PySem.W.Frag} {B : List Addr} {H1 : Hp} {m1 : List Addr} {s1 : Store} {d : D} {x : V} {p : List D × List Nat} (rs : RepSt ⟨K, B⟩ H1 m1 s1) (r : Rep ⟨K, B⟩ H1 m1 d x) (hp : seqI s1 d = some p) :
    ∃ a, x = .ref a ∧ (((∃ xs, SqL K H1 a xs) ∧ ItRep K B (Itl K a) p.1 p.2 s1 H1 m1) ∨ ((∃ xs, SqT K H1 a xs) ∧ ItRep K B (Itt K a) p.1 p.2 s1 H1 m1)) := by
  cases d with
  | tup ds =>
    cases hp
    obtain ⟨a, vs, rfl, h1, h2⟩ := Rep.tup_iff.mp r
    refine ⟨a, rfl, .inr ⟨⟨vs, ?_⟩, it_tup ?_ h2⟩⟩
    · rcases h1 with h1 | h1
      · exact .inl h1.1
      · exact .inr h1
    · rcases h1 with h1 | h1
      · exact .inl ⟨h1.1, h1.2.1⟩
      · exact .inr h1
  | lst ds =>
    cases hp
    obtain ⟨a, vs, rfl, h1, h2⟩ := Rep.lst_iff.mp r
    exact ⟨a, rfl, .inl ⟨⟨vs, .of h1.1⟩, it_list (.of h1.1) h1.2.1 h2⟩⟩
  | rol ds =>
    cases hp
    obtain ⟨a, vs, rfl, h1, h2⟩ := Rep.rol_iff.mp r
    rcases h1 with ⟨⟨o, h1⟩, n, _⟩ | h1
    · exact ⟨a, rfl, .inl ⟨⟨vs, .inl (.inr ⟨o, h1⟩)⟩, it_list (.inl (.inr ⟨o, h1⟩)) n h2⟩⟩
    · refine ⟨a, rfl, .inl ⟨⟨vs, .inr h1⟩, ?_⟩⟩
      have sq : ∀ {H : Hp}, SqL K H a vs := fun {H} => .inr h1
      refine ⟨fun B' i H m st hb hi e rs _ => ?_, fun B' H m st hb e rs _ => ⟨vs, sq, by rw [← h2.length]; exact Nat.le_refl _⟩, fun B' i d H m st x H' hb hi e rs _ y => ?_⟩
      · have hv : i < vs.length := by rw [← h2.length]; exact hi
        exact ⟨vs, vs[i], sq, by simp [hv]⟩
      · obtain ⟨rfl, y⟩ := y
        have hx := y vs sq
        obtain ⟨v, h3, h4⟩ := h2.get hi
        rw [h3] at hx; cases hx
        exact ⟨Grow.refl, Rep.evo e _ _ (h4.ban hb)⟩
  | loc l =>
    simp only [seqI] at hp
    cases hq : s1[l]? with
    | none => rw [hq] at hp; cases hp
    | some c =>
      rw [hq] at hp
      cases c with
      | lst ds =>
        cases hp
        obtain ⟨a, vs, rfl, hm, hH, rl⟩ := loc_lst rs r hq
        exact ⟨a, rfl, .inl ⟨⟨vs, .of hH⟩, it_loc hm hq⟩⟩
      | dic _ => cases hp
      | ins _ _ => cases hp
  | _ => cases hp
theorem di_seq (h : DE X W e f) : DI X W tg e (iOf f) := by
  obtain ⟨t, p, q⟩ := h
  refine ⟨_, pi_seq p, fun B σ H ρ st m R re rs h => ?_⟩
  refine q B σ H ρ st m _ re rs (good_bindI h fun d s1 x H1 m1 e1 r1 rs1 h1 => ?_)
  cases hp : seqI s1 d with
  | none => rw [hp] at h1; exact h1.elim
  | some p =>
    rw [hp] at h1
    obtain ⟨a, rfl, hh⟩ := seqI_rep rs1 r1 hp
    refine ⟨a, rfl, ?_⟩
    rcases hh with ⟨h2, h3⟩ | ⟨h2, h3⟩
    · exact .inl ⟨h2, h1 _ H1 m1 .refl rs1 h3⟩
    · exact .inr ⟨h2, h1 _ H1 m1 .refl rs1 h3⟩
/-- range -/
def rngI (lo : Int) (n : Nat) : List D := (List.range n).map fun i => D.int (lo + (i : Nat))
theorem it_rng {K : PySem.W.Frag} {B : List Addr} {H1 : Hp} {m1 : List Addr} {lo : Int} {n : Nat} {s1 : Store} : ItRep K B (Itr lo n) (rngI lo n) [] s1 H1 m1 := by
  have hl : (rngI lo n).length = n := by simp [rngI]
  refine ⟨fun B' i H m st hb hi e rs _ => by rw [hl] at hi; exact hi, fun B' H m st hb e rs _ => by rw [hl]; exact Nat.le_refl _, fun B' i d H m st x H' hb hi e rs _ y => ?_⟩
  obtain ⟨rfl, rfl⟩ := y
  have hi' : i < n := by
    have := (List.getElem?_eq_some_iff.mp hi).1
    rwa [hl] at this
  unfold rngI at hi
  rw [List.getElem?_map, List.getElem?_range hi'] at hi
  cases hi
  exact ⟨Grow.refl, Rep.int_iff.mpr rfl⟩
def rng1 : List D → Option (List D × List Nat)
  | [.int j] => if -(2 ^ 62) ≤ j ∧ j < 2 ^ 62 then some (rngI 0 j.toNat, []) else none
  | _ => none
def rng2 : List D → Option (List D × List Nat)
  | [.int i, .int j] => if -(2 ^ 62) ≤ i ∧ i < 2 ^ 62 ∧ -(2 ^ 62) ≤ j ∧ j < 2 ^ 62 then some (rngI i (j - i).toNat, []) else none
  | _ => none
def iRng (g : List D → Option (List D × List Nat)) (fa : Fa) : Fi := fun ρ st => (fa ρ st).bind fun ds s1 => liftI (g ds) s1
theorem di_rng1 {a : Expr} {fa : Fa} {p : Pos} (hm : X.mg "range" = none) (ha : DA X W [a] fa) (hg : Gl X "range" := by rfl) (hs : starEach [a] X.env = [(false, eval a X.env)] := by rfl) : DI X W tg (.Call (.Name "range" p) [a] [] pos) (iRng rng1 fa) := by
  obtain ⟨⟨t, p, q⟩, _⟩ := ha
  refine ⟨_, pi_range1 hg hm p hs, fun B σ H ρ st m R re rs h => ?_⟩
  refine q B σ H ρ st m _ re rs (good_bindI h fun ds s1 vs H1 m1 e1 r1 rs1 h1 => ?_)
  match ds, h1, r1 with
  | [.int j], h1, r1 =>
    obtain ⟨v, r, rfl, ra, r1⟩ := r1.inv_cons
    cases r1.inv_nil
    cases Rep.int_iff.mp ra
    simp only [rng1] at h1
    split at h1
    · rename_i hc
      exact ⟨j, rfl, hc.1, hc.2, h1 _ H1 m1 .refl rs1 it_rng⟩
    · exact h1.elim
  | [], h1, _ => exact h1.elim
  | [.non], h1, _ => exact h1.elim
  | [.bl _], h1, _ => exact h1.elim
  | [.str _], h1, _ => exact h1.elim
  | [.ty _], h1, _ => exact h1.elim
  | [.ob _], h1, _ => exact h1.elim
  | [.tup _], h1, _ => exact h1.elim
  | [.lst _], h1, _ => exact h1.elim
  | [.rol _], h1, _ => exact h1.elim
  | [.loc _], h1, _ => exact h1.elim
  | _ :: _ :: _, h1, _ => simp [rng1, liftI] at h1; exact h1.elim
theorem rng2_inv {ds : List D} {p : List D × List Nat} (h : rng2 ds = some p) : ∃ i j : Int, ds = [.int i, .int j] ∧ (-(2 ^ 62) ≤ i ∧ i < 2 ^ 62 ∧ -(2 ^ 62) ≤ j ∧ j < 2 ^ 62) ∧ p = (rngI i (j - i).toNat, []) := by
  unfold rng2 at h
  split at h
  · split at h
    · rename_i hc; cases h; exact ⟨_, _, rfl, hc, rfl⟩
    · cases h
  · cases h
theorem di_rng2 {a b : Expr} {fa : Fa} {p : Pos} (hm : X.mg "range" = none) (ha : DA X W [a, b] fa) (hg : Gl X "range" := by rfl) (hs : starEach [a, b] X.env = [(false, eval a X.env), (false, eval b X.env)] := by rfl) (hs2 : starEach [b] X.env = [(false, eval b X.env)] := by rfl) : DI X W tg (.Call (.Name "range" p) [a, b] [] pos) (iRng rng2 fa) := by
  obtain ⟨⟨t, p, q⟩, _⟩ := ha
  refine ⟨_, pi_range2 hg hm p hs hs2, fun B σ H ρ st m R re rs h => ?_⟩
  refine q B σ H ρ st m _ re rs (good_bindI h fun ds s1 vs H1 m1 e1 r1 rs1 h1 => ?_)
  cases hd : rng2 ds with
  | none => rw [hd] at h1; exact h1.elim
  | some p =>
    rw [hd] at h1
    obtain ⟨i, j, rfl, hc, rfl⟩ := rng2_inv hd
    obtain ⟨v, r, rfl, ra, r1⟩ := r1.inv_cons
    obtain ⟨w, r, rfl, rb, r1⟩ := r1.inv_cons
    cases r1.inv_nil
    cases Rep.int_iff.mp ra
    cases Rep.int_iff.mp rb
    exact ⟨i, j, rfl, hc, h1 _ H1 m1 .refl rs1 it_rng⟩
def forD (g : Fg) (body : Fs) (ws : List Nat) (s1 : Store) : List D → DEnv → Store → SRes
  | [], ρ, st => .nx ρ st
  | d :: ds, ρ, st => match g d ρ with
    | none => .fail
    | some ρ1 => match body ρ1 st with
      | .nx ρ2 s2 => if sameAt ws s1 s2 = true then forD g body ws s1 ds ρ2 s2 else .fail
      | .cnt ρ2 s2 => if sameAt ws s1 s2 = true then forD g body ws s1 ds ρ2 s2 else .fail
      | .brk ρ2 s2 => .nx ρ2 s2
      | r => r
def sFor (fi : Fi) (g : Fg) (body : Fs) : Fs := fun ρ st => (fi ρ st).thenS ρ fun p s1 => if sameAt p.2 s1 s1 = true then forD g body p.2 s1 p.1 ρ s1 else .fail
theorem ds_for {is : List Nat} {g : Fg} {body : List Stmt} {fb : Fs} (hx : XOk X W) (hp : PassesOwn (model X.prog X.w) X.A X.env X.xe) (hi : DI X W tg iter fi) (hg : DG X tg is g) (hb : DB X W body fb)
    (hs : ∀ x, foldedSetIterable iter X.env x = pure x := by intro _; rfl) : DS X W (.For tg iter body [] pos) (sFor fi g fb) := by
  obtain ⟨ti, pi, qi⟩ := hi
  obtain ⟨tg', pg, qg⟩ := hg
  obtain ⟨tb, pb, qb⟩ := hb
  refine ⟨_, ps_for hp hx.calm pi pg pb hs, fun B σ H ρ st m En re rs h => ?_⟩
  refine qi B σ H ρ st m _ re rs ?_
  unfold sFor at h
  cases er : fi ρ st with
  | fail => rw [er] at h; exact h.elim
  | exc c fs s => rw [er] at h; exact fun dx H1 m1 e rx rs => h σ dx H1 m1 e (re.evo e) rx rs
  | ok p s1 =>
    rw [er] at h
    intro J H1 m1 e1 rs1 hit
    simp only [Res.thenS_ok] at h
    split at h
    · rename_i hw
      have h := GoodS.evo h e1
      have re1 := re.evo e1
      refine ⟨fun i k σ' H' => k = p.1.length - i ∧ i ≤ p.1.length ∧ ∃ ρ' st' m', Evo H1 m1 H' m' ∧ RepE ⟨X.K, B⟩ H' m' ρ' σ' ∧ RepSt ⟨X.K, B⟩ H' m' st' ∧ sameAt p.2 s1 st' = true ∧ GoodS (forD g fb p.2 s1 (p.1.drop i) ρ' st') En W ⟨X.K, B⟩ H' m',
        ⟨p.1.length, by simp, Nat.zero_le _, ρ, s1, m1, .refl, re1, rs1, hw, h⟩, ?_⟩
      rintro i k σ' H' ⟨rfl, hi, ρ', st', m', ev, re', rs', hw', hh⟩
      by_cases hlt : i < p.1.length
      · refine .inr ⟨hit.goes B i H' m' st' (fun b hb => .inl hb) hlt ev rs' hw', fun σ2 H2 => i + 1 ≤ p.1.length ∧ ∃ ρ2 st2 m2, Evo H1 m1 H2 m2 ∧ RepE ⟨X.K, B⟩ H2 m2 ρ2 σ2 ∧ RepSt ⟨X.K, B⟩ H2 m2 st2 ∧ sameAt p.2 s1 st2 = true ∧ GoodS (forD g fb p.2 s1 (p.1.drop (i + 1)) ρ2 st2) En W ⟨X.K, B⟩ H2 m2,
          fun σ2 H2 hN => ⟨p.1.length - (i + 1), by omega, rfl, hN⟩, fun x H2 y => ?_⟩
        have hd : p.1[i]? = some p.1[i] := by simp [hlt]
        obtain ⟨gr, rx⟩ := hit.yields B i _ H' m' st' x H2 (fun b hb => .inl hb) hd ev rs' hw' y
        have ec : p.1.drop i = p.1[i] :: p.1.drop (i + 1) := List.drop_eq_getElem_cons hlt
        rw [ec] at hh
        unfold forD at hh
        cases hg : g p.1[i] ρ' with
        | none => rw [hg] at hh; exact hh.elim
        | some ρ1 =>
          rw [hg] at hh
          refine qg B x σ' H2 ρ' ρ1 m' _ _ (re'.evo gr.evo) rx hg fun σ3 re3 _ => ?_
          refine qb B σ3 H2 ρ1 st' m' _ re3 (rs'.grow gr) ?_
          simp only at hh
          have cont : ∀ {ρ2 : DEnv} {s2 : Store}, GoodS (if sameAt p.2 s1 s2 = true then forD g fb p.2 s1 (p.1.drop (i + 1)) ρ2 s2 else .fail) En W ⟨X.K, B⟩ H' m' → ∀ σ4 H4 m4, Evo H2 m' H4 m4 → RepE ⟨X.K, B⟩ H4 m4 ρ2 σ4 → RepSt ⟨X.K, B⟩ H4 m4 s2 →
              i + 1 ≤ p.1.length ∧ ∃ ρ2 st2 m2, Evo H1 m1 H4 m2 ∧ RepE ⟨X.K, B⟩ H4 m2 ρ2 σ4 ∧ RepSt ⟨X.K, B⟩ H4 m2 st2 ∧ sameAt p.2 s1 st2 = true ∧ GoodS (forD g fb p.2 s1 (p.1.drop (i + 1)) ρ2 st2) En W ⟨X.K, B⟩ H4 m2 := fun {ρ2 s2} hh σ4 H4 m4 e4 re4 rs4 => by
            split at hh
            · rename_i hw4
              exact ⟨hlt, ρ2, s2, m4, ev.trans (gr.evo.trans e4), re4, rs4, hw4, GoodS.evo hh (gr.evo.trans e4)⟩
            · exact hh.elim
          cases er : fb ρ1 st' with
          | nx ρ2 s2 => rw [er] at hh; exact cont hh
          | cnt ρ2 s2 => rw [er] at hh; exact cont hh
          | brk ρ2 s2 => rw [er] at hh; exact fun σ4 H4 m4 e4 re4 rs4 => hh σ4 H4 m4 (gr.evo.trans e4) re4 rs4
          | ret d s2 => rw [er] at hh; exact fun v H4 m4 e4 => hh v H4 m4 (gr.evo.trans e4)
          | exc c fs ρ2 s2 => rw [er] at hh; exact fun σ4 dx H4 m4 e4 => hh σ4 dx H4 m4 (gr.evo.trans e4)
          | fail => rw [er] at hh; exact hh.elim
      · have e : i = p.1.length := by omega
        subst e
        refine .inl ⟨hit.stops B H' m' st' (fun b hb => .inl hb) ev rs' hw', ?_⟩
        rw [List.drop_length] at hh
        exact hh σ' H' m' .refl re' rs'
    · exact h.elim
def whileD (t : Ft) (body : Fs) : Nat → DEnv → Store → SRes
  | 0, _, _ => .fail
  | n + 1, ρ, st => (t ρ st).thenS ρ fun b s1 => if b = true then match body ρ s1 with
      | .nx ρ2 s2 => whileD t body n ρ2 s2
      | .cnt ρ2 s2 => whileD t body n ρ2 s2
      | .brk ρ2 s2 => .nx ρ2 s2
      | r => r
    else .nx ρ s1
def sWhile (fuel : DEnv → Store → Nat) (t : Ft) (body : Fs) : Fs := fun ρ st => whileD t body (fuel ρ st) ρ st
theorem ds_while {c : Expr} {ft : Ft} {body : List Stmt} {fb : Fs} (fuel : DEnv → Store → Nat) (hp : PassesOwn (model X.prog X.w) X.A X.env X.xe) (hc : DT X W c ft) (hb : DB X W body fb) : DS X W (.While c body [] pos) (sWhile fuel ft fb) := by
  obtain ⟨tc, pc, qc⟩ := hc
  obtain ⟨tb, pb, qb⟩ := hb
  refine ⟨_, ps_while hp pc pb, fun B σ H ρ st m En re rs h => ?_⟩
  refine ⟨fun k σ' H' => ∃ ρ' st' m', RepE ⟨X.K, B⟩ H' m' ρ' σ' ∧ RepSt ⟨X.K, B⟩ H' m' st' ∧ GoodS (whileD ft fb k ρ' st') En W ⟨X.K, B⟩ H' m', ⟨fuel ρ st, ρ, st, m, re, rs, h⟩, ?_⟩
  rintro k σ' H' ⟨ρ', st', m', re', rs', hh⟩
  cases k with
  | zero => exact hh.elim
  | succ k =>
    unfold whileD at hh
    refine qc B σ' H' ρ' st' m' _ re' rs' (good_thenS re' hh fun b s1 x H1 m1 e1 r1 rs1 h1 => ?_)
    cases (show x = b from r1)
    cases b with
    | false => rw [if_neg Bool.false_ne_true] at h1 ⊢; exact h1 σ' H1 m1 .refl (re'.evo e1) rs1
    | true =>
      rw [if_pos rfl] at h1 ⊢
      refine ⟨fun σ2 H2 => ∃ ρ' st' m', RepE ⟨X.K, B⟩ H2 m' ρ' σ2 ∧ RepSt ⟨X.K, B⟩ H2 m' st' ∧ GoodS (whileD ft fb k ρ' st') En W ⟨X.K, B⟩ H2 m', fun σ2 H2 hN => ⟨k, Nat.lt_succ_self _, hN⟩, ?_⟩
      refine qb B σ' H1 ρ' s1 m1 _ (re'.evo e1) rs1 ?_
      cases er : fb ρ' s1 with
      | nx ρ2 s2 => rw [er] at h1; exact fun σ4 H4 m4 e4 re4 rs4 => ⟨ρ2, s2, m4, re4, rs4, GoodS.evo (r := whileD ft fb k ρ2 s2) h1 e4⟩
      | cnt ρ2 s2 => rw [er] at h1; exact fun σ4 H4 m4 e4 re4 rs4 => ⟨ρ2, s2, m4, re4, rs4, GoodS.evo (r := whileD ft fb k ρ2 s2) h1 e4⟩
      | brk ρ2 s2 => rw [er] at h1; exact h1
      | ret d s2 => rw [er] at h1; exact h1
      | exc c fs ρ2 s2 => rw [er] at h1; exact h1
      | fail => rw [er] at h1; exact h1.elim
end
end DL
namespace DL
open PySem PySem.Spec PyProof.Rows L2
def wipeD (ρ : DEnv) : List Nat → DEnv
  | [] => ρ
  | v :: vs => (wipeD ρ vs).set v none
theorem RepE.wipe {K : KB} {H : Hp} {m : List Addr} {ρ : DEnv} {σ : Sg} (h : RepE K H m ρ σ) : ∀ vs : List Nat, RepE K H m (wipeD ρ vs) (L2.wipe σ vs)
  | [] => h
  | v :: vs => by
    have ih := RepE.wipe h vs
    unfold wipeD L2.wipe
    refine ⟨by simp [ih.len], fun i d q => ?_⟩
    by_cases hj : v = i
    · subst hj
      by_cases hl : v < (wipeD ρ vs).length
      · rw [List.getElem?_set_self hl] at q; cases q
      · rw [List.getElem?_eq_none (by simpa using hl)] at q; cases q
    · rw [List.getElem?_set_ne hj] at q ⊢
      exact ih.val i d q
/-- an environment's names are as those of σ where its own are wiped -/
def lcD (g : Fg) (t : Ft) (f : Fe) (ws : List Nat) (s1 : Store) (ρ : DEnv) : List D → Store → Res (List D)
  | [], st => .ok [] st
  | d :: ds, st => match g d ρ with
    | none => .fail
    | some ρ1 => match t ρ1 st with
      | .ok true s2 => match f ρ1 s2 with
        | .ok x s3 => if sameAt ws s1 s3 = true then (lcD g t f ws s1 ρ ds s3).bind fun r s4 => .ok (x :: r) s4 else .fail
        | _ => .fail
      | .ok false s2 => if sameAt ws s1 s2 = true then lcD g t f ws s1 ρ ds s2 else .fail
      | _ => .fail
def xLcF (fi : Fi) (g : Fg) (t : Ft) (f : Fe) (vs : List Nat) : DEnv → Store → Res (List D) := fun ρ st => (fi ρ st).bind fun p s1 => if sameAt p.2 s1 s1 = true ∧ p.1.length ≤ sizeLine then lcD g t f p.2 s1 (wipeD ρ vs) p.1 s1 else .fail
def xLc (fi : Fi) (g : Fg) (t : Ft) (f : Fe) (vs : List Nat) : Fe := fun ρ st => (xLcF fi g t f vs ρ st).bind fun ds s1 => .ok (.lst ds) s1
def xLcN (fi : Fi) (g : Fg) (t : Ft) (f : Fe) (vs : List Nat) : Fe := fun ρ st => (xLcF fi g t f vs ρ st).bind fun ds s1 => .ok (.loc s1.length) (s1 ++ [.lst ds])
/-- a clause's tests -/
structure DTs (X : Cx) (W : WX) (es : List Expr) (f : Ft) : Prop where
  ex : ∃ t : TT, PTs X es t ∧ ∀ (B : List Addr) (σ : Sg) (H : Hp) (ρ : DEnv) (st : Store) (m : List Addr) (Q : Bool → Hp → Prop), RepE ⟨X.K, B⟩ H m ρ σ → RepSt ⟨X.K, B⟩ H m st → GoodR RB (f ρ st) Q (fun c d H' => W c d σ H') ⟨X.K, B⟩ H m → t σ H Q
def tAll : Ft := fun _ st => .ok true st
theorem dts_nil {X : Cx} {W : WX} : DTs X W [] tAll := ⟨_, pts_nil, fun B σ H ρ st m Q re rs h => good_ok h rfl rs⟩
theorem dts_one {X : Cx} {W : WX} {c : Expr} {f : Ft} (h : DT X W c f) : DTs X W [c] f := let ⟨⟨t, p, q⟩⟩ := h; ⟨t, pts_one p, q⟩
abbrev WF : WX := fun _ _ _ _ => False
section
variable {K : PySem.W.Frag} {B : List Addr} {H : Hp} {m : List Addr} {p : Addr} {o : HO}
mutual
theorem Rep.updB (hp : p ∈ B) : ∀ {d : D} {v : V}, Rep ⟨K, B⟩ H m d v → Rep ⟨K, B⟩ (upd H p o) m d v
  | .tup ds, _, h => by
    obtain ⟨a, vs, rfl, h1, h2⟩ := Rep.tup_iff.mp h
    refine Rep.tup_iff.mpr ⟨a, vs, rfl, ?_, RepL.updB hp h2⟩
    rcases h1 with ⟨h1, n, nb⟩ | h1
    · have ne : a ≠ p := fun z => nb (by rw [z]; exact hp)
      refine .inl ⟨?_, n, nb⟩
      rcases h1 with h1 | ⟨u, h1⟩
      · exact .inl (by rw [upd_ne ne]; exact h1)
      · exact .inr ⟨u, by rw [upd_ne ne]; exact h1⟩
    · exact .inr h1
  | .lst ds, _, h => by
    obtain ⟨a, vs, rfl, ⟨h1, n, nb⟩, h2⟩ := Rep.lst_iff.mp h
    have ne : a ≠ p := fun z => nb (by rw [z]; exact hp)
    exact Rep.lst_iff.mpr ⟨a, vs, rfl, ⟨by rw [upd_ne ne]; exact h1, n, nb⟩, RepL.updB hp h2⟩
  | .rol ds, _, h => by
    obtain ⟨a, vs, rfl, h1, h2⟩ := Rep.rol_iff.mp h
    refine Rep.rol_iff.mpr ⟨a, vs, rfl, ?_, RepL.updB hp h2⟩
    rcases h1 with ⟨⟨u, h1⟩, n, nb⟩ | h1
    · have ne : a ≠ p := fun z => nb (by rw [z]; exact hp)
      exact .inl ⟨⟨u, by rw [upd_ne ne]; exact h1⟩, n, nb⟩
    · exact .inr h1
  | .loc l, _, h => by unfold Rep at h ⊢; exact h
  | .non, _, h => by unfold Rep at h ⊢; exact h
  | .bl _, _, h => by unfold Rep at h ⊢; exact h
  | .int _, _, h => by unfold Rep at h ⊢; exact h
  | .str _, _, h => by unfold Rep at h ⊢; exact h
  | .ty _, _, h => by unfold Rep at h ⊢; exact h
  | .ob _, _, h => by unfold Rep at h ⊢; exact h
theorem RepL.updB (hp : p ∈ B) : ∀ {ds : List D} {vs : List V}, RepL ⟨K, B⟩ H m ds vs → RepL ⟨K, B⟩ (upd H p o) m ds vs
  | [], _, h => by unfold RepL at h ⊢; exact h
  | d :: ds, _, h => by
    obtain ⟨v, r, rfl, h1, h2⟩ := h.inv_cons
    exact .cons (Rep.updB hp h1) (RepL.updB hp h2)
end
theorem RepP.updB {κ : Type} (hp : p ∈ B) : ∀ {ds : List (κ × D)} {vs : List (κ × V)}, RepP ⟨K, B⟩ H m ds vs → RepP ⟨K, B⟩ (upd H p o) m ds vs
  | [], _, h => h
  | (k, d) :: ds, _, ⟨v, r, q, h1, h2⟩ => ⟨v, r, q, Rep.updB hp h1, RepP.updB hp h2⟩
/-- a list under way is written -/
theorem RepSt.updB {st : Store} {xs ys : List V} (rs : RepSt ⟨K, B⟩ H m st) (hp : p ∈ B) (hl : H p = some (.lst xs)) : RepSt ⟨K, B⟩ (upd H p (.lst ys)) m st := by
  obtain ⟨_, hn⟩ := rs.ban p hp
  refine ⟨fun b hb => ?_, rs.len, rs.nd, fun l c q => ?_⟩
  · obtain ⟨⟨u, e⟩, n⟩ := rs.ban b hb
    refine ⟨?_, n⟩
    by_cases z : b = p
    · rw [z]; exact ⟨_, upd_same⟩
    · exact ⟨u, by rw [upd_ne z]; exact e⟩
  · obtain ⟨a, h1, h2⟩ := rs.cell l c q
    have ha : a ≠ p := fun z => hn (by rw [← z]; exact List.mem_of_getElem? h1)
    refine ⟨a, h1, ?_⟩
    cases c with
    | lst ds => obtain ⟨vs, x, y⟩ := h2; exact ⟨vs, by rw [upd_ne ha]; exact x, y.updB hp⟩
    | dic kvs => obtain ⟨vs, x, y⟩ := h2; exact ⟨vs, by rw [upd_ne ha]; exact x, y.updB hp⟩
    | ins C fs =>
      obtain ⟨dx, vs, x, z, n, y⟩ := h2
      exact ⟨dx, vs, by rw [upd_ne ha]; exact x, by rw [upd_ne (fun w => by rw [w, hl] at z; cases z)]; exact z, n, y.updB hp⟩
theorem RepSt.weakB {st : Store} (rs : RepSt ⟨K, p :: B⟩ H m st) : RepSt ⟨K, B⟩ H m st :=
  ⟨fun b hb => rs.ban b (List.mem_cons_of_mem _ hb), rs.len, rs.nd, fun l c q => let ⟨a, h1, h2⟩ := rs.cell l c q; ⟨a, h1, h2.ban fun b hb => .inl (List.mem_cons_of_mem _ hb)⟩⟩
theorem RepSt.banB {st : Store} (rs : RepSt ⟨K, B⟩ H m st) (hp : H p = none) : RepSt ⟨K, p :: B⟩ (upd H p o) m st := by
  have r2 := rs.grow (Grow.upd (o := o) hp)
  refine ⟨fun b hb => ?_, r2.len, r2.nd, fun l c q => ?_⟩
  · rcases List.mem_cons.mp hb with z | z
    · rw [z]; exact ⟨⟨_, upd_same⟩, rs.fresh hp⟩
    · exact r2.ban b z
  · obtain ⟨a, h1, h2⟩ := rs.cell l c q
    have h3 : RepC ⟨K, p :: B⟩ H m c a := h2.ban fun b hb => by
      rcases List.mem_cons.mp hb with z | z
      · rw [z]; exact .inr hp
      · exact .inl z
    refine ⟨a, h1, ?_⟩
    have g : Grow H (upd H p o) := Grow.upd hp
    cases c with
    | lst ds => obtain ⟨vs, x, y⟩ := h3; exact ⟨vs, g _ _ x, RepL.evo g.evo _ _ y⟩
    | dic kvs => obtain ⟨vs, x, y⟩ := h3; exact ⟨vs, g _ _ x, RepP.evo g.evo _ _ y⟩
    | ins C fs => obtain ⟨dx, vs, x, z, n, y⟩ := h3; exact ⟨dx, vs, g _ _ x, g _ _ z, n, RepP.evo g.evo _ _ y⟩
mutual
theorem Rep.addm : ∀ {d : D} {v : V}, Rep ⟨K, p :: B⟩ H m d v → Rep ⟨K, B⟩ H (m ++ [p]) d v
  | .tup ds, _, h => by
    obtain ⟨a, vs, rfl, h1, h2⟩ := Rep.tup_iff.mp h
    refine Rep.tup_iff.mpr ⟨a, vs, rfl, ?_, RepL.addm h2⟩
    rcases h1 with ⟨h1, n, nb⟩ | h1
    · simp only [List.mem_cons, not_or] at nb
      exact .inl ⟨h1, by simp only [List.mem_append, List.mem_singleton, not_or]; exact ⟨n, nb.1⟩, nb.2⟩
    · exact .inr h1
  | .lst ds, _, h => by
    obtain ⟨a, vs, rfl, ⟨h1, n, nb⟩, h2⟩ := Rep.lst_iff.mp h
    simp only [List.mem_cons, not_or] at nb
    exact Rep.lst_iff.mpr ⟨a, vs, rfl, ⟨h1, by simp only [List.mem_append, List.mem_singleton, not_or]; exact ⟨n, nb.1⟩, nb.2⟩, RepL.addm h2⟩
  | .rol ds, _, h => by
    obtain ⟨a, vs, rfl, h1, h2⟩ := Rep.rol_iff.mp h
    refine Rep.rol_iff.mpr ⟨a, vs, rfl, ?_, RepL.addm h2⟩
    rcases h1 with ⟨⟨u, h1⟩, n, nb⟩ | h1
    · simp only [List.mem_cons, not_or] at nb
      exact .inl ⟨⟨u, h1⟩, by simp only [List.mem_append, List.mem_singleton, not_or]; exact ⟨n, nb.1⟩, nb.2⟩
    · exact .inr h1
  | .loc l, _, h => by
    obtain ⟨a, rfl, h1⟩ := Rep.loc_iff.mp h
    have hl : l < m.length := (List.getElem?_eq_some_iff.mp h1).1
    exact Rep.loc_iff.mpr ⟨a, rfl, by rw [List.getElem?_append_left hl]; exact h1⟩
  | .non, _, h => by unfold Rep at h ⊢; exact h
  | .bl _, _, h => by unfold Rep at h ⊢; exact h
  | .int _, _, h => by unfold Rep at h ⊢; exact h
  | .str _, _, h => by unfold Rep at h ⊢; exact h
  | .ty _, _, h => by unfold Rep at h ⊢; exact h
  | .ob _, _, h => by unfold Rep at h ⊢; exact h
theorem RepL.addm : ∀ {ds : List D} {vs : List V}, RepL ⟨K, p :: B⟩ H m ds vs → RepL ⟨K, B⟩ H (m ++ [p]) ds vs
  | [], _, h => by unfold RepL at h ⊢; exact h
  | d :: ds, _, h => by
    obtain ⟨v, r, rfl, h1, h2⟩ := h.inv_cons
    exact .cons (Rep.addm h1) (RepL.addm h2)
end
theorem RepP.addm {κ : Type} : ∀ {ds : List (κ × D)} {vs : List (κ × V)}, RepP ⟨K, p :: B⟩ H m ds vs → RepP ⟨K, B⟩ H (m ++ [p]) ds vs
  | [], _, h => h
  | (k, d) :: ds, _, ⟨v, r, q, h1, h2⟩ => ⟨v, r, q, Rep.addm h1, RepP.addm h2⟩
theorem RepSt.addm {st : Store} {ds : List D} {vs : List V} (rs : RepSt ⟨K, p :: B⟩ H m st) (hl : H p = some (.lst vs)) (hB : p ∉ B) (r : RepL ⟨K, p :: B⟩ H m ds vs) : RepSt ⟨K, B⟩ H (m ++ [p]) (st ++ [.lst ds]) := by
  obtain ⟨_, hn⟩ := rs.ban p (by simp)
  refine ⟨fun b hb => ?_, by simp [rs.len], List.nodup_append.mpr ⟨rs.nd, by simp, fun a ha b hb e => ?_⟩, fun l c q => ?_⟩
  · obtain ⟨x, n⟩ := rs.ban b (List.mem_cons_of_mem _ hb)
    refine ⟨x, ?_⟩
    simp only [List.mem_append, List.mem_singleton, not_or]
    exact ⟨n, fun z => hB (by rw [← z]; exact hb)⟩
  · simp at hb; subst hb; subst e; exact hn ha
  · by_cases hlt : l < st.length
    · rw [List.getElem?_append_left hlt] at q
      obtain ⟨a, h1, h2⟩ := rs.cell l c q
      refine ⟨a, by rw [List.getElem?_append_left (by rw [rs.len]; exact hlt)]; exact h1, ?_⟩
      cases c with
      | lst ds => obtain ⟨vs, x, y⟩ := h2; exact ⟨vs, x, y.addm⟩
      | dic kvs => obtain ⟨vs, x, y⟩ := h2; exact ⟨vs, x, y.addm⟩
      | ins C fs =>
        obtain ⟨dx, vs, x, z, n, y⟩ := h2
        refine ⟨dx, vs, x, z, ?_, y.addm⟩
        simp only [List.mem_append, List.mem_singleton, not_or]
        exact ⟨n, fun w => by rw [w, hl] at z; cases z⟩
    · have hl' : l = st.length := by
        have := (List.getElem?_eq_some_iff.mp q).1
        simp at this; omega
      subst hl'
      simp at q
      subst q
      exact ⟨p, by rw [← rs.len]; simp, vs, hl, r.addm⟩
end
theorem wipe_wipe (σ : Sg) : ∀ vs : List Nat, L2.wipe (L2.wipe σ vs) vs = L2.wipe σ vs
  | [] => rfl
  | v :: vs => by
    have ih := wipe_wipe σ vs
    have key : ∀ (τ : Sg) (us : List Nat), v ∉ us → L2.wipe (τ.set v none) us = (L2.wipe τ us).set v none := by
      intro τ us
      induction us with
      | nil => intro _; rfl
      | cons u us ih =>
        intro hn
        simp only [List.mem_cons, not_or] at hn
        unfold L2.wipe
        rw [ih hn.2, List.set_comm _ _ hn.1]
    show (L2.wipe ((L2.wipe σ vs).set v none) vs).set v none = (L2.wipe σ vs).set v none
    by_cases hv : v ∈ vs
    · rw [wipe_set hv, ih]
    · rw [key _ vs hv, ih, List.set_set]
section
variable {X : Cx} {W : WX} {pos : Pos} {elt tg iter : Expr} {ifs : List Expr} {scope : Scope} {own : List (Str × Nat)} {fi : Fi} {g : Fg} {is : List Nat} {ft : Ft} {fe : Fe}
/-- the reading of a comprehension, from its parts -/
theorem lc_run {wi : TI} {tgr : TG} {tt : TT} {te : TE} {vs : List Nat} (his : ∀ i ∈ is, i ∈ vs)
    (qi : ∀ (B : List Addr) (σ : Sg) (H : Hp) (ρ : DEnv) (st : Store) (m : List Addr) (R : It → Hp → Prop), RepE ⟨X.K, B⟩ H m ρ σ → RepSt ⟨X.K, B⟩ H m st → GoodI (fi ρ st) R (fun c d H' => W c d σ H') X.K B H m → wi σ H R)
    (qg : ∀ (B : List Addr) (v : V) (σ : Sg) (H : Hp) (ρ ρ' : DEnv) (m : List Addr) (d : D) (Q : Sg → Hp → Prop), RepE ⟨X.K, B⟩ H m ρ σ → Rep ⟨X.K, B⟩ H m d v → g d ρ = some ρ' →
      (∀ σ', RepE ⟨X.K, B⟩ H m ρ' σ' → (∀ vs, (∀ i ∈ is, i ∈ vs) → L2.wipe σ' vs = L2.wipe σ vs) → Q σ' H) → tgr v σ H Q)
    (qt : ∀ (B : List Addr) (σ : Sg) (H : Hp) (ρ : DEnv) (st : Store) (m : List Addr) (Q : Bool → Hp → Prop), RepE ⟨X.K, B⟩ H m ρ σ → RepSt ⟨X.K, B⟩ H m st → GoodR RB (ft ρ st) Q (fun c d H' => False) ⟨X.K, B⟩ H m → tt σ H Q)
    (qe : ∀ (B : List Addr) (σ : Sg) (H : Hp) (ρ : DEnv) (st : Store) (m : List Addr) (Q : VK), RepE ⟨X.K, B⟩ H m ρ σ → RepSt ⟨X.K, B⟩ H m st → GoodR (Rep ⟨X.K, B⟩) (fe ρ st) Q (fun c d H' => False) ⟨X.K, B⟩ H m → te σ H Q)
    (B : List Addr) (σ : Sg) (H : Hp) (ρ : DEnv) (st : Store) (m : List Addr) (Q : VK) (re : RepE ⟨X.K, B⟩ H m ρ σ) (rs : RepSt ⟨X.K, B⟩ H m st)
    (hexc : ∀ c fs s, xLcF fi g ft fe vs ρ st = .exc c fs s → ∀ dx H' m', Evo H m H' m' → RepX ⟨X.K, B⟩ H' m' fs dx → RepSt ⟨X.K, B⟩ H' m' s → W c dx σ H')
    (hok : ∃ ds s, xLcF fi g ft fe vs ρ st = .ok ds s ∨ ∃ c fs, xLcF fi g ft fe vs ρ st = .exc c fs s)
    (fin : ∀ ds s, xLcF fi g ft fe vs ρ st = .ok ds s → ∀ D H1 m1 H' m' ws, Evo H m H1 m1 → H1 D = none → D ∉ B → Evo H1 m1 H' m' → RepSt ⟨X.K, D :: B⟩ H' m' s → H' D = some (.lst ws) → RepL ⟨X.K, D :: B⟩ H' m' ds ws → Q (.ref D) H') :
    tLc wi tgr tt te vs σ H Q := by
  refine qi B σ H ρ st m _ re rs ?_
  unfold xLcF at hexc hok fin
  cases er : fi ρ st with
  | fail => rw [er] at hok; obtain ⟨ds, s, h | ⟨c, fs, h⟩⟩ := hok <;> cases h
  | exc c fs s => exact hexc c fs s (by rw [er]; rfl)
  | ok p s1 =>
    rw [er] at hok fin
    simp only [Res.bind_ok] at hok fin
    intro J H1 m1 e1 rs1 hit D hD
    by_cases hc : sameAt p.2 s1 s1 = true ∧ p.1.length ≤ sizeLine
    · rw [if_pos hc] at hok fin
      have hBn : ∀ b ∈ D :: B, b ∈ B ∨ H1 b = none := fun b hb => by
        rcases List.mem_cons.mp hb with z | z
        · rw [z]; exact .inr hD
        · exact .inl z
      have hDB : D ∉ B := rs1.freshB hD
      have re1 : RepE ⟨X.K, D :: B⟩ H1 m1 (wipeD ρ vs) (L2.wipe σ vs) := ((re.evo e1).ban hBn).wipe vs
      obtain ⟨ds0, s0, eq0⟩ : ∃ ds s, lcD g ft fe p.2 s1 (wipeD ρ vs) p.1 s1 = .ok ds s := by
        have key : ∀ (l : List DL.D) (s : Store) c fs t, lcD g ft fe p.2 s1 (wipeD ρ vs) l s ≠ .exc c fs t := by
          intro l
          induction l with
          | nil => intro s c fs t h; cases h
          | cons d l ih =>
            intro s c fs t h
            unfold lcD at h
            split at h
            · cases h
            · split at h
              · split at h
                · split at h
                  · rename_i x s3 _ _
                    cases q : lcD g ft fe p.2 s1 (wipeD ρ vs) l s3 with
                    | ok a b => rw [q] at h; cases h
                    | exc c' f' t' => exact ih _ _ _ _ q
                    | fail => rw [q] at h; cases h
                  · cases h
                · cases h
              · split at h
                · exact ih _ _ _ _ h
                · cases h
              · cases h
        obtain ⟨ds, s, h | ⟨c, fs, h⟩⟩ := hok
        · exact ⟨ds, s, h⟩
        · exact absurd h (key _ _ _ _ _)
      have fin := fin ds0 s0 eq0 D H1 m1
      refine ⟨fun i k H' => k = p.1.length - i ∧ i ≤ p.1.length ∧ ∃ st' m' acc vacc, Evo H1 m1 H' m' ∧ RepSt ⟨X.K, D :: B⟩ H' m' st' ∧ sameAt p.2 s1 st' = true ∧ H' D = some (.lst vacc) ∧ RepL ⟨X.K, D :: B⟩ H' m' acc vacc ∧ acc.length ≤ i ∧
        ∃ r, lcD g ft fe p.2 s1 (wipeD ρ vs) (p.1.drop i) st' = .ok r s0 ∧ acc ++ r = ds0,
        ⟨p.1.length, by simp, Nat.zero_le _, s1, m1, [], [], (Grow.upd hD).evo, rs1.banB hD, hc.1, upd_same, .nil, Nat.le_refl _, ds0, eq0, rfl⟩, ?_⟩
      rintro i k H' ⟨rfl, hi, st', m', acc, vacc, ev, rs', hw', hDl, ra, hal, r, hr, hds⟩
      by_cases hlt : i < p.1.length
      · refine .inr ⟨hit.goes (D :: B) i H' m' st' hBn hlt ev rs' hw', fun H2 => i + 1 ≤ p.1.length ∧ ∃ st' m' acc vacc, Evo H1 m1 H2 m' ∧ RepSt ⟨X.K, D :: B⟩ H2 m' st' ∧ sameAt p.2 s1 st' = true ∧ H2 D = some (.lst vacc) ∧ RepL ⟨X.K, D :: B⟩ H2 m' acc vacc ∧ acc.length ≤ i + 1 ∧
          ∃ r, lcD g ft fe p.2 s1 (wipeD ρ vs) (p.1.drop (i + 1)) st' = .ok r s0 ∧ acc ++ r = ds0,
          fun H2 hN => ⟨p.1.length - (i + 1), by omega, rfl, hN⟩, fun x H2 y => ?_⟩
        have hd : p.1[i]? = some p.1[i] := by simp [hlt]
        obtain ⟨gr, rx⟩ := hit.yields (D :: B) i _ H' m' st' x H2 hBn hd ev rs' hw' y
        have ec : p.1.drop i = p.1[i] :: p.1.drop (i + 1) := List.drop_eq_getElem_cons hlt
        rw [ec] at hr
        unfold lcD at hr
        cases hg : g p.1[i] (wipeD ρ vs) with
        | none => rw [hg] at hr; cases hr
        | some ρ1 =>
          rw [hg] at hr
          simp only at hr
          refine qg (D :: B) x _ H2 _ ρ1 m' _ _ (re1.evo (ev.trans gr.evo)) rx hg fun σ3 re3 hw3 => ⟨by rw [hw3 vs his, wipe_wipe], ?_⟩
          have nD : D ∉ m' := (rs'.ban D (by simp)).2
          refine qt (D :: B) σ3 H2 ρ1 st' m' _ re3 (rs'.grow gr) ?_
          cases et : ft ρ1 st' with
          | fail => rw [et] at hr; cases hr
          | exc c fs t => rw [et] at hr; cases hr
          | ok b s2 =>
            rw [et] at hr
            intro b' H3 m3 e3 eb rs3
            cases (show b' = b from eb)
            have keepD : ∀ {H4 : Hp} {m4 : List Addr}, Evo H2 m' H4 m4 → H4 D = some (.lst vacc) ∧ D ∉ m4 := fun {H4 m4} e => e.keep D _ (gr _ _ hDl) nD
            have evo2 : Evo H1 m1 H2 m' := ev.trans gr.evo
            cases b with
            | false =>
              rw [if_neg Bool.false_ne_true]
              simp only at hr
              split at hr
              · rename_i hw4
                exact ⟨hlt, s2, m3, acc, vacc, evo2.trans e3, rs3, hw4, (keepD e3).1, RepL.evo (gr.evo.trans e3) _ _ ra, Nat.le_succ_of_le hal, r, hr, hds⟩
              · cases hr
            | true =>
              rw [if_pos rfl]
              simp only at hr
              refine qe (D :: B) σ3 H3 ρ1 s2 m3 _ (re3.evo e3) rs3 ?_
              cases ee : fe ρ1 s2 with
              | fail => rw [ee] at hr; cases hr
              | exc c fs t => rw [ee] at hr; cases hr
              | ok xd s3 =>
                rw [ee] at hr
                simp only at hr
                intro yv H4 m4 e4 ry rs4
                obtain ⟨h4D, n4⟩ := keepD (e3.trans e4)
                refine ⟨vacc, h4D, ?_, ?_⟩
                · have := ra.length
                  have := hc.2
                  omega
                · split at hr
                  · rename_i hw4
                    obtain ⟨r', s4, hr', e5⟩ := Res.bind_eq_ok hr
                    injection e5 with e5 e6
                    subst e5 e6
                    have ev4 : Evo H1 m1 H4 m4 := evo2.trans (e3.trans e4)
                    refine ⟨hlt, s3, m4, acc ++ [xd], vacc ++ [yv], ⟨ev4.ext, fun a o q n => ?_⟩, rs4.updB (by simp) h4D, hw4, upd_same, ?_, ?_, r', hr', by rw [List.append_assoc]; exact hds⟩
                    · obtain ⟨q1, q2⟩ := ev4.keep a o q n
                      exact ⟨by rw [upd_ne (fun z => by rw [z, hD] at q; cases q)]; exact q1, q2⟩
                    · exact (RepL.append (RepL.evo (gr.evo.trans (e3.trans e4)) _ _ ra) (.cons ry .nil)).updB (by simp)
                    · rw [List.length_append, List.length_singleton]; omega
                  · cases hr
      · have e : i = p.1.length := by omega
        subst e
        refine .inl ⟨hit.stops (D :: B) H' m' st' hBn ev rs' hw', ?_⟩
        rw [List.drop_length] at hr
        have hr : Res.ok [] st' = Res.ok r s0 := hr
        injection hr with q1 q2
        subst q1 q2
        rw [List.append_nil] at hds
        subst hds
        exact fin H' m' vacc e1 hD hDB ev rs' hDl ra
    · rw [if_neg hc] at hok
      obtain ⟨ds, s, h | ⟨c, fs, h⟩⟩ := hok <;> cases h
end
end DL
namespace DL
open PySem PySem.Spec PyProof.Rows L2
def tOf (K : PySem.W.Frag) (W : WX) (f : Fe) : TE := fun σ H Q => ∃ (B : List Addr) (ρ : DEnv) (st : Store) (m : List Addr), RepE ⟨K, B⟩ H m ρ σ ∧ RepSt ⟨K, B⟩ H m st ∧ GoodR (Rep ⟨K, B⟩) (f ρ st) Q (fun c d H' => W c d σ H') ⟨K, B⟩ H m
def ttOf (K : PySem.W.Frag) (W : WX) (f : Ft) : TT := fun σ H Q => ∃ (B : List Addr) (ρ : DEnv) (st : Store) (m : List Addr), RepE ⟨K, B⟩ H m ρ σ ∧ RepSt ⟨K, B⟩ H m st ∧ GoodR RB (f ρ st) Q (fun c d H' => W c d σ H') ⟨K, B⟩ H m
def tgOf (K : PySem.W.Frag) (is : List Nat) (g : Fg) : TG := fun v σ H Q => ∃ (B : List Addr) (ρ ρ' : DEnv) (m : List Addr) (d : D), RepE ⟨K, B⟩ H m ρ σ ∧ Rep ⟨K, B⟩ H m d v ∧ g d ρ = some ρ' ∧
  ∀ σ', RepE ⟨K, B⟩ H m ρ' σ' → (∀ vs, (∀ i ∈ is, i ∈ vs) → L2.wipe σ' vs = L2.wipe σ vs) → Q σ' H
theorem DE.pe {X : Cx} {W : WX} {e : Expr} {f : Fe} (h : DE X W e f) : PE X e (tOf X.K W f) := by
  obtain ⟨t, p, q⟩ := h
  exact ⟨fun pins s σ H Q I ⟨B, ρ, st, m, re, rs, g⟩ => p.run pins s σ H Q I (q B σ H ρ st m Q re rs g)⟩
theorem DTs.pts {X : Cx} {W : WX} {e : List Expr} {f : Ft} (h : DTs X W e f) : PTs X e (ttOf X.K W f) := by
  obtain ⟨t, p, q⟩ := h
  exact ⟨fun pins s σ H Q I ⟨B, ρ, st, m, re, rs, g⟩ => p.run pins s σ H Q I (q B σ H ρ st m Q re rs g)⟩
theorem DG.pg {X : Cx} {tg : Expr} {is : List Nat} {g : Fg} (h : DG X tg is g) : PG X tg (tgOf X.K is g) := by
  obtain ⟨t, p, q⟩ := h
  exact ⟨fun pins s σ H v u Q I r ⟨B, ρ, ρ', m, d, re, rd, hg, hq⟩ => p.run pins s σ H v u Q I r (q B v σ H ρ ρ' m d Q re rd hg hq)⟩
section
variable {X : Cx} {W : WX} {pos : Pos} {elt tg iter : Expr} {ifs : List Expr} {scope : Scope} {own : List (Str × Nat)} {fi : Fi} {g : Fg} {is : List Nat} {ft : Ft} {fe : Fe}
theorem own_mem {is : List Nat} {vs : List Nat} (h : (is.all fun i => vs.contains i) = true) : ∀ i ∈ is, i ∈ vs := fun i hi => by
  have := List.all_eq_true.mp h i hi
  simpa using this
/-- the block's context -/
abbrev Blk (X : Cx) (scope : Scope) (P : Cx → Prop) : Prop := ∀ (s : Shared) (H : Hp) (C : Addr) (cl : List (Str × Addr)) (fp : List Addr), XOk (X.blk s H scope (compEnvC scope cl C X.env) fp) WF → P (X.blk s H scope (compEnvC scope cl C X.env) fp)
theorem xblk (hx : XOk X W) (s : Shared) (H : Hp) (C : Addr) (cl : List (Str × Addr)) (fp : List Addr) : XOk (X.blk s H scope (compEnvC scope cl C X.env) fp) WF := ⟨hx.calm, hx.nd, L2.takes0, hx.gd⟩
theorem evo_fin {K : PySem.W.Frag} {B : List Addr} {H H1 H' : Hp} {m m1 m' : List Addr} {D' : Addr} {ws : List V} {ds : List D} {s : Store} (e1 : Evo H m H1 m1) (hD : H1 D' = none) (hB : D' ∉ B) (e2 : Evo H1 m1 H' m') (rs : RepSt ⟨K, D' :: B⟩ H' m' s) (hl : H' D' = some (.lst ws)) (r : RepL ⟨K, D' :: B⟩ H' m' ds ws) :
    Evo H m H' m' ∧ Rep ⟨K, B⟩ H' m' (.lst ds) (.ref D') ∧ RepSt ⟨K, B⟩ H' m' s :=
  ⟨e1.trans e2, Rep.lst_iff.mpr ⟨D', ws, rfl, ⟨hl, (rs.ban D' (by simp)).2, hB⟩, r.ban fun b hb => .inl (List.mem_cons_of_mem _ hb)⟩, rs.weakB⟩
theorem evo_finN {K : PySem.W.Frag} {B : List Addr} {H H1 H' : Hp} {m m1 m' : List Addr} {D' : Addr} {ws : List V} {ds : List D} {s : Store} (e1 : Evo H m H1 m1) (hD : H1 D' = none) (hB : D' ∉ B) (e2 : Evo H1 m1 H' m') (rs : RepSt ⟨K, D' :: B⟩ H' m' s) (hl : H' D' = some (.lst ws)) (r : RepL ⟨K, D' :: B⟩ H' m' ds ws) :
    Evo H m H' (m' ++ [D']) ∧ Rep ⟨K, B⟩ H' (m' ++ [D']) (.loc s.length) (.ref D') ∧ RepSt ⟨K, B⟩ H' (m' ++ [D']) (s ++ [.lst ds]) := by
  refine ⟨⟨?_, fun a o q n => ?_⟩, Rep.loc_iff.mpr ⟨D', rfl, by rw [← rs.len]; simp⟩, rs.addm hl hB r⟩
  · obtain ⟨x, hx⟩ := (e1.trans e2).ext
    exact ⟨x ++ [D'], by rw [hx, List.append_assoc]⟩
  · obtain ⟨q1, n1⟩ := e1.keep a o q n
    obtain ⟨q2, n2⟩ := e2.keep a o q1 n1
    refine ⟨q2, ?_⟩
    simp only [List.mem_append, List.mem_singleton, not_or]
    exact ⟨n2, fun z => by rw [z, hD] at q1; cases q1⟩
theorem lc_all (hx : XOk X W) (hi : DI X W tg iter fi) 
    (hg : Blk X scope fun Y => DG Y tg is g) (ht : Blk X scope fun Y => DTs Y WF ifs ft) (he : Blk X scope fun Y => DE Y WF elt fe) (his : (is.all fun i => (own.map (·.2)).contains i) = true) :
    ∃ wi, PI X tg iter wi ∧ (∀ (s : Shared) (H : Hp) (C : Addr) (cl : List (Str × Addr)) (fp : List Addr), PG (X.blk s H scope (compEnvC scope cl C X.env) fp) tg (tgOf X.K is g)) ∧
      (∀ (s : Shared) (H : Hp) (C : Addr) (cl : List (Str × Addr)) (fp : List Addr), PTs (X.blk s H scope (compEnvC scope cl C X.env) fp) ifs (ttOf X.K WF ft)) ∧
      (∀ (s : Shared) (H : Hp) (C : Addr) (cl : List (Str × Addr)) (fp : List Addr), PE (X.blk s H scope (compEnvC scope cl C X.env) fp) elt (tOf X.K WF fe)) ∧
      ∀ (B : List Addr) (σ : Sg) (H : Hp) (ρ : DEnv) (st : Store) (m : List Addr) (Q : VK), RepE ⟨X.K, B⟩ H m ρ σ → RepSt ⟨X.K, B⟩ H m st →
        (∀ c fs s, xLcF fi g ft fe (own.map (·.2)) ρ st = .exc c fs s → ∀ dx H' m', Evo H m H' m' → RepX ⟨X.K, B⟩ H' m' fs dx → RepSt ⟨X.K, B⟩ H' m' s → W c dx σ H') →
        (∃ ds s, xLcF fi g ft fe (own.map (·.2)) ρ st = .ok ds s ∨ ∃ c fs, xLcF fi g ft fe (own.map (·.2)) ρ st = .exc c fs s) →
        (∀ ds s, xLcF fi g ft fe (own.map (·.2)) ρ st = .ok ds s → ∀ D H1 m1 H' m' ws, Evo H m H1 m1 → H1 D = none → D ∉ B → Evo H1 m1 H' m' → RepSt ⟨X.K, D :: B⟩ H' m' s → H' D = some (.lst ws) → RepL ⟨X.K, D :: B⟩ H' m' ds ws → Q (.ref D) H') →
        tLc wi (tgOf X.K is g) (ttOf X.K WF ft) (tOf X.K WF fe) (own.map (·.2)) σ H Q := by
  obtain ⟨wi, pi, qi⟩ := hi
  refine ⟨wi, pi, fun s H C cl fp => (hg s H C cl fp (xblk hx s H C cl fp)).pg, fun s H C cl fp => (ht s H C cl fp (xblk hx s H C cl fp)).pts, fun s H C cl fp => (he s H C cl fp (xblk hx s H C cl fp)).pe, fun B σ H ρ st m Q re rs h1 h2 h3 => ?_⟩
  exact lc_run (own_mem his) qi (fun B v σ H ρ ρ' m d Q re r hg hq => ⟨B, ρ, ρ', m, d, re, r, hg, hq⟩) (fun B σ H ρ st m Q re rs g => ⟨B, ρ, st, m, re, rs, g⟩) (fun B σ H ρ st m Q re rs g => ⟨B, ρ, st, m, re, rs, g⟩) B σ H ρ st m Q re rs h1 h2 h3
theorem de_lc (hx : XOk X W) (hi : DI X W tg iter fi) (ok : BlkOk X.N X.env.scope scope own)
    (hg : Blk X scope fun Y => DG Y tg is g) (ht : Blk X scope fun Y => DTs Y WF ifs ft) (he : Blk X scope fun Y => DE Y WF elt fe) (his : (is.all fun i => (own.map (·.2)).contains i) = true := by rfl) (hs : ∀ x, foldedSetIterable iter X.env x = pure x := by intro _; rfl) :
    DE X W (.ListComp elt [⟨tg, iter, ifs, 0⟩] scope pos) (xLc fi g ft fe (own.map (·.2))) := by
  obtain ⟨wi, pi, pg, pt, pe, q⟩ := lc_all hx hi hg ht he his
  refine ⟨_, pe_lc hx.calm hx.nd pi ok pg pt pe hs, fun B σ H ρ st m Q re rs h => ?_⟩
  unfold xLc at h
  cases er : xLcF fi g ft fe (own.map (·.2)) ρ st with
  | fail => rw [er] at h; exact h.elim
  | exc c fs s => rw [er] at h; exact q B σ H ρ st m Q re rs (fun c' fs' s' e => by rw [er] at e; cases e; exact h) ⟨[], s, .inr ⟨c, fs, er⟩⟩ (fun ds s e => by rw [er] at e; cases e)
  | ok ds s =>
    rw [er] at h
    refine q B σ H ρ st m Q re rs (fun c' fs' s' e => by rw [er] at e; cases e) ⟨ds, s, .inl er⟩ fun ds' s' e D' H1 m1 H' m' ws e1 hD hB e2 rs' hl r => ?_
    rw [er] at e
    injection e with e3 e4
    subst e3 e4
    obtain ⟨a1, a2, a3⟩ := evo_fin e1 hD hB e2 rs' hl r
    exact h _ H' m' a1 a2 a3
theorem de_lcN (hx : XOk X W) (hi : DI X W tg iter fi) (ok : BlkOk X.N X.env.scope scope own)
    (hg : Blk X scope fun Y => DG Y tg is g) (ht : Blk X scope fun Y => DTs Y WF ifs ft) (he : Blk X scope fun Y => DE Y WF elt fe) (his : (is.all fun i => (own.map (·.2)).contains i) = true := by rfl) (hs : ∀ x, foldedSetIterable iter X.env x = pure x := by intro _; rfl) :
    DE X W (.ListComp elt [⟨tg, iter, ifs, 0⟩] scope pos) (xLcN fi g ft fe (own.map (·.2))) := by
  obtain ⟨wi, pi, pg, pt, pe, q⟩ := lc_all hx hi hg ht he his
  refine ⟨_, pe_lc hx.calm hx.nd pi ok pg pt pe hs, fun B σ H ρ st m Q re rs h => ?_⟩
  unfold xLcN at h
  cases er : xLcF fi g ft fe (own.map (·.2)) ρ st with
  | fail => rw [er] at h; exact h.elim
  | exc c fs s => rw [er] at h; exact q B σ H ρ st m Q re rs (fun c' fs' s' e => by rw [er] at e; cases e; exact h) ⟨[], s, .inr ⟨c, fs, er⟩⟩ (fun ds s e => by rw [er] at e; cases e)
  | ok ds s =>
    rw [er] at h
    refine q B σ H ρ st m Q re rs (fun c' fs' s' e => by rw [er] at e; cases e) ⟨ds, s, .inl er⟩ fun ds' s' e D' H1 m1 H' m' ws e1 hD hB e2 rs' hl r => ?_
    rw [er] at e
    injection e with e3 e4
    subst e3 e4
    obtain ⟨a1, a2, a3⟩ := evo_finN e1 hD hB e2 rs' hl r
    exact h _ H' _ a1 a2 a3
/-- name = [..] on one line -/
theorem ds_setLc {i : Nat} {y : Str} {py spos : Pos} (hx : XOk X W) (hi : DI X W tg iter fi) (ok : BlkOk X.N X.env.scope scope own)
    (hg : Blk X scope fun Y => DG Y tg is g) (ht : Blk X scope fun Y => DTs Y WF ifs ft) (he : Blk X scope fun Y => DE Y WF elt fe) (hy : X.N[i]? = some y := by rfl) (hyl : X.env.scope.names.lookup y = some .local := by rfl)
    (hsw : swapsWith (.ListComp elt [⟨tg, iter, ifs, 0⟩] scope pos) (some (.Name y py)) spos.line X.env = pure true := by exact sw_true rfl rfl rfl (by decide +kernel))
    (his : (is.all fun i => (own.map (·.2)).contains i) = true := by rfl) (hs : ∀ x, foldedSetIterable iter X.env x = pure x := by intro _; rfl) :
    DS X W (.Assign [.Name y py] (.ListComp elt [⟨tg, iter, ifs, 0⟩] scope pos) spos) (sSet i (xLc fi g ft fe (own.map (·.2)))) := by
  obtain ⟨wi, pi, pg, pt, pe, q⟩ := lc_all hx hi hg ht he his
  refine ⟨_, ps_setLc hx.calm hx.nd hy hyl hsw pi ok pg pt pe hs, fun B σ H ρ st m En re rs h => ?_⟩
  show tLc wi _ _ _ _ σ H fun x H1 => gName i x σ H1 En.nx
  unfold sSet xLc at h
  cases er : xLcF fi g ft fe (own.map (·.2)) ρ st with
  | fail => rw [er] at h; exact h.elim
  | exc c fs s => rw [er] at h; exact q B σ H ρ st m _ re rs (fun c' fs' s' e => by rw [er] at e; cases e; exact fun dx H' m' e1 rx rs' => h σ dx H' m' e1 (re.evo e1) rx rs') ⟨[], s, .inr ⟨c, fs, er⟩⟩ (fun ds s e => by rw [er] at e; cases e)
  | ok ds s =>
    rw [er] at h
    refine q B σ H ρ st m _ re rs (fun c' fs' s' e => by rw [er] at e; cases e) ⟨ds, s, .inl er⟩ fun ds' s' e D' H1 m1 H' m' ws e1 hD hB e2 rs' hl r => ?_
    rw [er] at e
    injection e with e3 e4
    subst e3 e4
    obtain ⟨a1, a2, a3⟩ := evo_fin e1 hD hB e2 rs' hl r
    exact h _ H' m' a1 ((re.evo a1).set i a2) a3
theorem ds_setLcN {i : Nat} {y : Str} {py spos : Pos} (hx : XOk X W) (hi : DI X W tg iter fi) (ok : BlkOk X.N X.env.scope scope own)
    (hg : Blk X scope fun Y => DG Y tg is g) (ht : Blk X scope fun Y => DTs Y WF ifs ft) (he : Blk X scope fun Y => DE Y WF elt fe) (hy : X.N[i]? = some y := by rfl) (hyl : X.env.scope.names.lookup y = some .local := by rfl)
    (hsw : swapsWith (.ListComp elt [⟨tg, iter, ifs, 0⟩] scope pos) (some (.Name y py)) spos.line X.env = pure true := by exact sw_true rfl rfl rfl (by decide +kernel))
    (his : (is.all fun i => (own.map (·.2)).contains i) = true := by rfl) (hs : ∀ x, foldedSetIterable iter X.env x = pure x := by intro _; rfl) :
    DS X W (.Assign [.Name y py] (.ListComp elt [⟨tg, iter, ifs, 0⟩] scope pos) spos) (sSet i (xLcN fi g ft fe (own.map (·.2)))) := by
  obtain ⟨wi, pi, pg, pt, pe, q⟩ := lc_all hx hi hg ht he his
  refine ⟨_, ps_setLc hx.calm hx.nd hy hyl hsw pi ok pg pt pe hs, fun B σ H ρ st m En re rs h => ?_⟩
  show tLc wi _ _ _ _ σ H fun x H1 => gName i x σ H1 En.nx
  unfold sSet xLcN at h
  cases er : xLcF fi g ft fe (own.map (·.2)) ρ st with
  | fail => rw [er] at h; exact h.elim
  | exc c fs s => rw [er] at h; exact q B σ H ρ st m _ re rs (fun c' fs' s' e => by rw [er] at e; cases e; exact fun dx H' m' e1 rx rs' => h σ dx H' m' e1 (re.evo e1) rx rs') ⟨[], s, .inr ⟨c, fs, er⟩⟩ (fun ds s e => by rw [er] at e; cases e)
  | ok ds s =>
    rw [er] at h
    refine q B σ H ρ st m _ re rs (fun c' fs' s' e => by rw [er] at e; cases e) ⟨ds, s, .inl er⟩ fun ds' s' e D' H1 m1 H' m' ws e1 hD hB e2 rs' hl r => ?_
    rw [er] at e
    injection e with e3 e4
    subst e3 e4
    obtain ⟨a1, a2, a3⟩ := evo_finN e1 hD hB e2 rs' hl r
    exact h _ H' _ a1 ((re.evo a1).set i a2) a3
end
end DL
namespace DL
open PySem PySem.Spec PyProof.Rows L2
mutual
def toPy : D → Option PyData
  | .non => some .none
  | .bl b => some (.bool b)
  | .int i => some (.int i)
  | .str x => some (.str x)
  | .tup ds => (toPyL ds).map .tuple
  | .lst ds => (toPyL ds).map .list
  | .rol ds => (toPyL ds).map .list
  | _ => none
def toPyL : List D → Option (List PyData)
  | [] => some []
  | d :: ds => (toPy d).bind fun p => (toPyL ds).map fun ps => p :: ps
end
def toPyT (st : Store) (d : D) : Option PyData := match d with
  | .loc l => match st[l]? with
    | some (.lst ds) => (toPyL ds).map .list
    | _ => none
  | d => toPy d
section
variable {K : PySem.W.Frag} {B : List Addr} {H : Hp} {m : List Addr}
mutual
theorem toPy_dp : ∀ {d : D} {v : V} {p : PyData}, Rep ⟨K, B⟩ H m d v → toPy d = some p → Dp K H v p
  | .non, _, _, r, h => by cases Rep.non_iff.mp r; cases h; exact .non
  | .bl b, _, _, r, h => by cases Rep.bl_iff.mp r; cases h; exact .bl b
  | .int i, _, _, r, h => by cases Rep.int_iff.mp r; cases h; exact .int i
  | .str x, _, _, r, h => by cases Rep.str_iff.mp r; cases h; exact .str x
  | .tup ds, _, _, r, h => by
    obtain ⟨a, vs, rfl, h1, h2⟩ := r.tup_sq
    simp only [toPy] at h
    obtain ⟨ps, q, rfl⟩ := Option.map_eq_some_iff.mp h
    exact .tup h1 (toPyL_dp h2 q)
  | .lst ds, _, _, r, h => by
    obtain ⟨a, vs, rfl, h1, h2⟩ := r.lst_sq
    simp only [toPy] at h
    obtain ⟨ps, q, rfl⟩ := Option.map_eq_some_iff.mp h
    exact .lst h1 (toPyL_dp h2 q)
  | .rol ds, _, _, r, h => by
    obtain ⟨a, vs, rfl, h1, h2⟩ := r.rol_sq
    simp only [toPy] at h
    obtain ⟨ps, q, rfl⟩ := Option.map_eq_some_iff.mp h
    exact .lst h1 (toPyL_dp h2 q)
  | .loc _, _, _, _, h => by simp [toPy] at h
  | .ty _, _, _, _, h => by simp [toPy] at h
  | .ob _, _, _, _, h => by simp [toPy] at h
theorem toPyL_dp : ∀ {ds : List D} {vs : List V} {ps : List PyData}, RepL ⟨K, B⟩ H m ds vs → toPyL ds = some ps → DpAll K H vs ps
  | [], _, _, r, h => by
    rw [r.inv_nil]
    simp only [toPyL] at h
    cases h; exact .nil
  | d :: ds, _, _, r, h => by
    obtain ⟨v, vr, rfl, r1, r2⟩ := r.inv_cons
    simp only [toPyL] at h
    obtain ⟨p, h1, h⟩ := Option.bind_eq_some_iff.mp h
    obtain ⟨ps, h2, rfl⟩ := Option.map_eq_some_iff.mp h
    exact .cons (toPy_dp r1 h1) (toPyL_dp r2 h2)
end
theorem toPyT_dp {st : Store} {d : D} {v : V} {p : PyData} (rs : RepSt ⟨K, B⟩ H m st) (r : Rep ⟨K, B⟩ H m d v) (h : toPyT st d = some p) : Dp K H v p := by
  cases d with
  | loc l =>
    simp only [toPyT] at h
    cases q : st[l]? with
    | none => rw [q] at h; cases h
    | some c =>
      rw [q] at h
      cases c with
      | lst ds =>
        obtain ⟨ps, q2, rfl⟩ := Option.map_eq_some_iff.mp h
        obtain ⟨a, vs, rfl, hm, hH, rl⟩ := loc_lst rs r q
        exact .lst (.of hH) (toPyL_dp rl q2)
      | dic _ => cases h
      | ins _ _ => cases h
  | _ => exact toPy_dp r h
end
/-- what may be looked at as data of moderate form -/
def pyOf (st : Store) (d : D) : Option PyData := (toPyT st d).bind fun p => if SeqAt.shaped p = true then some p else none
def gEq : G2 := fun st a b => match a, b with
  | .str x, .str y => some (.bl (decide (x = y)))
  | a, b => (pyOf st a).bind fun p => (pyOf st b).map fun q => .bl (PyData.eqv p q)
def gNe : G2 := fun st a b => match a, b with
  | .str x, .str y => some (.bl (!decide (x = y)))
  | a, b => (pyOf st a).bind fun p => (pyOf st b).map fun q => .bl (!PyData.eqv p q)
theorem pyOf_dp {K : PySem.W.Frag} {B : List Addr} {H : Hp} {m : List Addr} {st : Store} {d : D} {v : V} {p : PyData} (rs : RepSt ⟨K, B⟩ H m st) (r : Rep ⟨K, B⟩ H m d v) (h : pyOf st d = some p) : Dp K H v p ∧ SeqAt.shaped p = true := by
  obtain ⟨q, h1, h2⟩ := Option.bind_eq_some_iff.mp h
  split at h2
  · rename_i hs; cases h2; exact ⟨toPyT_dp rs r h1, hs⟩
  · cases h2
section
variable {X : Cx}
theorem dec_strV (x y : Str) : decide (V.str x = V.str y) = decide (x = y) := by
  by_cases h : x = y
  · subst h; simp
  · rw [decide_eq_false h, decide_eq_false fun e => h (by injection e)]
theorem dop_eq (hu : X.A.units + 64 < cLine) : DOp X (compareOp .Eq) gEq :=
  ⟨_, op_eq.or (op_eqD hu), fun B x y H m st da db d Q rs ra rb h q => by
    unfold gEq at h
    split at h
    · cases h
      cases Rep.str_iff.mp ra
      cases Rep.str_iff.mp rb
      exact .inl ⟨rfl, q _ H Grow.refl (Rep.bl_iff.mpr (by rw [dec_strV]))⟩
    · obtain ⟨p1, h1, h⟩ := Option.bind_eq_some_iff.mp h
      obtain ⟨p2, h2, rfl⟩ := Option.map_eq_some_iff.mp h
      obtain ⟨a1, a2⟩ := pyOf_dp rs ra h1
      obtain ⟨b1, b2⟩ := pyOf_dp rs rb h2
      exact .inr ⟨p1, p2, a1, b1, a2, b2, q _ H Grow.refl (Rep.bl_iff.mpr rfl)⟩⟩
theorem dop_ne (hu : X.A.units + 64 < cLine) : DOp X (compareOp .NotEq) gNe :=
  ⟨_, op_ne.or (op_neD hu), fun B x y H m st da db d Q rs ra rb h q => by
    unfold gNe at h
    split at h
    · cases h
      cases Rep.str_iff.mp ra
      cases Rep.str_iff.mp rb
      exact .inl ⟨rfl, q _ H Grow.refl (Rep.bl_iff.mpr (by rw [dec_strV]))⟩
    · obtain ⟨p1, h1, h⟩ := Option.bind_eq_some_iff.mp h
      obtain ⟨p2, h2, rfl⟩ := Option.map_eq_some_iff.mp h
      obtain ⟨a1, a2⟩ := pyOf_dp rs ra h1
      obtain ⟨b1, b2⟩ := pyOf_dp rs rb h2
      exact .inr ⟨p1, p2, a1, b1, a2, b2, q _ H Grow.refl (Rep.bl_iff.mpr rfl)⟩⟩
def gII (c : Int → Int → Bool) (f : Int → Int → D) : G2 := fun _ a b => match a, b with
  | .int i, .int j => if c i j = true then some (f i j) else none
  | _, _ => none
theorem gII_inv {c : Int → Int → Bool} {f : Int → Int → D} {st : Store} {a b d : D} (h : gII c f st a b = some d) : ∃ i j, a = .int i ∧ b = .int j ∧ c i j = true ∧ d = f i j := by
  cases a with
  | int i =>
    cases b with
    | int j =>
      simp only [gII] at h
      split at h
      · rename_i hc; cases h; exact ⟨i, j, rfl, rfl, hc, rfl⟩
      · cases h
    | _ => simp [gII] at h
  | _ => simp [gII] at h
theorem dop_rI {F : Value → Value → Sem Value} {C : Int → Int → Prop} {g : Int → Int → V} {c : Int → Int → Bool} {f : Int → Int → D} (ho : OpR X F (rI C g)) (hc : ∀ i j, c i j = true → C i j) (hf : ∀ K H m i j, Rep K H m (f i j) (g i j)) : DOp X F (gII c f) :=
  ⟨_, ho, fun B x y H m st da db d Q rs ra rb h q => by
    obtain ⟨i, j, rfl, rfl, h1, rfl⟩ := gII_inv h
    exact ⟨i, j, Rep.int_iff.mp ra, Rep.int_iff.mp rb, hc i j h1, q _ H Grow.refl (hf _ H m i j)⟩⟩
theorem dop_rI0 {F : Value → Value → Sem Value} {g : Int → Int → V} {f : Int → Int → D} (ho : OpR X F (rI0 g)) (hf : ∀ K H m i j, Rep K H m (f i j) (g i j)) : DOp X F (gII (fun _ _ => true) f) :=
  ⟨_, ho, fun B x y H m st da db d Q rs ra rb h q => by
    obtain ⟨i, j, rfl, rfl, h1, rfl⟩ := gII_inv h
    exact ⟨i, j, Rep.int_iff.mp ra, Rep.int_iff.mp rb, q _ H Grow.refl (hf _ H m i j)⟩⟩
abbrev gSub : G2 := gII (fun _ _ => true) fun i j => .int (i - j)
theorem dop_sub : DOp X (binaryOp .Sub) gSub := dop_rI0 op_sub fun _ _ _ _ _ => Rep.int_iff.mpr rfl
abbrev gLt : G2 := gII (fun _ _ => true) fun i j => .bl (decide (i < j))
theorem dop_lt : DOp X (compareOp .Lt) gLt := dop_rI0 op_lt fun _ _ _ _ _ => Rep.bl_iff.mpr rfl
abbrev gLe : G2 := gII (fun _ _ => true) fun i j => .bl (decide (i ≤ j))
theorem dop_le : DOp X (compareOp .LtE) gLe := dop_rI0 op_le fun _ _ _ _ _ => Rep.bl_iff.mpr rfl
abbrev gGt : G2 := gII (fun _ _ => true) fun i j => .bl (decide (j < i))
theorem dop_gt : DOp X (compareOp .Gt) gGt := dop_rI0 op_gt fun _ _ _ _ _ => Rep.bl_iff.mpr rfl
abbrev gGe : G2 := gII (fun _ _ => true) fun i j => .bl (decide (j ≤ i))
theorem dop_ge : DOp X (compareOp .GtE) gGe := dop_rI0 op_ge fun _ _ _ _ _ => Rep.bl_iff.mpr rfl
/-- any divisor but nought -/
abbrev gMod : G2 := gII (fun _ j => decide (j ≠ 0)) fun i j => .int (i.fmod j)
theorem dop_mod : DOp X (binaryOp .Mod) gMod := dop_rI op_modN (fun _ _ h => of_decide_eq_true h) fun _ _ _ _ _ => Rep.int_iff.mpr rfl
def CDivG (_ j : Int) : Prop := j ≠ 0 ∧ j.natAbs.log2 < 9000
theorem op_fdivG : OpR X (binaryOp .FloorDiv) (rI CDivG fun i j => .int (i.fdiv j)) := opI fun _ _ _ _ _ _ _ hc q => floordiv_int hc.1 q (.inl (PyProof.noPylong_of_log2 hc.2))
abbrev gFdiv : G2 := gII (fun _ j => decide (j ≠ 0) && decide (j.natAbs.log2 < 9000)) fun i j => .int (i.fdiv j)
theorem dop_fdiv : DOp X (binaryOp .FloorDiv) gFdiv := dop_rI op_fdivG (fun _ _ h => by
  rw [Bool.and_eq_true] at h
  exact ⟨of_decide_eq_true h.1, of_decide_eq_true h.2⟩) fun _ _ _ _ _ => Rep.int_iff.mpr rfl
def CPowG (i j : Int) : Prop := 0 ≤ j ∧ (Builtin.Int.intBits i : Int) * j ≤ 2 ^ 27
theorem op_powG : OpR X (binaryOp .Pow) (rI CPowG fun i j => .int (i ^ j.toNat)) := opI fun _ _ _ _ _ _ _ hc q => pow_int hc.1 hc.2 q
abbrev gPow : G2 := gII (fun i j => decide (0 ≤ j) && decide ((Builtin.Int.intBits i : Int) * j ≤ 2 ^ 27)) fun i j => .int (i ^ j.toNat)
theorem dop_pow : DOp X (binaryOp .Pow) gPow := dop_rI op_powG (fun _ _ h => by
  rw [Bool.and_eq_true] at h
  exact ⟨of_decide_eq_true h.1, of_decide_eq_true h.2⟩) fun _ _ _ _ _ => Rep.int_iff.mpr rfl
def gNeg : G1 := fun _ a => match a with
  | .int i => some (.int (-i))
  | _ => none
theorem dun_neg : DUn X (unaryOp .USub) gNeg := ⟨_, un_neg, fun B x H m st da d Q rs ra h q => by
  cases da with
  | int i => cases h; exact ⟨i, Rep.int_iff.mp ra, q _ H Grow.refl (Rep.int_iff.mpr rfl)⟩
  | _ => simp [gNeg] at h⟩
/-- is None, is not None -/
def nonD : D → Bool
  | .non => true
  | _ => false
def gIsN : G2 := fun _ a b => match b with
  | .non => some (.bl (nonD a))
  | _ => none
def gNotN : G2 := fun _ a b => match b with
  | .non => some (.bl (!nonD a))
  | _ => none
theorem non_dec {K : KB} {H : Hp} {m : List Addr} {d : D} {v : V} (r : Rep K H m d v) : decide (v = V.non) = nonD d := by
  cases d with
  | non => cases Rep.non_iff.mp r; rfl
  | bl b => cases Rep.bl_iff.mp r; rfl
  | int b => cases Rep.int_iff.mp r; rfl
  | str b => cases Rep.str_iff.mp r; rfl
  | ty b => cases Rep.ty_iff.mp r; rfl
  | ob b => cases Rep.ob_iff.mp r; rfl
  | tup b => obtain ⟨a, vs, rfl, _⟩ := Rep.tup_iff.mp r; rfl
  | lst b => obtain ⟨a, vs, rfl, _⟩ := Rep.lst_iff.mp r; rfl
  | rol b => obtain ⟨a, vs, rfl, _⟩ := Rep.rol_iff.mp r; rfl
  | loc b => obtain ⟨a, rfl, _⟩ := Rep.loc_iff.mp r; rfl
theorem dop_isN : DOp X (compareOp .Is) gIsN := ⟨_, op_isN, fun B x y H m st da db d Q rs ra rb h q => by
  cases db with
  | non =>
    cases h
    exact ⟨Rep.non_iff.mp rb, q _ H Grow.refl (Rep.bl_iff.mpr (by rw [non_dec ra]))⟩
  | _ => simp [gIsN] at h⟩
theorem dop_notN : DOp X (compareOp .IsNot) gNotN := ⟨_, op_notN, fun B x y H m st da db d Q rs ra rb h q => by
  cases db with
  | non =>
    cases h
    exact ⟨Rep.non_iff.mp rb, q _ H Grow.refl (Rep.bl_iff.mpr (by rw [non_dec ra]))⟩
  | _ => simp [gNotN] at h⟩
def gAdd : G2 := fun st a b => match a, b with
  | .int i, .int j => some (.int (i + j))
  | .str x, .str y => if x.length + y.length ≤ sizeLine then some (.str (x ++ y)) else none
  | .tup x, .tup y => if x.length + y.length ≤ sizeLine then some (.tup (x ++ y)) else none
  | a, b => (lstM st a).bind fun x => (lstM st b).bind fun y => if x.length + y.length ≤ sizeLine then some (.lst (x ++ y)) else none
theorem tup_self {K : KB} {H : Hp} {m : List Addr} {a : Addr} {vs : List V} {ds es : List D} (h1 : (Rd H a (.tup vs) ∧ a ∉ m ∧ a ∉ K.B) ∨ TK K.K a vs) (h2 : RepL K H m ds vs) (e : es = ds) : Rep K H m (.tup es) (.ref a) := by
  subst e; exact Rep.tup_iff.mpr ⟨a, vs, rfl, h1, h2⟩
theorem sqt_of {K : KB} {H : Hp} {m : List Addr} {a : Addr} {vs : List V} (h : (Rd H a (.tup vs) ∧ a ∉ m ∧ a ∉ K.B) ∨ TK K.K a vs) : SqT K.K H a vs := by
  rcases h with h | h
  · exact .inl h.1
  · exact .inr h
theorem dop_add : DOp X (binaryOp .Add) gAdd := by
  refine ⟨_, (op_add.or op_add_str).or ((op_catA (X := X)).or op_cat), fun B x y H m st da db d Q rs ra rb h q => ?_⟩
  have lists : ∀ {da db : D}, Rep ⟨X.K, B⟩ H m da x → Rep ⟨X.K, B⟩ H m db y → ((lstM st da).bind fun x => (lstM st db).bind fun y => if x.length + y.length ≤ sizeLine then some (D.lst (x ++ y)) else none) = some d → rCat x y H Q := fun {da db} ra rb h => by
    obtain ⟨xs, h1, h⟩ := Option.bind_eq_some_iff.mp h
    obtain ⟨ys, h2, h⟩ := Option.bind_eq_some_iff.mp h
    split at h
    · rename_i hz
      cases h
      obtain ⟨a, vs, rfl, ha, la⟩ := lstM_rep rs ra h1
      obtain ⟨b, ws, rfl, hb, lb⟩ := lstM_rep rs rb h2
      exact ⟨a, b, vs, ws, rfl, rfl, ha, hb, by rw [← la.length, ← lb.length]; exact hz, fun p hp => q _ _ (Grow.upd hp) (Rep.newL rs hp (la.append lb))⟩
    · cases h
  unfold gAdd at h
  split at h
  · cases h
    exact .inl (.inl ⟨_, _, Rep.int_iff.mp ra, Rep.int_iff.mp rb, q _ H Grow.refl (Rep.int_iff.mpr rfl)⟩)
  · split at h
    · rename_i hz
      cases h
      exact .inl (.inr ⟨_, _, Rep.str_iff.mp ra, Rep.str_iff.mp rb, hz, q _ H Grow.refl (Rep.str_iff.mpr rfl)⟩)
    · cases h
  · split at h
    · rename_i hz
      cases h
      obtain ⟨a, vs, rfl, ha, la⟩ := Rep.tup_iff.mp ra
      obtain ⟨b, ws, rfl, hb, lb⟩ := Rep.tup_iff.mp rb
      refine .inr (.inl ⟨a, b, vs, ws, rfl, rfl, sqt_of ha, sqt_of hb, by rw [← la.length, ← lb.length]; exact hz, fun e => ?_, fun _ e => ?_, fun _ _ p hp => q _ _ (Grow.upd hp) (Rep.newT rs hp (la.append lb))⟩)
      · subst e
        have e2 := List.eq_nil_of_length_eq_zero la.length
        exact q _ H Grow.refl (tup_self hb lb (by rw [e2]; rfl))
      · subst e
        have e2 := List.eq_nil_of_length_eq_zero lb.length
        exact q _ H Grow.refl (tup_self ha la (by rw [e2, List.append_nil]))
    · cases h
  · exact .inr (.inr (lists ra rb h))
/-- a product; a tuple or a list many times (the tuple from twice to a thousand times) -/
def gMul : G2 := fun st a b => match a, b with
  | .int i, .int j => if i.natAbs.log2 + j.natAbs.log2 < 1000000 then some (.int (i * j)) else none
  | .tup x, .int k => if 2 ≤ k ∧ k ≤ 1000 ∧ x ≠ [] ∧ x.length ≤ 1000 then some (.tup (List.replicate k.toNat x).flatten) else none
  | a, .int k => (lstM st a).bind fun x => if -(2 ^ 63) ≤ k ∧ k < 2 ^ 63 ∧ x.length * k.toNat ≤ sizeLine then some (.lst (List.replicate k.toNat x).flatten) else none
  | _, _ => none
theorem dop_mul : DOp X (binaryOp .Mult) gMul := by
  refine ⟨_, (op_mulW (X := X)).or ((op_repT (X := X)).or op_rep), fun B x y H m st da db d Q rs ra rb h q => ?_⟩
  unfold gMul at h
  split at h
  · split at h
    · rename_i hz
      cases h
      exact .inl ⟨_, _, Rep.int_iff.mp ra, Rep.int_iff.mp rb, hz, q _ H Grow.refl (Rep.int_iff.mpr rfl)⟩
    · cases h
  · split at h
    · rename_i hz
      cases h
      obtain ⟨a, vs, rfl, ha, la⟩ := ra.tup_sq
      refine .inr (.inl ⟨a, _, vs, rfl, Rep.int_iff.mp rb, ha, fun e => ?_, hz.1, hz.2.1, by rw [← la.length]; exact hz.2.2.2, fun p hp => q _ _ (Grow.upd hp) (Rep.newT rs hp (la.replicate _))⟩)
      subst e
      exact hz.2.2.1 (List.eq_nil_of_length_eq_zero la.length)
    · cases h
  · obtain ⟨xs, h1, h⟩ := Option.bind_eq_some_iff.mp h
    split at h
    · rename_i hz
      cases h
      obtain ⟨a, vs, rfl, ha, la⟩ := lstM_rep rs ra h1
      exact .inr (.inr ⟨a, _, vs, rfl, Rep.int_iff.mp rb, ha, hz.1, hz.2.1, by rw [← la.length]; exact hz.2.2, fun p hp => q _ _ (Grow.upd hp) (Rep.newL rs hp (la.replicate _))⟩)
    · cases h
  · cases h
def dV : D → Option V
  | .non => some .non
  | .bl b => some (.bl b)
  | .int i => some (.int i)
  | .str x => some (.str x)
  | _ => none
theorem dV_rep {K : KB} {H : Hp} {m : List Addr} {d : D} {v w : V} (r : Rep K H m d v) (h : dV d = some w) : v = w ∧ flatV w = true := by
  cases d with
  | non => cases h; exact ⟨Rep.non_iff.mp r, rfl⟩
  | bl b => cases h; exact ⟨Rep.bl_iff.mp r, rfl⟩
  | int b => cases h; exact ⟨Rep.int_iff.mp r, rfl⟩
  | str b => cases h; exact ⟨Rep.str_iff.mp r, rfl⟩
  | _ => cases h
def dVs : List D → Option (List V)
  | [] => some []
  | d :: ds => (dV d).bind fun v => (dVs ds).map fun vs => v :: vs
theorem dVs_rep {K : KB} {H : Hp} {m : List Addr} : ∀ {ds : List D} {vs ws : List V}, RepL K H m ds vs → dVs ds = some ws → vs = ws ∧ ws.all flatV = true
  | [], _, _, r, h => by cases h; exact ⟨r.inv_nil, rfl⟩
  | d :: ds, _, _, r, h => by
    obtain ⟨v, vr, rfl, r1, r2⟩ := r.inv_cons
    obtain ⟨w, h1, h⟩ := Option.bind_eq_some_iff.mp h
    obtain ⟨ws, h2, rfl⟩ := Option.map_eq_some_iff.mp h
    obtain ⟨a1, a2⟩ := dV_rep r1 h1
    obtain ⟨b1, b2⟩ := dVs_rep r2 h2
    exact ⟨by rw [a1, b1], by simp [a2]; simpa using b2⟩
def seqV (st : Store) : D → Option (List D)
  | .tup ds => some ds
  | d => lstV st d
theorem seqV_rep {K : KB} {H : Hp} {m : List Addr} {st : Store} (rs : RepSt K H m st) {d : D} {v : V} {ds : List D} (r : Rep K H m d v) (h : seqV st d = some ds) : ∃ a vs, v = .ref a ∧ (SqL K.K H a vs ∨ SqT K.K H a vs) ∧ RepL K H m ds vs := by
  have ls : ∀ {d : D}, Rep K H m d v → lstV st d = some ds → ∃ a vs, v = .ref a ∧ (SqL K.K H a vs ∨ SqT K.K H a vs) ∧ RepL K H m ds vs := fun {d} r h => let ⟨a, vs, h1, h2, h3⟩ := lstV_rep rs r h; ⟨a, vs, h1, .inl h2, h3⟩
  cases d with
  | tup xs => cases h; exact let ⟨a, vs, h1, h2, h3⟩ := r.tup_sq; ⟨a, vs, h1, .inr h2, h3⟩
  | lst xs => exact ls r h
  | rol xs => exact ls r h
  | loc xs => exact ls r h
  | _ => cases h
def gInB (neg : Bool) : G2 := fun st a b => (dV a).bind fun x => (seqV st b).bind fun ds => (dVs ds).map fun xs => .bl (if neg then !inV x xs else inV x xs)
abbrev gIn : G2 := gInB false
abbrev gNotIn : G2 := gInB true
theorem in_aux {neg : Bool} {F : Value → Value → Sem Value} (ho : OpR X F (rIn X.K neg)) : DOp X F (gInB neg) := ⟨_, ho, fun B x y H m st da db d Q rs ra rb h q => by
  obtain ⟨v, h1, h⟩ := Option.bind_eq_some_iff.mp h
  obtain ⟨ds, h2, h⟩ := Option.bind_eq_some_iff.mp h
  obtain ⟨xs, h3, rfl⟩ := Option.map_eq_some_iff.mp h
  obtain ⟨rfl, f1⟩ := dV_rep ra h1
  obtain ⟨a, vs, rfl, hs, rl⟩ := seqV_rep rs rb h2
  obtain ⟨rfl, f2⟩ := dVs_rep rl h3
  exact ⟨a, vs, rfl, hs, f1, f2, q _ H Grow.refl (Rep.bl_iff.mpr rfl)⟩⟩
theorem dop_in : DOp X (compareOp .In) gIn := in_aux op_in_seq
theorem dop_notIn : DOp X (compareOp .NotIn) gNotIn := in_aux op_notIn_seq
theorem atI_rep {K : KB} {H : Hp} {m : List Addr} {ds : List D} {vs : List V} {i : Int} {d : D} (r : RepL K H m ds vs) (h : atI ds i = some d) : ∃ v, atI vs i = some v ∧ Rep K H m d v := by
  unfold atI at h ⊢
  rw [← r.length]
  obtain ⟨j, h1, h2⟩ := Option.bind_eq_some_iff.mp h
  obtain ⟨v, h3, h4⟩ := r.get h2
  exact ⟨v, by rw [h1]; exact h3, h4⟩
def gIx : G2 := fun st a b => match b with
  | .int i => match a with
    | .str z => if z.length ≤ sizeLine then (atI z.cps.toList i).map fun c => .str ⟨#[c]⟩ else none
    | a => (seqV st a).bind fun ds => atI ds i
  | _ => none
theorem dix : DIx X gIx := ⟨_, ix_seq, fun B x y H m st da db d Q rs ra rb h q => by
  cases db with
  | int i =>
    cases Rep.int_iff.mp rb
    have sq : ∀ {da : D}, Rep ⟨X.K, B⟩ H m da x → ((seqV st da).bind fun ds => atI ds i) = some d → rIx X.K x (.int i) H Q := fun {da} ra h => by
      obtain ⟨ds, h1, h2⟩ := Option.bind_eq_some_iff.mp h
      obtain ⟨a, vs, rfl, hs, rl⟩ := seqV_rep rs ra h1
      obtain ⟨v, h3, h4⟩ := atI_rep rl h2
      rcases hs with hs | hs
      · exact .inl ⟨a, vs, i, v, rfl, rfl, hs, h3, q _ H Grow.refl h4⟩
      · exact .inr (.inl ⟨a, vs, i, v, rfl, rfl, hs, h3, q _ H Grow.refl h4⟩)
    cases da with
    | str z =>
      simp only [gIx] at h
      split at h
      · rename_i hz
        obtain ⟨c, h1, rfl⟩ := Option.map_eq_some_iff.mp h
        exact .inr (.inr ⟨z, i, c, Rep.str_iff.mp ra, rfl, hz, h1, q _ H Grow.refl (Rep.str_iff.mpr rfl)⟩)
      · cases h
    | _ => exact sq ra h
  | _ => simp [gIx] at h⟩
def cutD {α : Type} (xs : List α) (lo hi : Option Int) : List α := (xs.drop (HT.sIx xs.length 0 lo)).take (HT.sIx xs.length xs.length hi - HT.sIx xs.length 0 lo)
theorem RepL.cutD {K : KB} {H : Hp} {m : List Addr} {ds : List D} {vs : List V} (r : RepL K H m ds vs) (lo hi : Option Int) : RepL K H m (DL.cutD ds lo hi) (cutV vs lo hi) := by
  unfold DL.cutD cutV
  rw [r.length]
  exact (r.drop _).take _
def gSl : GS := fun st a lo hi => match a with
  | .tup ds => some (.tup (cutD ds lo hi))
  | a => (lstV st a).map fun ds => .lst (cutD ds lo hi)
theorem dsl : DSl X gSl := ⟨_, (sl_tupA (X := X)).or sl_list, fun B x lo hi H m st da d Q rs ra h q => by
  have ls : ∀ {da : D}, Rep ⟨X.K, B⟩ H m da x → ((lstV st da).map fun ds => D.lst (cutD ds lo hi)) = some d → rSlL X.K x lo hi H Q := fun {da} ra h => by
    obtain ⟨ds, h1, rfl⟩ := Option.map_eq_some_iff.mp h
    obtain ⟨a, vs, rfl, hs, rl⟩ := lstV_rep rs ra h1
    exact ⟨a, vs, rfl, hs, fun p hp => q _ _ (Grow.upd hp) (Rep.newL rs hp (rl.cutD lo hi))⟩
  cases da with
  | tup ds =>
    cases h
    obtain ⟨a, vs, rfl, ha, la⟩ := Rep.tup_iff.mp ra
    refine .inl ⟨a, vs, rfl, sqt_of ha, fun hw => ?_, fun _ p hp => q _ _ (Grow.upd hp) (Rep.newT rs hp (la.cutD lo hi))⟩
    refine q _ H Grow.refl (tup_self ha la ?_)
    unfold cutD
    rw [la.length, hw.1, hw.2, Nat.sub_zero, List.drop_zero, ← la.length, List.take_length]
  | lst ds => exact .inr (ls ra h)
  | rol ds => exact .inr (ls ra h)
  | loc l => exact .inr (ls ra h)
  | _ => simp [gSl, lstV] at h⟩
theorem one_inv {K : KB} {H : Hp} {m : List Addr} {d : D} {vs : List V} (r : RepL K H m [d] vs) : ∃ v, vs = [v] ∧ Rep K H m d v := by
  obtain ⟨v, t, rfl, r1, r2⟩ := r.inv_cons
  rw [r2.inv_nil]
  exact ⟨v, rfl, r1⟩
theorem two_inv {K : KB} {H : Hp} {m : List Addr} {d e : D} {vs : List V} (r : RepL K H m [d, e] vs) : ∃ v w, vs = [v, w] ∧ Rep K H m d v ∧ Rep K H m e w := by
  obtain ⟨v, t, rfl, r1, r2⟩ := r.inv_cons
  obtain ⟨w, rfl, r3⟩ := one_inv r2
  exact ⟨v, w, rfl, r1, r3⟩
def gLen : GL := fun st ds => match ds with
  | [.str z] => if z.length ≤ sizeLine then some (.int z.length) else none
  | [d] => (seqV st d).map fun xs => .int xs.length
  | _ => none
theorem dc_len : DCall X (.builtin "len") gLen := ⟨_, (call_len_seq (X := X)).or call_len_str, fun B xs H m st ds d Q rs r h q => by
  unfold gLen at h
  split at h
  · split at h
    · rename_i hz
      cases h
      obtain ⟨v, rfl, r1⟩ := one_inv r
      cases Rep.str_iff.mp r1
      exact .inr ⟨_, rfl, hz, q _ H Grow.refl (Rep.int_iff.mpr rfl)⟩
    · cases h
  · obtain ⟨v, rfl, r1⟩ := one_inv r
    obtain ⟨ys, h1, rfl⟩ := Option.map_eq_some_iff.mp h
    obtain ⟨a, vs, rfl, hs, rl⟩ := seqV_rep rs r1 h1
    exact .inl ⟨a, vs, rfl, hs, q _ H Grow.refl (Rep.int_iff.mpr (by rw [rl.length]))⟩
  · cases h⟩
def gAbs : GL := fun _ ds => match ds with
  | [.int i] => some (.int (if i < 0 then -i else i))
  | _ => none
theorem dc_abs : DCall X (.builtin "abs") gAbs := ⟨_, call_abs, fun B xs H m st ds d Q rs r h q => by
  unfold gAbs at h
  split at h
  · cases h
    obtain ⟨v, rfl, r1⟩ := one_inv r
    cases Rep.int_iff.mp r1
    exact ⟨_, rfl, q _ H Grow.refl (Rep.int_iff.mpr rfl)⟩
  · cases h⟩
def gInt : GL := fun _ ds => match ds with
  | [.int i] => some (.int i)
  | [.bl k] => some (.int (if k then 1 else 0))
  | _ => none
theorem dc_int : DCall X (.type "int") gInt := ⟨_, call_int1, fun B xs H m st ds d Q rs r h q => by
  unfold gInt at h
  split at h
  · cases h
    obtain ⟨v, rfl, r1⟩ := one_inv r
    cases Rep.int_iff.mp r1
    exact .inl ⟨_, rfl, q _ H Grow.refl (Rep.int_iff.mpr rfl)⟩
  · cases h
    obtain ⟨v, rfl, r1⟩ := one_inv r
    cases Rep.bl_iff.mp r1
    exact .inr ⟨_, rfl, q _ H Grow.refl (Rep.int_iff.mpr rfl)⟩
  · cases h⟩
def dInts : List D → Option (List Int)
  | [] => some []
  | .int i :: ds => (dInts ds).map (i :: ·)
  | _ => none
theorem dInts_map : ∀ ns : List Int, dInts (ns.map D.int) = some ns
  | [] => rfl
  | n :: ns => by simp [dInts, dInts_map ns]
theorem dInts_rep {K : KB} {H : Hp} {m : List Addr} : ∀ {ds : List D} {vs : List V} {ns : List Int}, RepL K H m ds vs → dInts ds = some ns → vs = ns.map V.int ∧ ds = ns.map D.int
  | [], _, _, r, h => by cases h; exact ⟨r.inv_nil, rfl⟩
  | .int i :: ds, _, _, r, h => by
    obtain ⟨v, vr, rfl, r1, r2⟩ := r.inv_cons
    cases Rep.int_iff.mp r1
    obtain ⟨ms, h2, rfl⟩ := Option.map_eq_some_iff.mp h
    obtain ⟨e1, e2⟩ := dInts_rep r2 h2
    exact ⟨by rw [e1]; rfl, by rw [e2]; rfl⟩
  | .non :: _, _, _, _, h => by cases h
  | .bl _ :: _, _, _, _, h => by cases h
  | .str _ :: _, _, _, _, h => by cases h
  | .ty _ :: _, _, _, _, h => by cases h
  | .ob _ :: _, _, _, _, h => by cases h
  | .tup _ :: _, _, _, _, h => by cases h
  | .lst _ :: _, _, _, _, h => by cases h
  | .rol _ :: _, _, _, _, h => by cases h
  | .loc _ :: _, _, _, _, h => by cases h
def bools : List D → Option (List Bool)
  | [] => some []
  | .bl i :: ds => (bools ds).map (i :: ·)
  | _ => none
theorem bools_map : ∀ ns : List Bool, bools (ns.map D.bl) = some ns
  | [] => rfl
  | n :: ns => by simp [bools, bools_map ns]
theorem bools_rep {K : KB} {H : Hp} {m : List Addr} : ∀ {ds : List D} {vs : List V} {ns : List Bool}, RepL K H m ds vs → bools ds = some ns → vs = ns.map V.bl
  | [], _, _, r, h => by cases h; exact r.inv_nil
  | .bl i :: ds, _, _, r, h => by
    obtain ⟨v, vr, rfl, r1, r2⟩ := r.inv_cons
    cases Rep.bl_iff.mp r1
    obtain ⟨ms, h2, rfl⟩ := Option.map_eq_some_iff.mp h
    rw [bools_rep r2 h2]; rfl
  | .non :: _, _, _, _, h => by cases h
  | .int _ :: _, _, _, _, h => by cases h
  | .str _ :: _, _, _, _, h => by cases h
  | .ty _ :: _, _, _, _, h => by cases h
  | .ob _ :: _, _, _, _, h => by cases h
  | .tup _ :: _, _, _, _, h => by cases h
  | .lst _ :: _, _, _, _, h => by cases h
  | .rol _ :: _, _, _, _, h => by cases h
  | .loc _ :: _, _, _, _, h => by cases h
def maxI : List Int → Int
  | [] => 0
  | n :: ns => ns.foldl max n
def minI : List Int → Int
  | [] => 0
  | n :: ns => ns.foldl min n
theorem foldl_max_spec : ∀ (ns : List Int) (n : Int), n ≤ ns.foldl max n ∧ (∀ y ∈ ns, y ≤ ns.foldl max n) ∧ (ns.foldl max n = n ∨ ns.foldl max n ∈ ns)
  | [], n => by simp
  | a :: ns, n => by
    obtain ⟨h1, h2, h3⟩ := foldl_max_spec ns (max n a)
    refine ⟨by simp only [List.foldl]; omega, fun y hy => ?_, ?_⟩
    · simp only [List.foldl]
      rcases List.mem_cons.mp hy with e | hy
      · subst e; omega
      · exact h2 y hy
    · simp only [List.foldl]
      rcases h3 with h3 | h3
      · rw [h3]
        rcases Int.le_total n a with q | q
        · rw [Int.max_eq_right q]; exact .inr (by simp)
        · rw [Int.max_eq_left q]; exact .inl rfl
      · exact .inr (List.mem_cons_of_mem _ h3)
theorem foldl_min_spec : ∀ (ns : List Int) (n : Int), ns.foldl min n ≤ n ∧ (∀ y ∈ ns, ns.foldl min n ≤ y) ∧ (ns.foldl min n = n ∨ ns.foldl min n ∈ ns)
  | [], n => by simp
  | a :: ns, n => by
    obtain ⟨h1, h2, h3⟩ := foldl_min_spec ns (min n a)
    refine ⟨by simp only [List.foldl]; omega, fun y hy => ?_, ?_⟩
    · simp only [List.foldl]
      rcases List.mem_cons.mp hy with e | hy
      · subst e; omega
      · exact h2 y hy
    · simp only [List.foldl]
      rcases h3 with h3 | h3
      · rw [h3]
        rcases Int.le_total n a with q | q
        · rw [Int.min_eq_left q]; exact .inl rfl
        · rw [Int.min_eq_right q]; exact .inr (by simp)
      · exact .inr (List.mem_cons_of_mem _ h3)
def gMax : GL := fun st ds => match ds with
  | [.int i, .int j] => some (.int (if j > i then j else i))
  | [d] => (lstV st d).bind fun xs => (dInts xs).bind fun ns => if 0 < ns.length then some (.int (maxI ns)) else none
  | _ => none
def gMin : GL := fun st ds => match ds with
  | [.int i, .int j] => some (.int (if j < i then j else i))
  | [d] => (lstV st d).bind fun xs => (dInts xs).bind fun ns => if 0 < ns.length then some (.int (minI ns)) else none
  | _ => none
theorem dc_max (hc : X.calm = true) : DCall X (.builtin "max") gMax := ⟨_, (call_max2 hc).or (cr_max hc), fun B xs H m st ds d Q rs r h q => by
  unfold gMax at h
  split at h
  · cases h
    obtain ⟨v, w, rfl, r1, r2⟩ := two_inv r
    cases Rep.int_iff.mp r1
    cases Rep.int_iff.mp r2
    exact .inl ⟨_, _, rfl, q _ H Grow.refl (Rep.int_iff.mpr rfl)⟩
  · obtain ⟨v, rfl, r1⟩ := one_inv r
    obtain ⟨ys, h1, h⟩ := Option.bind_eq_some_iff.mp h
    obtain ⟨ns, h2, h⟩ := Option.bind_eq_some_iff.mp h
    split at h
    · rename_i hp
      cases h
      obtain ⟨a, vs, rfl, hs, rl⟩ := lstV_rep rs r1 h1
      obtain ⟨rfl, _⟩ := dInts_rep rl h2
      refine .inr ⟨a, ns, rfl, hs, hp, fun z hz hle => ?_⟩
      cases ns with
      | nil => cases hz
      | cons n ns =>
        obtain ⟨k1, k2, k3⟩ := foldl_max_spec ns n
        have e : z = maxI (n :: ns) := by
          refine Int.le_antisymm ?_ (hle _ ?_)
          · rcases List.mem_cons.mp hz with e | hz
            · subst e; exact k1
            · exact k2 z hz
          · rcases k3 with k3 | k3
            · show ns.foldl max n ∈ _; rw [k3]; simp
            · exact List.mem_cons_of_mem _ k3
        rw [e]
        exact q _ H Grow.refl (Rep.int_iff.mpr rfl)
    · cases h
  · cases h⟩
theorem dc_min (hc : X.calm = true) : DCall X (.builtin "min") gMin := ⟨_, (call_min2 hc).or (cr_min hc), fun B xs H m st ds d Q rs r h q => by
  unfold gMin at h
  split at h
  · cases h
    obtain ⟨v, w, rfl, r1, r2⟩ := two_inv r
    cases Rep.int_iff.mp r1
    cases Rep.int_iff.mp r2
    exact .inl ⟨_, _, rfl, q _ H Grow.refl (Rep.int_iff.mpr rfl)⟩
  · obtain ⟨v, rfl, r1⟩ := one_inv r
    obtain ⟨ys, h1, h⟩ := Option.bind_eq_some_iff.mp h
    obtain ⟨ns, h2, h⟩ := Option.bind_eq_some_iff.mp h
    split at h
    · rename_i hp
      cases h
      obtain ⟨a, vs, rfl, hs, rl⟩ := lstV_rep rs r1 h1
      obtain ⟨rfl, _⟩ := dInts_rep rl h2
      refine .inr ⟨a, ns, rfl, hs, hp, fun z hz hle => ?_⟩
      cases ns with
      | nil => cases hz
      | cons n ns =>
        obtain ⟨k1, k2, k3⟩ := foldl_min_spec ns n
        have e : z = minI (n :: ns) := by
          refine Int.le_antisymm (hle _ ?_) ?_
          · rcases k3 with k3 | k3
            · show ns.foldl min n ∈ _; rw [k3]; simp
            · exact List.mem_cons_of_mem _ k3
          · rcases List.mem_cons.mp hz with e | hz
            · subst e; exact k1
            · exact k2 z hz
        rw [e]
        exact q _ H Grow.refl (Rep.int_iff.mpr rfl)
    · cases h
  · cases h⟩
def gSum : GL := fun st ds => match ds with
  | [d] => (lstV st d).bind fun xs => (dInts xs).map fun ns => .int ns.sum
  | _ => none
theorem dc_sum (hc : X.calm = true) : DCall X (.builtin "sum") gSum := ⟨_, cr_sum hc, fun B xs H m st ds d Q rs r h q => by
  unfold gSum at h
  split at h
  · obtain ⟨v, rfl, r1⟩ := one_inv r
    obtain ⟨ys, h1, h⟩ := Option.bind_eq_some_iff.mp h
    obtain ⟨ns, h2, rfl⟩ := Option.map_eq_some_iff.mp h
    obtain ⟨a, vs, rfl, hs, rl⟩ := lstV_rep rs r1 h1
    obtain ⟨rfl, _⟩ := dInts_rep rl h2
    exact ⟨a, ns, rfl, hs, q _ H Grow.refl (Rep.int_iff.mpr rfl)⟩
  · cases h⟩
def gAny : GL := fun st ds => match ds with
  | [d] => (lstV st d).bind fun xs => (bools xs).map fun ns => .bl (ns.any id)
  | _ => none
def gAll : GL := fun st ds => match ds with
  | [d] => (lstV st d).bind fun xs => (bools xs).map fun ns => .bl (ns.all id)
  | _ => none
theorem dc_any (hc : X.calm = true) : DCall X (.builtin "any") gAny := ⟨_, cr_any hc, fun B xs H m st ds d Q rs r h q => by
  unfold gAny at h
  split at h
  · obtain ⟨v, rfl, r1⟩ := one_inv r
    obtain ⟨ys, h1, h⟩ := Option.bind_eq_some_iff.mp h
    obtain ⟨ns, h2, rfl⟩ := Option.map_eq_some_iff.mp h
    obtain ⟨a, vs, rfl, hs, rl⟩ := lstV_rep rs r1 h1
    rw [bools_rep rl h2] at hs
    exact ⟨a, ns, rfl, hs, q _ H Grow.refl (Rep.bl_iff.mpr rfl)⟩
  · cases h⟩
theorem dc_all (hc : X.calm = true) : DCall X (.builtin "all") gAll := ⟨_, cr_all hc, fun B xs H m st ds d Q rs r h q => by
  unfold gAll at h
  split at h
  · obtain ⟨v, rfl, r1⟩ := one_inv r
    obtain ⟨ys, h1, h⟩ := Option.bind_eq_some_iff.mp h
    obtain ⟨ns, h2, rfl⟩ := Option.map_eq_some_iff.mp h
    obtain ⟨a, vs, rfl, hs, rl⟩ := lstV_rep rs r1 h1
    rw [bools_rep rl h2] at hs
    exact ⟨a, ns, rfl, hs, q _ H Grow.refl (Rep.bl_iff.mpr rfl)⟩
  · cases h⟩
def gTupleOf : GL := fun st ds => match ds with
  | [d] => (seqV st d).map .tup
  | _ => none
theorem dc_tuple : DCall X (.type "tuple") gTupleOf := ⟨_, call_tuple_of, fun B xs H m st ds d Q rs r h q => by
  unfold gTupleOf at h
  split at h
  · rename_i d0
    obtain ⟨v, rfl, r1⟩ := one_inv r
    obtain ⟨ys, h1, rfl⟩ := Option.map_eq_some_iff.mp h
    have ls : ∀ {d : D}, Rep ⟨X.K, B⟩ H m d v → lstV st d = some ys → ∃ p zs, [v] = [V.ref p] ∧ ((SqL X.K H p zs ∧ ∀ l, H l = none → Q (.ref l) (upd H l (.tup zs))) ∨ (SqT X.K H p zs ∧ Q (.ref p) H)) := fun {d} r h => by
      obtain ⟨a, vs, rfl, hs, rl⟩ := lstV_rep rs r h
      exact ⟨a, vs, rfl, .inl ⟨hs, fun l hl => q _ _ (Grow.upd hl) (Rep.newT rs hl rl)⟩⟩
    cases d0 with
    | tup zs =>
      cases h1
      obtain ⟨a, vs, rfl, ha, la⟩ := Rep.tup_iff.mp r1
      exact ⟨a, vs, rfl, .inr ⟨sqt_of ha, q _ H Grow.refl r1⟩⟩
    | lst zs => exact ls r1 h1
    | rol zs => exact ls r1 h1
    | loc zs => exact ls r1 h1
    | _ => cases h1
  · cases h⟩
def gListOf : GL := fun st ds => match ds with
  | [d] => (seqV st d).map .lst
  | _ => none
theorem dc_list : DCall X (.type "list") gListOf := ⟨_, call_list_of, fun B xs H m st ds d Q rs r h q => by
  unfold gListOf at h
  split at h
  · obtain ⟨v, rfl, r1⟩ := one_inv r
    obtain ⟨ys, h1, rfl⟩ := Option.map_eq_some_iff.mp h
    obtain ⟨a, vs, rfl, hs, rl⟩ := seqV_rep rs r1 h1
    exact ⟨a, vs, rfl, hs, fun l hl => q _ _ (Grow.upd hl) (Rep.newL rs hl rl)⟩
  · cases h⟩
/-- isinstance of one built-in class -/
def tyN (st : Store) : D → Option String
  | .non => some "NoneType"
  | .bl _ => some "bool"
  | .int _ => some "int"
  | .str _ => some "str"
  | .tup _ => some "tuple"
  | .lst _ => some "list"
  | .rol _ => some "list"
  | .loc l => match st[l]? with
    | some (.lst _) => some "list"
    | some (.dic _) => some "dict"
    | _ => none
  | _ => none
def isT (a b : String) : Option Bool :=
  if ["NoneType", "bool", "int", "str", "tuple", "list", "dict"].contains a && ["bool", "int", "str", "tuple", "list", "dict"].contains b then some (a == b || (a == "bool" && b == "int")) else none
theorem isT_kit {a b : String} {r : Bool} (h : isT a b = some r) : kitB a b = some r := by
  unfold isT at h
  split at h
  · rename_i hc
    simp only [List.contains_cons, List.contains_nil, Bool.or_false, Bool.and_eq_true, Bool.or_eq_true, beq_iff_eq] at hc
    obtain ⟨ha, hb⟩ := hc
    cases h
    rcases ha with rfl | rfl | rfl | rfl | rfl | rfl | rfl <;> rcases hb with rfl | rfl | rfl | rfl | rfl | rfl <;> decide +kernel
  · cases h
def gIsi : GL := fun st ds => match ds with
  | [d, .ty n] => (tyN st d).bind fun t => (isT t n).map .bl
  | _ => none
theorem tyN_rep {K : PySem.W.Frag} {B : List Addr} {H : Hp} {m : List Addr} {st : Store} {d : D} {v : V} {t : String} (rs : RepSt ⟨K, B⟩ H m st) (r : Rep ⟨K, B⟩ H m d v) (h : tyN st d = some t) : TyX K H v (.type t) := by
  cases d with
  | non => cases h; cases Rep.non_iff.mp r; exact .base .non
  | bl b => cases h; cases Rep.bl_iff.mp r; exact .base (.bl b)
  | int b => cases h; cases Rep.int_iff.mp r; exact .base (.int b)
  | str b => cases h; cases Rep.str_iff.mp r; exact .base (.str b)
  | tup ds =>
    cases h
    obtain ⟨a, vs, rfl, ha, la⟩ := Rep.tup_iff.mp r
    rcases ha with ⟨ha | ⟨o, ha⟩, _⟩ | ⟨o, its, n, e, c, _⟩
    · exact .base (.tup ha)
    · exact .fTuple ha
    · exact .kTuple e c
  | lst ds =>
    cases h
    obtain ⟨a, vs, rfl, ha, la⟩ := Rep.lst_iff.mp r
    exact .base (.lst ha.1)
  | rol ds =>
    cases h
    obtain ⟨a, vs, rfl, ha, la⟩ := Rep.rol_iff.mp r
    rcases ha with ⟨⟨o, ha⟩, _⟩ | ⟨o, its, n, e, c, _⟩
    · exact .base (.frz ha)
    · exact .kList e c
  | loc l =>
    simp only [tyN] at h
    obtain ⟨a, rfl, h1⟩ := Rep.loc_iff.mp r
    cases q : st[l]? with
    | none => rw [q] at h; cases h
    | some c =>
      rw [q] at h
      obtain ⟨b, h2, h3⟩ := rs.cell l _ q
      rw [h1] at h2; cases h2
      cases c with
      | lst ds => cases h; obtain ⟨vs, e, _⟩ := h3; exact .base (.lst e)
      | dic ds => cases h; obtain ⟨vs, e, _⟩ := h3; exact .base (.dK e)
      | ins _ _ => cases h
  | _ => cases h
theorem dc_isi : DCall X (.builtin "isinstance") gIsi := ⟨_, call_isi, fun B xs H m st ds d Q rs r h q => by
  unfold gIsi at h
  split at h
  · obtain ⟨v, w, rfl, r1, r2⟩ := two_inv r
    obtain ⟨t, h1, h⟩ := Option.bind_eq_some_iff.mp h
    obtain ⟨b, h2, rfl⟩ := Option.map_eq_some_iff.mp h
    cases Rep.ty_iff.mp r2
    exact ⟨v, _, _, _, b, rfl, .ty _, tyN_rep rs r1 h1, kit_ty (isT_kit h2), q _ H Grow.refl (Rep.bl_iff.mpr rfl)⟩
  · cases h⟩
/-- sorted of ints (fewer than 64) -/
def insI (n : Int) : List Int → List Int
  | [] => [n]
  | x :: xs => if n ≤ x then n :: x :: xs else x :: insI n xs
def srtI : List Int → List Int
  | [] => []
  | n :: ns => insI n (srtI ns)
theorem insI_perm (n : Int) : ∀ l : List Int, (insI n l).Perm (n :: l)
  | [] => .refl _
  | x :: xs => by
    unfold insI
    split
    · exact .refl _
    · exact ((insI_perm n xs).cons x).trans (.swap n x xs)
theorem srtI_perm : ∀ l : List Int, (srtI l).Perm l
  | [] => .refl _
  | n :: ns => (insI_perm n _).trans ((srtI_perm ns).cons n)
theorem insI_sorted (n : Int) : ∀ l : List Int, l.Pairwise (· ≤ ·) → (insI n l).Pairwise (· ≤ ·)
  | [], _ => by simp [insI]
  | x :: xs, h => by
    obtain ⟨h1, h2⟩ := List.pairwise_cons.mp h
    unfold insI
    split
    · rename_i hle
      refine List.pairwise_cons.mpr ⟨fun y hy => ?_, h⟩
      rcases List.mem_cons.mp hy with e | hy
      · subst e; exact hle
      · exact Int.le_trans hle (h1 y hy)
    · rename_i hle
      refine List.pairwise_cons.mpr ⟨fun y hy => ?_, insI_sorted n xs h2⟩
      rcases List.mem_cons.mp ((insI_perm n xs).mem_iff.mp hy) with e | hy
      · subst e; omega
      · exact h1 y hy
theorem srtI_sorted : ∀ l : List Int, (srtI l).Pairwise (· ≤ ·)
  | [] => .nil
  | n :: ns => insI_sorted n _ (srtI_sorted ns)
theorem sorted_one : ∀ {a b : List Int}, a.Perm b → a.Pairwise (· ≤ ·) → b.Pairwise (· ≤ ·) → a = b := fun {a b} p h1 h2 => p.eq_of_pairwise (fun x y _ _ h h' => Int.le_antisymm h h') h1 h2
def gSorted : GL := fun st ds => match ds with
  | [d] => (lstV st d).bind fun xs => (dInts xs).bind fun ns => if ns.length < 64 then some (.lst ((srtI ns).map D.int)) else none
  | _ => none
theorem dc_sorted : DCall X (.builtin "sorted") gSorted := ⟨_, cr_sorted, fun B xs H m st ds d Q rs r h q => by
  unfold gSorted at h
  split at h
  · obtain ⟨v, rfl, r1⟩ := one_inv r
    obtain ⟨ys, h1, h⟩ := Option.bind_eq_some_iff.mp h
    obtain ⟨ns, h2, h⟩ := Option.bind_eq_some_iff.mp h
    split at h
    · rename_i hz
      cases h
      obtain ⟨a, vs, rfl, hs, rl⟩ := lstV_rep rs r1 h1
      obtain ⟨rfl, _⟩ := dInts_rep rl h2
      refine ⟨a, ns, rfl, hs, hz, fun ns' p hp hs' hn => ?_⟩
      have e : ns' = srtI ns := sorted_one (hp.trans (srtI_perm ns).symm) hs' (srtI_sorted ns)
      subst e
      exact q _ _ (Grow.upd hn) (Rep.newL rs hn (RepL.ints _))
    · cases h
  · cases h⟩
end
end DL
namespace DL
open PySem PySem.Spec PyProof.Rows L2
theorem CX_false {P : Program} {w : World} {ou : List Env} {H : Hp} {s s' : Shared} {e : Value} (h : L2.CX P w ou H s (fun _ _ _ => False) e s') : False := by
  obtain ⟨_, _, _, _, _, _, _, _, _, _, _, _, z⟩ := h
  exact z
section
variable {P : Program} {w : World} {K : PySem.W.Frag} {mg mb : Str → Option Value} {s : Shared} {a : Addr} {vs : List Value}
/-- the heap behind the top without the script: all that a def's facts lean on -/
theorem ground {H : Hp} (inK : K.In s.heap) (gl : s.heap.Ns mainGlobals mg) (bl : s.heap.Ns builtinsNs mb) (bb : ∀ x : Str, x ≠ "__name__" → mb x = bootBuiltins x) (lim : s.heap.NoLimit) (gens : s.gens = #[])
    (sc : s.heap.get? a = some { cls := .type "list", data := .seq vs.toArray }) (ok : HOk P w H s.heap) (only : ∀ b, H b ≠ none → b = a) (nk : H a ≠ none → K.lookup a = none) :
    Env0 P w K mg (hidT s.heap H) callerA [] s H ∧ K.In (hidT s.heap H) ∧ (hidT s.heap H).Ns mainGlobals mg := by
  have free : ∀ {b : Addr} {o : Obj}, s.heap.get? b = some o → (∀ its k, o ≠ { cls := .type "list", data := .seq its k }) → H b = none := fun {b o} q ne => by
    cases hb : H b with
    | none => rfl
    | some u =>
      have e := only b (by rw [hb]; exact fun z => nomatch z)
      rw [e, sc] at q
      exact absurd (Option.some.inj q).symm (ne _ _)
  have ns : ∀ {b : Addr} {m : Str → Option Value}, s.heap.Ns b m → (hidT s.heap H).Ns b m := fun {b m} ⟨o, es, ep, q, dq, r⟩ =>
    ⟨o, es, ep, hidT_get q (free q fun its k z => by rw [z] at dq; cases dq), dq, r⟩
  have kin : K.In (hidT s.heap H) := fun b o q => hidT_get (inK b o q) (by
    cases hb : H b with
    | none => rfl
    | some u =>
      have e := only b (by rw [hb]; exact fun z => nomatch z)
      rw [e] at hb q
      rw [nk (by rw [hb]; exact fun z => nomatch z)] at q
      cases q)
  obtain ⟨mc, l1, l2⟩ := lim
  exact ⟨{ frames := rfl, mod := ⟨kin, ns gl, ⟨mb, ns bl, bb⟩, ⟨mc, ns l1, l2⟩⟩, bs := fun b o q => of_hidT q, bsz := Nat.le_of_eq (hidT_size _ _), funs := trivial, frf := (fun b hb => (nomatch hb)), hok := ok, bare := AllBare.of_eq gens }, kin, ns gl⟩
end
/-- a law that hands back True at every script -/
theorem lawD {l : PySem.W.OpenLaw} {n : Nat} {q : Program} {loose : List Str} {XP : (Str → Option Value) → Heap → Prop} {YP : World → Heap → Prop} {d : DefRec} {x : Str} (hn : l.most = some n) (hn2 : n ≤ sizeLine) (hdf : d.params.defaults = [])
    (hF : ∀ (w : World) (mg : Str → Option Value) (fa : Addr) (h : Heap), YP w h → h.Ns mainGlobals mg → mg d.name = some (.ref fa) →
      ∃ (K : PySem.W.Frag) (fd : FuncData) (k : Nat) (F : Fd), Room k callerA ∧ K.In h ∧ (∀ (s : Shared) (u : Value), BindsTo s fd ⟨[u], []⟩ [(x, u)]) ∧ (∀ ns : List Int, ns.length ≤ n → ∃ st, F [.rol (ns.map D.int)] [] = .ok (.bl true) st) ∧
        ∀ base : Heap, K.In base → base.Ns mainGlobals mg → FnG l.prog w K mg base k fa fd [x] (spD K 1 F)) :
    PySem.W.WalkO q loose XP YP l.row.toRowW d [] (fun f vs => PySem.call f vs) := by
  refine Att.attach_call hn hdf fun w s0 s mg mb fa o pm cd doc a vs ns G Y ho hd hcd hmg sc hints hlen gens => ?_
  obtain ⟨K, fd, k, F, room, inK, bind, tru, prom⟩ := hF w mg fa _ Y G.T.g hmg
  have rv := L2.vals_ints hints
  have lv := hints.length
  have zl : ns.length ≤ sizeLine := Nat.le_trans hlen hn2
  have key : ∀ H : Hp, (∀ b, H b = none ∨ ∃ o xs, H b = some (.frz o (.lst xs))) → (∀ b, H b ≠ none → b = a) → (H a ≠ none → K.lookup a = none) → HOk l.prog w H s.heap →
      (((∃ o, H a = some (.frz o (.lst (ns.map V.int)))) ∧ a ∉ ([] : List Addr) ∧ a ∉ ([] : List Addr)) ∨ LK K a (ns.map V.int)) →
      codeAny (model l.prog w) callerA (.call (.ref fa) ⟨[.ref a], []⟩) (fun r s' => r = .ok (.ret (.bool true)) ∧ OldK s.heap s'.heap ∧ s'.os = s.os ∧ AllBare s'.gens) s := by
    intro H hO only nk ok rep
    obtain ⟨env, kin, nsB⟩ := ground inK G.T.g G.T.b G.T.builtins G.T.nolimit gens sc ok only nk
    obtain ⟨st, ht⟩ := tru ns hlen
    refine codeAny_mono ((prom _ kin nsB).run callerA [] s H ⟨[.ref a], []⟩ [.ref a] [.ref a] (fun v _ => v = .bl true) (fun _ _ _ => False) room rfl env (bind s (.ref a)) (.cons rfl .nil)
      ⟨[], [.rol (ns.map D.int)], [], [], rfl, .cons (Rep.rol_iff.mpr ⟨a, _, rfl, rep, RepL.ints ns⟩) .nil, ⟨fun b hb => (nomatch hb), rfl, .nil, fun i c z => (nomatch z)⟩, ?_⟩) fun r s' hr => ?_
    · rw [ht]
      exact fun v H' m' _ r _ => Rep.bl_iff.mp r
    · match r, hr with
      | .error e, hr => exact (CX_false hr).elim
      | .ok .next, hr => exact hr.elim
      | .ok .brk, hr => exact hr.elim
      | .ok .cont, hr => exact hr.elim
      | .ok (.ret u), ⟨v, H', os, bare, un, ok', rel, tv⟩ =>
        cases tv
        cases (show u = Value.bool true from rel)
        refine ⟨rfl, OldK.of_keep fun b o q => ?_, os, bare⟩
        rcases hO b with z | ⟨ob, xs, z⟩
        · exact un.keep b o q z (fun y => nomatch y) (fun y => nomatch y)
        · obtain ⟨q1, _⟩ := ok b _ z
          obtain ⟨q2, _⟩ := ok' b _ (un.frzs b ob _ z)
          rw [q] at q1
          cases q1
          exact q2
  cases hk : K.lookup a with
  | some o =>
    have q := inK a o hk
    rw [sc] at q
    cases q
    exact key (fun _ => none) (fun _ => .inl rfl) (fun _ z => absurd rfl z) (fun z => absurd rfl z) (fun _ _ z => nomatch z) (.inr ⟨_, vs.toArray, _, hk, rfl, rfl, rfl, by rw [List.size_toArray, lv]; exact zl, by simpa using rv⟩)
  | none =>
    refine key (fun b => if b = a then some (.frz { cls := .type "list", data := .seq vs.toArray } (.lst (ns.map V.int))) else none) (fun b => ?_) (fun b hb => ?_) (fun _ => hk) (fun b u z => ?_) (.inl ⟨⟨_, if_pos rfl⟩, fun z => (nomatch z), fun z => (nomatch z)⟩)
    · by_cases e : b = a
      · exact .inr ⟨_, _, if_pos e⟩
      · exact .inl (if_neg e)
    · by_cases e : b = a
      · exact e
      · exact absurd (if_neg e) hb
    · by_cases e : b = a
      · subst e
        cases (if_pos rfl).symm.trans z
        exact ⟨sc, by rw [List.length_map]; exact zl, vs, _, rv, sc⟩
      · cases (if_neg e).symm.trans z
end DL
namespace DL
open PySem PySem.Spec PyProof.Rows L2
inductive Kd where | l | t
def SqK (K : PySem.W.Frag) : Kd → Hp → Addr → List V → Prop
  | .l, H, a, xs => SqL K H a xs
  | .t, H, a, xs => SqT K H a xs
def ItS : Kd → Heap → Addr → Addr → Nat → Prop
  | .l, h, it, a, i => h.IsListIter it a i
  | .t, h, it, a, i => h.IsTupleIter it a i
def IsS : Kd → Heap → Addr → Array Value → Prop
  | .l, h, a, x => h.IsList a x
  | .t, h, a, x => h.IsTuple a x
def beginO : Kd → Addr → Obj
  | .l, a => { cls := .type "list_iterator", data := .fields #[.ref a, .int 0 0] }
  | .t, a => { cls := .type "tuple_iterator", data := .fields #[.ref a, .int 0 0] }
section
variable {X : Cx} {pins : List (Addr × Obj)} {σ : Sg} {H : Hp} {s : Shared} {k : Kd} {a : Addr} {xs ys : List V}
theorem sqk_vals (I : Inv X pins σ H s) (h : SqK X.K k H a xs) : ∃ its : List Value, Vals xs its ∧ IsS k s.heap a its.toArray := by
  cases k with
  | l => obtain ⟨its, r, p, _⟩ := I.list h; exact ⟨its, r, p.isList⟩
  | t => obtain ⟨its, r, p, _⟩ := I.tuple h; exact ⟨its, r, p⟩
theorem sqk_inj (I : Inv X pins σ H s) (h : SqK X.K k H a xs) (h' : SqK X.K k H a ys) : xs = ys := by
  cases k with
  | l => exact I.list_inj h h'
  | t => exact I.tuple_inj h h'
theorem its_at {h h' : Heap} {it a : Addr} {i : Nat} (x : ItS k h it a i) (hk : ∀ o, h.get? it = some o → h'.get? it = some o) : ItS k h' it a i := by
  cases k with
  | l => exact Heap.IsListIter.at x hk
  | t => exact Heap.IsTupleIter.at x hk
theorem iss_at {h h' : Heap} {a : Addr} {v : Array Value} (x : IsS k h a v) (hk : ∀ o, h.get? a = some o → h'.get? a = some o) : IsS k h' a v := by
  cases k with
  | l => exact Heap.IsList.at x hk
  | t => exact Heap.IsTuple.at x hk
theorem iss_lt {h : Heap} {a : Addr} {v : Array Value} (x : IsS k h a v) : ∃ o, h.get? a = some o := by
  cases k with
  | l => obtain ⟨o, e, _⟩ := x; exact ⟨o, e⟩
  | t => obtain ⟨o, e, _⟩ := x; exact ⟨o, e⟩
theorem its_obj {h : Heap} {it a : Addr} {i : Nat} (x : ItS k h it a i) : ∃ o, h.get? it = some o ∧ ∀ v, o.data ≠ .cell v := by
  cases k with
  | l => obtain ⟨o, e, c, d⟩ := x; exact ⟨o, e, fun v q => by rw [d] at q; cases q⟩
  | t => obtain ⟨o, e, c, d⟩ := x; exact ⟨o, e, fun v q => by rw [d] at q; cases q⟩
theorem its_begin {h : Heap} {it a : Addr} (x : h.get? it = some (beginO k a)) : ItS k h it a 0 := by
  cases k with
  | l => exact ⟨_, x, rfl, rfl⟩
  | t => exact ⟨_, x, rfl, rfl⟩
theorem begins_k (k : Kd) (a : Addr) (items : Array Value) : Begins (.ref a) (beginO k a) fun h => IsS k h a items := by
  cases k with
  | l => exact begins_list a items
  | t => exact begins_tuple a items
theorem draws_k {prog : Program} {w : World} {A : Around} (k : Kd) (hh : A.handled = none) (it a : Addr) (hne : a ≠ it) (items : Array Value) :
    Draws prog w A it [it, a] items.size (fun i v => items[i]? = some v) (fun i h => ItS k h it a i ∧ IsS k h a items) := by
  cases k with
  | l => exact Draws.list hh it a hne items
  | t => exact Draws.tuple hh it a hne items
end
def ItE (K : PySem.W.Frag) (k : Kd) (a : Addr) : It :=
  ⟨fun i H => ∃ (xs : List V) (x : V), SqK K k H a xs ∧ xs[i]? = some x,
    fun i H v H' => ∃ T x, v = .ref T ∧ H T = none ∧ H' = upd H T (.tup [.int (i : Nat), x]) ∧ ∀ xs, SqK K k H a xs → xs[i]? = some x,
    fun i H => ∃ xs : List V, SqK K k H a xs ∧ xs.length = i⟩
theorem turn_en {P : Program} {w : World} {K : PySem.W.Frag} {k : Kd} {elts : List Expr} {kk : Nat} {tpos : Pos} (a e it : Addr) (hei : e ≠ it) (hai : a ≠ it) (hae : a ≠ e) :
    Turn P w K (.Tuple elts kk tpos) (ItE K k a) [e, it] e (fun i h => (∃ old, IsEnum h e it (0 + (i : Int)) old) ∧ ItS k h it a i) where
  mem := by simp
  obj := fun i h st b hb => by
    obtain ⟨⟨old, he⟩, hi⟩ := st
    rcases List.mem_cons.mp hb with z | z
    · rw [z]; exact ⟨_, he, fun v q => nomatch q⟩
    · rw [List.mem_singleton.mp z]; exact its_obj hi
  keep := fun i h h' st kp => ⟨st.1.imp fun old he => kp e (by simp) _ he, its_at st.2 fun o q => kp it (by simp) o q⟩
  item := by
    intro X hP hw hK hc i pins s σ H E I hf st hg
    subst hP hw hK
    obtain ⟨⟨old, he⟩, hi⟩ := st
    obtain ⟨xs, x, hq, hx⟩ := hg
    obtain ⟨its, rv, p⟩ := sqk_vals I hq
    obtain ⟨u, hu, ru⟩ := rv.get hx
    have W := WalksT.enumFrom (prog := X.prog) (w := X.w) (A := X.A) 0 (draws_k (A := X.A.in1) k (I.ok.hd hc) it a hai its.toArray) e hei (by simp [hei, Ne.symm hae]) (by simp)
    have hlt : i < its.toArray.size := by
      have := (List.getElem?_eq_some_iff.mp hu).1
      simpa using this
    refine W.item i s _ E hlt ⟨⟨old, he⟩, hi, p⟩ fun T vals h' tk hp hle hT mid hk => ?_
    obtain ⟨t, x', hx', rfl⟩ := hp
    have ex : x' = u := by
      have h2 : its[i]? = some x' := by simpa using hx'
      rw [hu] at h2; exact (Option.some.inj h2).symm
    subst ex
    have nT : T ∉ [e, it] := W.apart _ _ _ mid
    refine ⟨.ref T, rfl, W.go elts kk tpos i T { s with heap := h', toks := tk } _ E mid fun h'' st'' hk2 => ?_⟩
    have hT2 : h''.IsTuple T #[.int (0 + (i : Int)) t, x'] := hT.at fun o q => hk2 T o nT q
    have new : ObjOk X.prog X.w (upd H T (.tup [.int (i : Nat), x])) h'' T (.tup [.int (i : Nat), x]) :=
      ⟨by show 2 ≤ sizeLine; decide, [.int (0 + (i : Int)) t, x'], .cons ⟨t, by rw [Int.zero_add]⟩ (.cons ru .nil), hT2⟩
    have I1 : Inv X pins σ (upd H T (.tup [.int (i : Nat), x])) { s with heap := h'', toks := tk } :=
      I.turnedNew (ch := [e, it]) (fun b ob hb q => hk2 b ob hb (hk b ob hb q)) hf hle new
    refine ⟨.ref T, _, I1, rfl, ⟨T, x, rfl, I.hok.fresh hle, rfl, fun ys hy => by rw [sqk_inj I hy hq]; exact hx⟩, ⟨st''.1, st''.2.1⟩, fun b hb => ?_⟩
    rw [upd_ne (fun z => nT (by rw [← z]; exact hb))]
    exact (hf b hb).1
  done := by
    intro X hP hw hK hc i pins s σ H E I hf st hg
    subst hP hw hK
    obtain ⟨⟨old, he⟩, hi⟩ := st
    obtain ⟨xs, hq, hx⟩ := hg
    obtain ⟨its, rv, p⟩ := sqk_vals I hq
    have W := WalksT.enumFrom (prog := X.prog) (w := X.w) (A := X.A) 0 (draws_k (A := X.A.in1) k (I.ok.hd hc) it a hai its.toArray) e hei (by simp [hei, Ne.symm hae]) (by simp)
    have hl : its.toArray.size = i := by
      rw [List.size_toArray, ← rv.length]; exact hx
    refine W.done s _ E (by rw [hl]; exact ⟨⟨old, he⟩, hi, p⟩) fun h' tk hk => ⟨rfl, I.turnedL (ch := [e, it]) hk hf⟩
  self := fun A i s Q E st h => by obtain ⟨⟨_, he⟩, _⟩ := st; exact wpAny_pyIter_enum he h
set_option maxHeartbeats 1000000 in
theorem meets_en1 {v : Value} {o : Obj} {H : Heap → Prop} (B : Begins v o H) :
    Meets (Builtin.«enumerate.__new__» ⟨[.type "enumerate", v], []⟩) (fun _ R s => H s.heap ∧
      R (.ok (.ret (.ref (s.heap.push o).objs.size))) { s with heap := (s.heap.push o).push { cls := .type "enumerate", data := .fields #[.none, .bool false, .ref s.heap.objs.size, rawInt 0, .none, .none] } }) :=
  .of_wp fun prog w A R s h => by
    obtain ⟨hp, g, d, tk, os⟩ := s
    obtain ⟨hH, h⟩ := h
    have hsub := sub_enumerate
    have it1 : ∀ {A' : Around} {E Q : Value → Shared → Prop}, Q (.ref hp.objs.size) ⟨hp.push o, g, d, tk, os⟩ → wpAny (model prog w) A' (pyIter v) Q E ⟨hp, g, d, tk, os⟩ :=
      fun q => B.iter prog w _ _ ⟨hp, g, d, tk, os⟩ _ hH q
    wp_walk using it1
    refine wpAny_stack_any fun st => wpAny_pure ?_
    split
    · rename_i c _ _ _ _ _
      by_cases e : (c == Value.type "enumerate") = true
      · rw [e]
        wp_walk using it1
        exact ⟨_, rfl, h⟩
      · rw [Bool.not_eq_true] at e
        rw [e]
        wp_walk using it1
        exact ⟨_, rfl, h⟩
    · wp_walk using it1
      exact ⟨_, rfl, h⟩
section
variable {prog : Program} {w : World} {A : Around} {E : Value → Shared → Prop} {s : Shared}
theorem call_en1 {v : Value} {o : Obj} {H : Heap → Prop} {Q : Value → Shared → Prop} (B : Begins v o H) (h1 : H s.heap)
    (h : ∀ h', IsEnum h' (s.heap.objs.size + 1) s.heap.objs.size 0 .none → h'.get? s.heap.objs.size = some o →
      (∀ b o, s.heap.get? b = some o → h'.get? b = some o) → Q (.ref (s.heap.objs.size + 1)) { s with heap := h' }) :
    wpAny (model prog w) A (call (.type "enumerate") [v]) Q E s := by
  have hz : (s.heap.push o).objs.size = s.heap.objs.size + 1 := Heap.size_push ..
  refine callType_new F.called_enumerate (by decide) (F.typeCall_enumerate_1 _) (F.newCall_enumerate_1 _) (fun obj => F.args_object_init_2 obj _) F.entry_enumerate_new (meets_en1 B) ⟨h1, ?_⟩
  show _ ∧ _
  rw [hz]
  have he : IsEnum ((s.heap.push o).push { cls := .type "enumerate", data := .fields #[.none, .bool false, .ref s.heap.objs.size, rawInt 0, .none, .none] }) (s.heap.objs.size + 1) s.heap.objs.size 0 .none := by
    have q := Heap.get?_push_size (s.heap.push o) (o := { cls := .type "enumerate", data := .fields #[.none, .bool false, .ref s.heap.objs.size, rawInt 0, .none, .none] }) rfl
    rw [hz] at q; exact q
  exact ⟨⟨_, he, rfl⟩, h _ he (Heap.get?_push_of_some _ (Heap.get?_push_size _ B.free)) fun b o x => Heap.get?_push_of_some _ (Heap.get?_push_of_some _ x)⟩
end
def iEn (K : PySem.W.Frag) (ta : TA) : TI := fun σ H R => ta σ H fun vs H1 => ∃ k a xs, vs = [.ref a] ∧ SqK K k H1 a xs ∧ R (ItE K k a) H1
theorem pi_en {X : Cx} {e : Expr} {ta : TA} {p pos tpos : Pos} {elts : List Expr} {kk : Nat} (hg : Gl X "enumerate") (hm : X.mg "enumerate" = none) (ha : PA X [e] ta) (hs : starEach [e] X.env = [(false, eval e X.env)] := by rfl) :
    PI X (.Tuple elts kk tpos) (.Call (.Name "enumerate" p) [e] [] pos) (iEn X.K ta) := by
  refine ⟨fun pins s σ H R I h => Call_ (ld_blt I hg hm boot_enumerate (PyProof.Rows.callWith_type1 (thn (ha.run pos pins s σ H _ I h) fun us s1 ⟨vs, H1, I1, r1, q1⟩ => ?_) hs rfl))⟩
  obtain ⟨k, a, xs, rfl, hq, q⟩ := q1
  cases r1 with
  | cons r rr =>
    cases rr
    cases r
    obtain ⟨its, rv, p'⟩ := sqk_vals I1 hq
    obtain ⟨oa, ho⟩ := iss_lt p'
    have hal : a < s1.heap.objs.size := Heap.lt_size ho
    refine call_en1 (begins_k k a its.toArray) p' fun h' he hi hk => wpAny_pyIter_enum he ?_
    have I2 : Inv X pins σ H1 { s1 with heap := h' } := I1.kept (t' := s1.toks) hk
    have he0 : IsEnum h' (s1.heap.objs.size + 1) s1.heap.objs.size (0 + ((0 : Nat) : Int)) .none := by rw [show (0 : Int) + ((0 : Nat) : Int) = 0 from rfl]; exact he
    have hi0 : ItS k h' s1.heap.objs.size a 0 := its_begin hi
    refine ⟨s1.heap.objs.size + 1, [s1.heap.objs.size + 1, s1.heap.objs.size], _, _, H1, rfl, I2,
      turn_en a (s1.heap.objs.size + 1) s1.heap.objs.size (Nat.succ_ne_self _) (Nat.ne_of_lt hal) (Nat.ne_of_lt (Nat.lt_succ_of_lt hal)), ⟨⟨.none, he0⟩, hi0⟩, fun b hb => ?_, q⟩
    have hle : s1.heap.objs.size ≤ b := by
      rcases List.mem_cons.mp hb with z | z
      · rw [z]; exact Nat.le_add_right _ _
      · rw [List.mem_singleton.mp z]; exact Nat.le_refl _
    exact I1.fpOk hle (I1.hok.fresh hle)
def ItZ (K : PySem.W.Frag) (k1 k2 : Kd) (a b : Addr) : It :=
  ⟨fun i H => ∃ (xs ys : List V) (x y : V), SqK K k1 H a xs ∧ SqK K k2 H b ys ∧ xs[i]? = some x ∧ ys[i]? = some y,
    fun i H v H' => ∃ T x y, v = .ref T ∧ H T = none ∧ H' = upd H T (.tup [x, y]) ∧ (∀ xs, SqK K k1 H a xs → xs[i]? = some x) ∧ ∀ ys, SqK K k2 H b ys → ys[i]? = some y,
    fun i H => ∃ xs ys : List V, SqK K k1 H a xs ∧ SqK K k2 H b ys ∧ min xs.length ys.length = i⟩
theorem turn_zp {P : Program} {w : World} {K : PySem.W.Frag} {k1 k2 : Kd} {elts : List Expr} {kk : Nat} {tpos : Pos} {z TI TO i1 i2 : Addr} (a b : Addr) (S : ZipSep2 z TI TO i1 i2 [i1, a] [i2, b]) (ha1 : a ≠ i1) (hb2 : b ≠ i2) :
    Turn P w K (.Tuple elts kk tpos) (ItZ K k1 k2 a b) [z, TI, TO, i1, i2] z (fun i h => IsZip h z TI TO .none ∧ IsTupOf2 h TI (.ref i1) (.ref i2) ∧ (∃ x y, IsTupOf2 h TO x y) ∧ ItS k1 h i1 a i ∧ ItS k2 h i2 b i) where
  mem := by simp
  obj := fun i h st c hc => by
    obtain ⟨hz, hTI, ⟨x, y, hTO⟩, h1, h2⟩ := st
    simp only [List.mem_cons, List.not_mem_nil, or_false] at hc
    rcases hc with q | q | q | q | q
    · rw [q]; exact ⟨_, hz, fun v q => nomatch q⟩
    · rw [q]; exact ⟨_, hTI, fun v q => nomatch q⟩
    · rw [q]; exact ⟨_, hTO, fun v q => nomatch q⟩
    · rw [q]; exact its_obj h1
    · rw [q]; exact its_obj h2
  keep := fun i h h' st kp => ⟨kp z (by simp) _ st.1, kp TI (by simp) _ st.2.1, st.2.2.1.imp fun x hx => hx.imp fun y hy => kp TO (by simp) _ hy, its_at st.2.2.2.1 fun o q => kp i1 (by simp) o q, its_at st.2.2.2.2 fun o q => kp i2 (by simp) o q⟩
  item := by
    intro X hP hw hK hc i pins s σ H E I hf st hg
    subst hP hw hK
    obtain ⟨hz, hTI, hTO, h1, h2⟩ := st
    obtain ⟨xs, ys, x, y, hqx, hqy, hx, hy⟩ := hg
    obtain ⟨its, rv, p⟩ := sqk_vals I hqx
    obtain ⟨its2, rv2, p2⟩ := sqk_vals I hqy
    obtain ⟨u, hu, ru⟩ := rv.get hx
    obtain ⟨u2, hu2, ru2⟩ := rv2.get hy
    have W := WalksT.zipD2 (prog := X.prog) (w := X.w) (A := X.A) S (draws_k (A := X.A.in1) k1 (I.ok.hd hc) i1 a ha1 its.toArray) (draws_k (A := X.A.in1) k2 (I.ok.hd hc) i2 b hb2 its2.toArray)
    have hlt : i < min its.toArray.size its2.toArray.size := by
      have q1 := (List.getElem?_eq_some_iff.mp hu).1
      have q2 := (List.getElem?_eq_some_iff.mp hu2).1
      simp only [List.size_toArray]
      omega
    refine W.item i s _ E hlt ⟨hz, hTI, hTO, ⟨h1, p⟩, h2, p2⟩ fun T vals h' tk hp hle hT mid hk => ?_
    obtain ⟨x1, x2, hx1, hx2, rfl⟩ := hp
    have e1 : x1 = u := by
      have h3 : its[i]? = some x1 := by simpa using hx1
      rw [hu] at h3; exact (Option.some.inj h3).symm
    have e2 : x2 = u2 := by
      have h3 : its2[i]? = some x2 := by simpa using hx2
      rw [hu2] at h3; exact (Option.some.inj h3).symm
    subst e1 e2
    have nT : T ∉ [z, TO, i1, i2] := W.apart _ _ _ mid
    refine ⟨.ref T, rfl, W.go elts kk tpos i T { s with heap := h', toks := tk } _ E mid fun h'' st'' hk2 => ?_⟩
    have hT2 : h''.IsTuple T #[x1, x2] := hT.at fun o q => hk2 T o nT q
    have new : ObjOk X.prog X.w (upd H T (.tup [x, y])) h'' T (.tup [x, y]) :=
      ⟨by show 2 ≤ sizeLine; decide, [x1, x2], .cons ru (.cons ru2 .nil), hT2⟩
    have sub : ∀ c, c ∉ [z, TI, TO, i1, i2] → c ∉ [z, TO, i1, i2] := fun c hn hm => hn (by
      simp only [List.mem_cons, List.not_mem_nil, or_false] at hm ⊢
      rcases hm with q | q | q | q <;> simp [q])
    have I1 : Inv X pins σ (upd H T (.tup [x, y])) { s with heap := h'', toks := tk } :=
      I.turnedNew (ch := [z, TI, TO, i1, i2]) (fun c ob hb q => hk2 c ob (sub c hb) (hk c ob (sub c hb) q)) hf hle new
    refine ⟨.ref T, _, I1, rfl, ⟨T, x, y, rfl, I.hok.fresh hle, rfl, fun l hl => by rw [sqk_inj I hl hqx]; exact hx, fun l hl => by rw [sqk_inj I hl hqy]; exact hy⟩,
      ⟨st''.1, st''.2.1, st''.2.2.1, st''.2.2.2.1.1, st''.2.2.2.2.1⟩, fun c hcm => ?_⟩
    have hcs : ∃ o, s.heap.get? c = some o := by
      simp only [List.mem_cons, List.not_mem_nil, or_false] at hcm
      rcases hcm with q | q | q | q | q
      · rw [q]; exact ⟨_, hz⟩
      · rw [q]; exact ⟨_, hTI⟩
      · rw [q]; obtain ⟨_, _, q⟩ := hTO; exact ⟨_, q⟩
      · rw [q]; obtain ⟨o, q, _⟩ := its_obj h1; exact ⟨o, q⟩
      · rw [q]; obtain ⟨o, q, _⟩ := its_obj h2; exact ⟨o, q⟩
    obtain ⟨o, ho⟩ := hcs
    rw [upd_ne (Nat.ne_of_lt (Nat.lt_of_lt_of_le (Heap.lt_size ho) hle))]
    exact (hf c hcm).1
  done := by
    intro X hP hw hK hc i pins s σ H E I hf st hg
    subst hP hw hK
    obtain ⟨hz, hTI, hTO, h1, h2⟩ := st
    obtain ⟨xs, ys, hqx, hqy, hend⟩ := hg
    obtain ⟨its, rv, p⟩ := sqk_vals I hqx
    obtain ⟨its2, rv2, p2⟩ := sqk_vals I hqy
    have W := WalksT.zipD2 (prog := X.prog) (w := X.w) (A := X.A) S (draws_k (A := X.A.in1) k1 (I.ok.hd hc) i1 a ha1 its.toArray) (draws_k (A := X.A.in1) k2 (I.ok.hd hc) i2 b hb2 its2.toArray)
    have hl : min its.toArray.size its2.toArray.size = i := by
      rw [List.size_toArray, List.size_toArray, ← rv.length, ← rv2.length]; exact hend
    refine W.done s _ E (by rw [hl]; exact ⟨hz, hTI, hTO, ⟨h1, p⟩, h2, p2⟩) fun h' tk hk => ⟨rfl, I.turnedL (ch := [z, TI, TO, i1, i2]) (fun c o hb q => hk c o (fun hm => hb ?_) q) hf⟩
    simp only [List.mem_cons, List.not_mem_nil, or_false] at hm ⊢
    rcases hm with q | q | q | q <;> simp [q]
  self := fun A i s Q E st h => wpAny_pyIter_zip st.1 h
def iZp (K : PySem.W.Frag) (ta : TA) : TI := fun σ H R => ta σ H fun vs H1 => ∃ k1 k2 a b xs ys, vs = [.ref a, .ref b] ∧ SqK K k1 H1 a xs ∧ SqK K k2 H1 b ys ∧ R (ItZ K k1 k2 a b) H1
theorem pi_zp {X : Cx} {e e2 : Expr} {ta : TA} {p pos tpos : Pos} {elts : List Expr} {kk : Nat} (hg : Gl X "zip") (hm : X.mg "zip" = none) (ha : PA X [e, e2] ta)
    (hs : starEach [e, e2] X.env = (false, eval e X.env) :: starEach [e2] X.env := by rfl) (hpl : (backTo pos (starEach [e2] X.env)).any (·.1) = false := by rfl) :
    PI X (.Tuple elts kk tpos) (.Call (.Name "zip" p) [e, e2] [] pos) (iZp X.K ta) := by
  refine ⟨fun pins s σ H R I h => Call_ (ld_blt I hg hm PyProof.Rows.boot_zip (PyProof.Rows.callWith_type1 (thn (ha.run pos pins s σ H _ I h) fun us s1 ⟨vs, H1, I1, r1, q1⟩ => ?_) hs hpl))⟩
  obtain ⟨k1, k2, a, b, xs, ys, rfl, hqx, hqy, q⟩ := q1
  cases r1 with
  | cons r rr =>
   cases rr with
   | cons r' rr =>
    cases rr
    cases r
    cases r'
    obtain ⟨its, rv, p1⟩ := sqk_vals I1 hqx
    obtain ⟨its2, rv2, p2⟩ := sqk_vals I1 hqy
    obtain ⟨oa, ho⟩ := iss_lt p1
    obtain ⟨ob, ho2⟩ := iss_lt p2
    have hal : a < s1.heap.objs.size := Heap.lt_size ho
    have hbl : b < s1.heap.objs.size := Heap.lt_size ho2
    refine zip_begins2 (begins_k k1 a its.toArray) (begins_k k2 b its2.toArray) p1 p2 fun h' hz hTI hTO h1 h2 hsz hk => wpAny_pyIter_zip hz ?_
    have I2 : Inv X pins σ H1 { s1 with heap := h' } := I1.kept (t' := s1.toks) hk
    refine ⟨s1.heap.objs.size + 4, [s1.heap.objs.size + 4, s1.heap.objs.size + 2, s1.heap.objs.size + 3, s1.heap.objs.size, s1.heap.objs.size + 1], _, _, H1, rfl, I2,
      turn_zp a b (zip_sep2 (N := s1.heap.objs.size) (fp1 := [a]) (fp2 := [b]) (by simpa using hal) (by simpa using hbl)) (Nat.ne_of_lt hal) (Nat.ne_of_lt (Nat.lt_succ_of_lt hbl)), ⟨hz, hTI, ⟨_, _, hTO⟩, its_begin h1, its_begin h2⟩, fun c hcm => ?_, q⟩
    have hle : s1.heap.objs.size ≤ c := by
      simp only [List.mem_cons, List.not_mem_nil, or_false] at hcm
      rcases hcm with z | z | z | z | z
      · rw [z]; exact Nat.le_add_right _ _
      · rw [z]; exact Nat.le_add_right _ _
      · rw [z]; exact Nat.le_add_right _ _
      · rw [z]; exact Nat.le_refl _
      · rw [z]; exact Nat.le_add_right _ _
    exact I1.fpOk hle (I1.hok.fresh hle)
end DL
namespace DL
open PySem PySem.Spec PyProof.Rows L2
/-- where the items stand, now and later -/
def Src (K : PySem.W.Frag) (B : List Addr) (k : Kd) (a : Addr) (items : List D) (ws : List Nat) (s1 : Store) (H1 : Hp) (m1 : List Addr) : Prop :=
  ∀ (B' : List Addr) (H : Hp) (m : List Addr) (st : Store), (∀ b ∈ B', b ∈ B ∨ H1 b = none) → Evo H1 m1 H m → RepSt ⟨K, B'⟩ H m st → sameAt ws s1 st = true → ∃ vs, SqK K k H a vs ∧ RepL ⟨K, B'⟩ H m items vs
theorem seqI_src {K : PySem.W.Frag} {B : List Addr} {H1 : Hp} {m1 : List Addr} {s1 : Store} {d : D} {x : V} {p : List D × List Nat} (rs : RepSt ⟨K, B⟩ H1 m1 s1) (r : Rep ⟨K, B⟩ H1 m1 d x) (hp : seqI s1 d = some p) :
    ∃ a k, x = .ref a ∧ (∃ xs, SqK K k H1 a xs) ∧ Src K B k a p.1 p.2 s1 H1 m1 := by
  cases d with
  | tup ds =>
    cases hp
    obtain ⟨a, vs, rfl, h1, h2⟩ := Rep.tup_iff.mp r
    have key : ∀ {H : Hp} {m : List Addr}, Evo H1 m1 H m → SqT K H a vs := fun {H m} e => by
      rcases h1 with ⟨h1, n, _⟩ | h1
      · exact .inl (e.rd h1 n).1
      · exact .inr h1
    exact ⟨a, .t, rfl, ⟨vs, key .refl⟩, fun B' H m st hb e rs' _ => ⟨vs, key e, RepL.evo e _ _ (h2.ban hb)⟩⟩
  | lst ds =>
    cases hp
    obtain ⟨a, vs, rfl, h1, h2⟩ := Rep.lst_iff.mp r
    exact ⟨a, .l, rfl, ⟨vs, .of h1.1⟩, fun B' H m st hb e rs' _ => ⟨vs, .of (e.keep a _ h1.1 h1.2.1).1, RepL.evo e _ _ (h2.ban hb)⟩⟩
  | rol ds =>
    cases hp
    obtain ⟨a, vs, rfl, h1, h2⟩ := Rep.rol_iff.mp r
    have key : ∀ {H : Hp} {m : List Addr}, Evo H1 m1 H m → SqL K H a vs := fun {H m} e => by
      rcases h1 with ⟨⟨o, h1⟩, n, _⟩ | h1
      · exact .inl (.inr ⟨o, (e.keep a _ h1 n).1⟩)
      · exact .inr h1
    exact ⟨a, .l, rfl, ⟨vs, key .refl⟩, fun B' H m st hb e rs' _ => ⟨vs, key e, RepL.evo e _ _ (h2.ban hb)⟩⟩
  | loc l =>
    simp only [seqI] at hp
    cases hq : s1[l]? with
    | none => rw [hq] at hp; cases hp
    | some c =>
      rw [hq] at hp
      cases c with
      | lst ds =>
        cases hp
        obtain ⟨a, vs, rfl, hm, hH, rl⟩ := loc_lst rs r hq
        refine ⟨a, .l, rfl, ⟨vs, .of hH⟩, fun B' H m st hb e rs' w => ?_⟩
        obtain ⟨c, q1, q2⟩ := sameAt_get w (List.mem_singleton.mpr rfl)
        rw [hq] at q1; cases q1
        obtain ⟨b, h3, vs', h4, h5⟩ := rs'.cell l _ q2
        rw [e.get hm] at h3; cases h3
        exact ⟨vs', .of h4, h5⟩
      | dic _ => cases hp
      | ins _ _ => cases hp
  | _ => cases hp
/-- the items with their numbers -/
def enum0 : Nat → List D → List D
  | _, [] => []
  | n, d :: ds => .tup [.int (n : Nat), d] :: enum0 (n + 1) ds
theorem enum0_length : ∀ (n : Nat) (ds : List D), (enum0 n ds).length = ds.length
  | _, [] => rfl
  | n, d :: ds => by simp [enum0, enum0_length (n + 1) ds]
theorem enum0_get : ∀ (n : Nat) (ds : List D) (i : Nat), (enum0 n ds)[i]? = ds[i]?.map fun d => .tup [.int (n + i : Nat), d]
  | _, [], i => by simp [enum0]
  | n, d :: ds, 0 => by simp [enum0]
  | n, d :: ds, i + 1 => by
    have e : n + 1 + i = n + (i + 1) := by omega
    simp [enum0, enum0_get (n + 1) ds i, e]
def zip2 : List D → List D → List D
  | a :: as, b :: bs => .tup [a, b] :: zip2 as bs
  | _, _ => []
theorem zip2_length : ∀ (xs ys : List D), (zip2 xs ys).length = min xs.length ys.length
  | [], ys => by simp [zip2]
  | _ :: _, [] => by simp [zip2]
  | a :: as, b :: bs => by simp [zip2, zip2_length as bs]
theorem zip2_get : ∀ (xs ys : List D) (i : Nat) (d : D), (zip2 xs ys)[i]? = some d → ∃ a b, xs[i]? = some a ∧ ys[i]? = some b ∧ d = .tup [a, b]
  | [], ys, i, d, h => by simp [zip2] at h
  | _ :: _, [], i, d, h => by simp [zip2] at h
  | a :: as, b :: bs, 0, d, h => by simp [zip2] at h; exact ⟨a, b, rfl, rfl, h.symm⟩
  | a :: as, b :: bs, i + 1, d, h => by simp [zip2] at h; simpa using zip2_get as bs i d h
section
variable {K : PySem.W.Frag} {B : List Addr} {H1 : Hp} {m1 : List Addr} {s1 : Store}
theorem it_en {k : Kd} {a : Addr} {items : List D} {ws : List Nat} (S : Src K B k a items ws s1 H1 m1) : ItRep K B (ItE K k a) (enum0 0 items) ws s1 H1 m1 := by
  refine ⟨fun B' i H m st hb hi e rs w => ?_, fun B' H m st hb e rs w => ?_, fun B' i d H m st x H' hb hi e rs w y => ?_⟩
  · obtain ⟨vs, q, r⟩ := S B' H m st hb e rs w
    rw [enum0_length] at hi
    have hv : i < vs.length := by rw [← r.length]; exact hi
    exact ⟨vs, vs[i], q, by simp [hv]⟩
  · obtain ⟨vs, q, r⟩ := S B' H m st hb e rs w
    exact ⟨vs, q, by rw [enum0_length, r.length]⟩
  · obtain ⟨vs, q, r⟩ := S B' H m st hb e rs w
    obtain ⟨T, v, rfl, hT, rfl, hv⟩ := y
    have hx := hv vs q
    rw [enum0_get] at hi
    cases hd : items[i]? with
    | none => rw [hd] at hi; cases hi
    | some di =>
      rw [hd] at hi
      cases hi
      obtain ⟨v', h1, h2⟩ := r.get hd
      rw [hx] at h1; cases h1
      refine ⟨Grow.upd hT, ?_⟩
      have e1 : (0 + i : Nat) = i := Nat.zero_add i
      rw [e1]
      exact Rep.newT rs hT (.cons (Rep.int_iff.mpr rfl) (.cons h2 .nil))
theorem it_zp {k1 k2 : Kd} {a b : Addr} {it1 it2 : List D} {w1 w2 : List Nat} (S1 : Src K B k1 a it1 w1 s1 H1 m1) (S2 : Src K B k2 b it2 w2 s1 H1 m1) : ItRep K B (ItZ K k1 k2 a b) (zip2 it1 it2) (w1 ++ w2) s1 H1 m1 := by
  have spl : ∀ {st : Store}, sameAt (w1 ++ w2) s1 st = true → sameAt w1 s1 st = true ∧ sameAt w2 s1 st = true := fun {st} h => by
    unfold sameAt at h ⊢
    rw [List.all_append, Bool.and_eq_true] at h
    exact h
  refine ⟨fun B' i H m st hb hi e rs w => ?_, fun B' H m st hb e rs w => ?_, fun B' i d H m st x H' hb hi e rs w y => ?_⟩
  · obtain ⟨vs, q, r⟩ := S1 B' H m st hb e rs (spl w).1
    obtain ⟨us, q', r'⟩ := S2 B' H m st hb e rs (spl w).2
    rw [zip2_length] at hi
    have hv : i < vs.length := by rw [← r.length]; omega
    have hu : i < us.length := by rw [← r'.length]; omega
    exact ⟨vs, us, vs[i], us[i], q, q', by simp [hv], by simp [hu]⟩
  · obtain ⟨vs, q, r⟩ := S1 B' H m st hb e rs (spl w).1
    obtain ⟨us, q', r'⟩ := S2 B' H m st hb e rs (spl w).2
    exact ⟨vs, us, q, q', by rw [zip2_length, r.length, r'.length]⟩
  · obtain ⟨vs, q, r⟩ := S1 B' H m st hb e rs (spl w).1
    obtain ⟨us, q', r'⟩ := S2 B' H m st hb e rs (spl w).2
    obtain ⟨T, v, u, rfl, hT, rfl, hv, hu⟩ := y
    have hx := hv vs q
    have hy := hu us q'
    obtain ⟨da, db, ha, hb', rfl⟩ := zip2_get _ _ _ _ hi
    obtain ⟨v', h1, h2⟩ := r.get ha
    obtain ⟨u', h3, h4⟩ := r'.get hb'
    rw [hx] at h1; cases h1
    rw [hy] at h3; cases h3
    exact ⟨Grow.upd hT, Rep.newT rs hT (.cons h2 (.cons h4 .nil))⟩
end
def enI (st : Store) : List D → Option (List D × List Nat)
  | [d] => (seqI st d).map fun p => (enum0 0 p.1, p.2)
  | _ => none
def zpI (st : Store) : List D → Option (List D × List Nat)
  | [d, e] => (seqI st d).bind fun p => (seqI st e).map fun q => (zip2 p.1 q.1, p.2 ++ q.2)
  | _ => none
def iSt (g : Store → List D → Option (List D × List Nat)) (fa : Fa) : Fi := fun ρ st => (fa ρ st).bind fun ds s1 => liftI (g s1 ds) s1
section
variable {X : Cx} {W : WX} {fa : Fa} {p pos tpos : Pos} {elts : List Expr} {kk : Nat}
theorem di_en {e : Expr} (hm : X.mg "enumerate" = none) (ha : DA X W [e] fa) (hg : Gl X "enumerate" := by rfl) (hs : starEach [e] X.env = [(false, eval e X.env)] := by rfl) : DI X W (.Tuple elts kk tpos) (.Call (.Name "enumerate" p) [e] [] pos) (iSt enI fa) := by
  obtain ⟨⟨t, pt, q⟩, _⟩ := ha
  refine ⟨_, pi_en hg hm pt hs, fun B σ H ρ st m R re rs h => ?_⟩
  refine q B σ H ρ st m _ re rs (good_bindI h fun ds s1 vs H1 m1 e1 r1 rs1 h1 => ?_)
  match ds, h1, r1 with
  | [d], h1, r1 =>
    obtain ⟨v, r, rfl, rd, r1⟩ := r1.inv_cons
    cases r1.inv_nil
    simp only [enI] at h1
    cases hp : seqI s1 d with
    | none => rw [hp] at h1; exact h1.elim
    | some p =>
      rw [hp] at h1
      obtain ⟨a, k, rfl, ⟨xs, hq⟩, S⟩ := seqI_src rs1 rd hp
      exact ⟨k, a, xs, rfl, hq, h1 _ H1 m1 .refl rs1 (it_en S)⟩
  | [], h1, _ => exact h1.elim
  | _ :: _ :: _, h1, _ => exact h1.elim
theorem di_zp {e e2 : Expr} (hm : X.mg "zip" = none) (ha : DA X W [e, e2] fa) (hg : Gl X "zip" := by rfl) (hs : starEach [e, e2] X.env = (false, eval e X.env) :: starEach [e2] X.env := by rfl) (hpl : (backTo pos (starEach [e2] X.env)).any (·.1) = false := by rfl) :
    DI X W (.Tuple elts kk tpos) (.Call (.Name "zip" p) [e, e2] [] pos) (iSt zpI fa) := by
  obtain ⟨⟨t, pt, q⟩, _⟩ := ha
  refine ⟨_, pi_zp hg hm pt hs hpl, fun B σ H ρ st m R re rs h => ?_⟩
  refine q B σ H ρ st m _ re rs (good_bindI h fun ds s1 vs H1 m1 e1 r1 rs1 h1 => ?_)
  match ds, h1, r1 with
  | [d, d'], h1, r1 =>
    obtain ⟨v, r, rfl, rd, r1⟩ := r1.inv_cons
    obtain ⟨v', r, rfl, rd', r1⟩ := r1.inv_cons
    cases r1.inv_nil
    simp only [zpI] at h1
    cases hp : seqI s1 d with
    | none => rw [hp] at h1; exact h1.elim
    | some p =>
      cases hp' : seqI s1 d' with
      | none => rw [hp, hp'] at h1; exact h1.elim
      | some p' =>
        rw [hp, hp'] at h1
        obtain ⟨a, k, rfl, ⟨xs, hq⟩, S⟩ := seqI_src rs1 rd hp
        obtain ⟨a', k', rfl, ⟨xs', hq'⟩, S'⟩ := seqI_src rs1 rd' hp'
        exact ⟨k, k', a, a', xs, xs', rfl, hq, hq', h1 _ H1 m1 .refl rs1 (it_zp S S')⟩
  | [], h1, _ => exact h1.elim
  | [_], h1, _ => exact h1.elim
  | _ :: _ :: _ :: _, h1, _ => exact h1.elim
end
end DL
namespace DL
open PySem PySem.Spec PyProof.Rows L2
section
variable (l : Addr) (items : Array Value) (n : Nat) (dd : Option Addr) (sl : Array (Option Value)) (u : Tok)
theorem tmul_one :
    Meets (Builtin.«tuple.__mul__» ⟨[.ref l, .int 1 u], []⟩) (fun _ R s => s.heap.get? l = some { cls := .type "tuple", dict := dd, data := .seq items n, slots := sl } ∧ R (.ok (.ret (.ref l))) s) :=
  .of_wp fun prog w A R s h => by
    obtain ⟨hp, g, d, tk, os⟩ := s
    obtain ⟨hl, h⟩ := h
    have f1 := AutoSeq1.idx_int
    wp_walk using wpAny_loadPart' hl
    exact ⟨_, rfl, h⟩
theorem tmul_zero (k : Int) (hk : -(2 ^ 63) ≤ k) (hk0 : k ≤ 0) (hi : items.isEmpty = false) :
    Meets (Builtin.«tuple.__mul__» ⟨[.ref l, .int k u], []⟩) (fun _ R s => s.heap.get? l = some { cls := .type "tuple", dict := dd, data := .seq items n, slots := sl } ∧
      R (.ok (.ret (.ref s.heap.objs.size))) { s with heap := s.heap.push { cls := .type "tuple", data := .seq #[] } }) :=
  .of_wp fun prog w A R s h => by
    obtain ⟨hp, g, d, tk, os⟩ := s
    obtain ⟨hl, h⟩ := h
    have f1 := AutoSeq1.idx_int
    have c0 : (decide (k < -(2 ^ 63)) || decide (k ≥ 2 ^ 63)) = false := by
      rw [decide_eq_false (by omega), decide_eq_false (by omega)]; rfl
    have c1 : (items.isEmpty || k == 1) = false := by
      rw [hi, Bool.false_or]; exact beq_eq_false_iff_ne.mpr (by omega)
    have c2 : (decide (k ≤ 0) || items.isEmpty) = true := by rw [decide_eq_true hk0]; rfl
    wp_walk using wpAny_loadPart' hl
    repeat (first
      | (refine wpAny_ite_false (decide_eq_false fun z => by rw [c0] at z; cases z) ?_; wp_walk using wpAny_loadPart' hl)
      | (refine wpAny_ite_false (decide_eq_false fun z => by rw [c1] at z; cases z) ?_; wp_walk using wpAny_loadPart' hl)
      | (refine wpAny_ite_true (decide_eq_true c2) ?_; wp_walk using wpAny_loadPart' hl))
    exact ⟨_, rfl, h⟩
end
def rTmulOne (K : PySem.W.Frag) : R2 := fun x y H Q => ∃ l k xs, x = .ref l ∧ y = .int k ∧ SqT K H l xs ∧ xs ≠ [] ∧ -(2 ^ 63) ≤ k ∧ ((k = 1 ∧ Q x H) ∨ (k ≤ 0 ∧ ∀ p, H p = none → Q (.ref p) (upd H p (.tup []))))
section
variable {X : Cx}
theorem op_tmulOne : OpR X (binaryOp .Mult) (rTmulOne X.K) := by
  intro pins s σ H x y v u Q I rx ry h
  obtain ⟨l, k, xs, rfl, rfl, hT, hne, hlo, h⟩ := h
  cases rx
  obtain ⟨t, rfl⟩ := ry
  obtain ⟨its, r, ⟨⟨cls, dd, data, sl⟩, ho, hc, n, hd⟩, hs⟩ := I.tuple hT
  simp only at hc hd
  subst hc hd
  have hi : its.toArray.isEmpty = false := by
    cases its with
    | nil => cases r; exact absurd rfl hne
    | cons a b => rfl
  rcases h with ⟨rfl, q⟩ | ⟨hk, q⟩
  · exact wpAny_binaryOp_repeat_ref (T := "tuple") (U := "int") (by decide) ⟨_, ho, rfl⟩ (fun s' => typeIs_int s' 1 t) noFill_tuple_mul F.fills_int_mul F.slot_int_rmul repeat_tuple F.slot_int_index.lookup
      (call_meets F.slot_int_rmul (typeIs_int s 1 t) F.entry_int_rmul (F.args_int_rmul_2 _ _) (int_rmul_tuple 1 t l its.toArray n dd sl)
        ⟨ho, rfl, ⟨_, ho, rfl⟩, call_meets F.slot_tuple_mul ⟨_, ho, rfl⟩ F.entry_tuple_mul (F.args_tuple_mul_2 _ _) (tmul_one l its.toArray n dd sl t) ⟨ho, .ref l, H, I, rfl, q⟩⟩)
  · refine wpAny_binaryOp_repeat_ref (T := "tuple") (U := "int") (by decide) ⟨_, ho, rfl⟩ (fun s' => typeIs_int s' k t) noFill_tuple_mul F.fills_int_mul F.slot_int_rmul repeat_tuple F.slot_int_index.lookup
      (call_meets F.slot_int_rmul (typeIs_int s k t) F.entry_int_rmul (F.args_int_rmul_2 _ _) (int_rmul_tuple k t l its.toArray n dd sl)
        ⟨ho, rfl, ⟨_, ho, rfl⟩, call_meets F.slot_tuple_mul ⟨_, ho, rfl⟩ F.entry_tuple_mul (F.args_tuple_mul_2 _ _) (tmul_zero l its.toArray n dd sl t k hlo hk hi) ⟨ho, ?_⟩⟩)
    have hp : H s.heap.objs.size = none := I.hok.fresh (Nat.le_refl _)
    exact ⟨.ref s.heap.objs.size, _, I.laid (t' := s.toks) (o := .tup []) (fun b ob e => Heap.get?_push_of_some _ e) (Nat.le_refl _) ⟨Nat.zero_le _, [], .nil, IsTup.new _ _⟩, rfl, q _ hp⟩
/-- a tuple times any moderate number, else as before -/
def gMulT : G2 := fun st a b => match a, b with
  | .tup x, .int k => if x = [] then none else if k = 1 then some (.tup x) else if k ≤ 0 then (if -(2 ^ 63) ≤ k then some (.tup []) else none) else gMul st (.tup x) (.int k)
  | a, b => gMul st a b
theorem dop_mulT : DOp X (binaryOp .Mult) gMulT := by
  obtain ⟨r0, h0, q0⟩ := dop_mul (X := X)
  refine ⟨_, op_tmulOne.or h0, fun B x y H m st da db d Q rs ra rb h q => ?_⟩
  have other : gMul st da db = some d → (r0 x y H Q) := fun h => q0 B x y H m st da db d Q rs ra rb h q
  unfold gMulT at h
  split at h
  · rename_i ds k
    split at h
    · cases h
    rename_i hne
    obtain ⟨a, vs, rfl, hq, rl⟩ := ra.tup_sq
    have hvs : vs ≠ [] := fun e => hne (by
      have := rl.length
      rw [e] at this
      exact List.eq_nil_of_length_eq_zero this)
    cases Rep.int_iff.mp rb
    split at h
    · rename_i e
      cases h
      exact .inl ⟨a, k, vs, rfl, rfl, hq, hvs, by omega, .inl ⟨e, q _ H Grow.refl ra⟩⟩
    · split at h
      · rename_i hk
        split at h
        · rename_i hlo
          cases h
          exact .inl ⟨a, k, vs, rfl, rfl, hq, hvs, hlo, .inr ⟨hk, fun p hp => q _ _ (Grow.upd hp) (Rep.newT rs hp .nil)⟩⟩
        · cases h
      · exact .inr (other h)
  · exact .inr (other h)
end
end DL
namespace DL
open PySem PySem.Spec PyProof.Rows L2
def showD (p : PyData) : Bool := p.showable && decide (p.shown.length ≤ sizeLine) && !p.hasDict && decide (p.depth < 60)
def gRepr : GL := fun st ds => match ds with
  | [d] => (toPyT st d).bind fun p => if showD p = true then some (.str p.shown) else none
  | _ => none
section
variable {X : Cx}
def rReprD (K : PySem.W.Frag) : List V → Hp → VK → Prop := fun xs H Q => ∃ v p, xs = [v] ∧ Dp K H v p ∧ showD p = true ∧ Q (.str p.shown) H
theorem call_reprD (hg : X.A.guards = some []) (hu : X.A.units + 64 < cLine) : CallR X (.builtin "repr") (rReprD X.K) := by
  intro pins s σ H xs us Q I r h
  obtain ⟨v, p, rfl, hd, hs, q⟩ := h
  unfold showD at hs
  simp only [Bool.and_eq_true, Bool.not_eq_true', decide_eq_true_eq] at hs
  obtain ⟨⟨⟨h1, h2⟩, h3⟩, h4⟩ := hs
  obtain ⟨u, rfl, ru⟩ := vals1 r
  obtain ⟨as, rd⟩ := Dp.reads I p v u hd ru
  cases p with
  | none =>
    cases rd
    exact PySem.P.repr_of_none ⟨.str _, H, I.tok _, ⟨_, rfl⟩, q⟩
  | bool b =>
    cases rd
    exact PySem.P.repr_of_bool ⟨.str _, H, I.tok _, ⟨_, rfl⟩, by cases b <;> exact q⟩
  | int i =>
    cases rd
    exact PySem.P.repr_of_int (of_decide_eq_true h1) ⟨.str _, H, I.tok _, ⟨_, rfl⟩, q⟩
  | str x =>
    cases rd
    exact PySem.P.repr_of_str ⟨.str _, H, I.tok _, ⟨_, rfl⟩, q⟩ h2
  | list xs =>
    cases rd with
    | list e1 e2 e3 e4 => exact repr_of_reads' (.list e1 e2 e3 e4) h1 (PyData.noDict_hsm h3) hg (by omega) (fun _ _ e => e) (fun h' t tk hk => ⟨.str _, H, I.kept (t' := tk) hk, ⟨_, rfl⟩, q⟩) h2
  | tuple xs =>
    cases rd with
    | tuple e1 e2 e3 e4 => exact repr_of_reads' (.tuple e1 e2 e3 e4) h1 (PyData.noDict_hsm h3) hg (by omega) (fun _ _ e => e) (fun h' t tk hk => ⟨.str _, H, I.kept (t' := tk) hk, ⟨_, rfl⟩, q⟩) h2
  | dict kvs => cases h3
theorem dc_repr (hg : X.A.guards = some []) (hu : X.A.units + 64 < cLine) : DCall X (.builtin "repr") gRepr := ⟨_, call_reprD hg hu, fun B xs H m st ds d Q rs r h q => by
  unfold gRepr at h
  split at h
  · obtain ⟨v, rfl, r1⟩ := one_inv r
    obtain ⟨p, h1, h⟩ := Option.bind_eq_some_iff.mp h
    split at h
    · rename_i hs
      cases h
      exact ⟨v, p, rfl, toPyT_dp rs r1 h1, hs, q _ H Grow.refl (Rep.str_iff.mpr rfl)⟩
    · cases h
  · cases h⟩
/-- sorted of ints -/
def gSortI : GL := fun st ds => match ds with
  | [d] => (lstV st d).bind fun xs => (dInts xs).bind fun ns => some (.lst ((srtI ns).map D.int))
  | _ => none
theorem dc_sortI : DCall X (.builtin "sorted") gSortI := ⟨_, cr_sortedI, fun B xs H m st ds d Q rs r h q => by
  unfold gSortI at h
  split at h
  · obtain ⟨v, rfl, r1⟩ := one_inv r
    obtain ⟨ys, h1, h⟩ := Option.bind_eq_some_iff.mp h
    obtain ⟨ns, h2, h⟩ := Option.bind_eq_some_iff.mp h
    cases h
    obtain ⟨a, vs, rfl, hs, rl⟩ := lstV_rep rs r1 h1
    obtain ⟨rfl, _⟩ := dInts_rep rl h2
    refine ⟨a, ns, rfl, hs, fun ns' p hp hs' hn => ?_⟩
    cases sorted_one (hp.trans (srtI_perm ns).symm) hs' (srtI_sorted ns)
    exact q _ _ (Grow.upd hn) (Rep.newL rs hn (RepL.ints _))
  · cases h⟩
end
end DL
namespace DL
open PySem PySem.Spec PyProof.Rows L2
abbrev noSet (w : World) : Obj := { cls := .type "set", dict := none, data := .set #[] 0 (.fresh 0 0 (!w.params.followText "set-order")) }
section
variable {P : Program} {w : World} {A : Around} {E : Value → Shared → Prop} {s : Shared}
theorem walks_k (k : Kd) (hh : A.handled = none) (I l : Addr) (hne : l ≠ I) (items : Array Value) :
    Walks P w A I [I, l] [I] items.size (fun i v => items[i]? = some v) (fun i h => ItS k h I l i ∧ IsS k h l items) := by
  cases k with
  | l => exact Walks.list hh I l hne items
  | t => exact Walks.tuple hh I l hne items
theorem iss_push {k : Kd} {h : Heap} {a : Addr} {v : Array Value} (x : IsS k h a v) (o : Obj) : IsS k (h.push o) a v := iss_at x fun _ e => Heap.get?_push_of_some _ e
theorem iter_k {k : Kd} {l : Addr} {items : Array Value} {Q : Value → Shared → Prop} (hl : IsS k s.heap l items) (h : Q (.ref s.heap.objs.size) { s with heap := s.heap.push (beginO k l) }) :
    wpAny (model P w) A (pyIter (.ref l)) Q E s := (begins_k k l items).iter P w A E s Q hl h
set_option maxHeartbeats 3200000 in
/-- set(xs), ints -/
theorem call_setK {k : Kd} {l : Addr} {items : Array Value} (ns : List Int) {Q : Value → Shared → Prop} (hh : A.handled = none) (hl : IsS k s.heap l items) (hit : IntsAre items.toList ns) (hb : ns.length + 1 < scanBound)
    (h : ∀ (h' : Heap) (tk c : Nat), SetR w h' s.heap.objs.size (fun j => decide (j ∈ ns)) c → c ≤ ns.length → (∀ b o, s.heap.get? b = some o → h'.get? b = some o) →
      Q (.ref s.heap.objs.size) { s with heap := h', toks := tk }) :
    wpAny (model P w) A (call (.type "set") [.ref l]) Q E s := by
  have hn : items.size = ns.length := by rw [← IntsAre.length hit, Array.length_toList]
  obtain ⟨c, tl, hmro⟩ := F.called_set.mro
  have m1 := F.called_set.made
  have m2 := F.called_set.sub
  refine wpAny_call (codeAny_of_tree ?_)
  show wpAny _ _ (callAny (.type "set") _) _ _ _
  refine wpAny_pure ⟨Code.quiet_builtin _ (by decide +kernel), codeAny_builtin F.entry_type_call ?_⟩
  rw [Around.under_plain (weight_type_call_type "set" [.ref l] []) rfl]
  have m3 := F.called_set.notType
  have m4 := F.called_set.canCreate
  have m5 := F.typeCall_set_1 (.ref l)
  repeat (any_goals (first | assumption | wp_step))
  have gotS : (s.heap.push (noSet w)).get? s.heap.objs.size = some (noSet w) := Heap.get?_push_size _ rfl
  refine codeAny_mono (code_set_led1 (.ref l) (E := E) (Q₁ := fun ob s1 => ob = .ref s.heap.objs.size ∧ s1 = { s with heap := s.heap.push (noSet w) }) ⟨rfl, rfl⟩) fun r s1 hr => ?_
  match r, hr with
  | .error e, hr => exact hr
  | .ok (.ret ob), hr =>
    obtain ⟨rfl, rfl⟩ := hr
    have hT : Shared.TypeIs { s with heap := s.heap.push (noSet w) } (.ref s.heap.objs.size) "set" := ⟨_, gotS, rfl⟩
    have m6 := F.called_set.init.lookup
    have m7 := F.called_set.init.bind (.ref s.heap.objs.size)
    repeat (any_goals (first | assumption | wp_step))
    refine codeAny_mono (codeAny_call_builtin (R := wants (fun r s2 => r = .none ∧ ∃ h' tk c, s2 = { s with heap := h', toks := tk } ∧ SetR w h' s.heap.objs.size (fun j => decide (j ∈ ns)) c ∧ c ≤ ns.length ∧
      (∀ b o, s.heap.get? b = some o → h'.get? b = some o)) E) F.called_set.init.plain F.entry_set_init (check_set_init_1 hT ?_)) fun r2 s2 hr2 => ?_
    · have hl1 : IsS k (s.heap.push (noSet w)) l items := iss_push hl _
      have hlS : l < s.heap.objs.size := by obtain ⟨o, e⟩ := iss_lt hl; exact Heap.lt_size e
      have hz1 : (s.heap.push (noSet w)).objs.size = s.heap.objs.size + 1 := Heap.size_push ..
      have n1 : l ≠ (s.heap.push (noSet w)).objs.size := by rw [hz1]; exact Nat.ne_of_lt (Nat.lt_succ_of_lt hlS)
      have n2 : s.heap.objs.size ∉ [(s.heap.push (noSet w)).objs.size, l] := by
        rw [hz1]
        simp only [List.mem_cons, List.not_mem_nil, or_false, not_or]
        exact ⟨Nat.ne_of_lt (Nat.lt_succ_self _), Nat.ne_of_gt hlS⟩
      have hval : ∀ (i : Nat) (v : Value), items[i]? = some v → ∃ k t, ns[i]? = some k ∧ v = .int k t := fun i v hv => by
        have hi : i < ns.length := by rw [← hn]; exact (Array.getElem?_eq_some_iff.mp hv).1
        obtain ⟨t, e⟩ := PyProof.Rows.IntsAre.int_at hit i v (by rw [Array.getElem?_toList]; exact hv)
        exact ⟨ns[i], t, List.getElem?_eq_getElem hi, by rw [e, List.getD_eq_getElem?_getD, List.getElem?_eq_getElem hi]; rfl⟩
      have hh3 : A.in1.in1.in1.handled = none := by simp [hh]
      cases k with
      | l =>
        obtain ⟨⟨kc, kd, kx, ks⟩, e0, e1, nl, e2⟩ := id hl1
        simp only at e1 e2
        subst e1; subst e2
        have b1 := F.sub_list_set
        have b2 := F.sub_list_frozenset
        have b3 : (Value.type "list" == Value.type "dict") = false := by decide
        unfold Builtin.«set.__init__» noKeywords Builtin.Frozenset.updateFrom
        generalize hPI : pyIter = PI
        wp_walk
        subst hPI
        refine wpAny_pyIter_list hl1 ?_
        refine wpAny_bind (wpAny_runValue ?_)
        refine set_update_ints ((walks_k .l hh3 _ l n1 items).toS) s.heap.objs.size n2 ns hn hb hval (items.size - 0) 0 _ (by omega) (Nat.zero_le _) ⟨⟨_, Heap.get?_push_size _ rfl, rfl, rfl⟩, iss_push hl1 _⟩ ⟨0, Nat.le_refl 0, setR_new_at (Heap.get?_push_of_some _ gotS)⟩ fun s' c' hm hc' hS' => ?_
        obtain ⟨h', g2, d', tk', os'⟩ := s'
        cases (show g2 = s.gens from hm.gens)
        cases (show d' = s.drawn from hm.drawn)
        cases (show os' = s.os from hm.os)
        refine wpAny_pure (wpAny_pure ⟨rfl, h', tk', c', rfl, hS', by rw [← hn]; exact hc', fun b o e => ?_⟩)
        have hb0 : b < s.heap.objs.size := Heap.lt_size e
        refine hm.heap b o ?_ (Heap.get?_push_of_some _ (Heap.get?_push_of_some _ e))
        simp only [List.mem_cons, List.not_mem_nil, or_false, not_or, Heap.size_push]
        exact ⟨Nat.ne_of_lt hb0, Nat.ne_of_lt (Nat.lt_succ_of_lt hb0)⟩
      | t =>
        obtain ⟨⟨kc, kd, kx, ks⟩, e0, e1, nl, e2⟩ := id hl1
        simp only at e1 e2
        subst e1; subst e2
        have b1 := F.sub_tuple_set
        have b2 := F.sub_tuple_frozenset
        have b3 : (Value.type "tuple" == Value.type "dict") = false := by decide
        unfold Builtin.«set.__init__» noKeywords Builtin.Frozenset.updateFrom
        generalize hPI : pyIter = PI
        wp_walk
        subst hPI
        refine wpAny_pyIter_tuple hl1 ?_
        refine wpAny_bind (wpAny_runValue ?_)
        refine set_update_ints ((walks_k .t hh3 _ l n1 items).toS) s.heap.objs.size n2 ns hn hb hval (items.size - 0) 0 _ (by omega) (Nat.zero_le _) ⟨⟨_, Heap.get?_push_size _ rfl, rfl, rfl⟩, iss_push hl1 _⟩ ⟨0, Nat.le_refl 0, setR_new_at (Heap.get?_push_of_some _ gotS)⟩ fun s' c' hm hc' hS' => ?_
        obtain ⟨h', g2, d', tk', os'⟩ := s'
        cases (show g2 = s.gens from hm.gens)
        cases (show d' = s.drawn from hm.drawn)
        cases (show os' = s.os from hm.os)
        refine wpAny_pure (wpAny_pure ⟨rfl, h', tk', c', rfl, hS', by rw [← hn]; exact hc', fun b o e => ?_⟩)
        have hb0 : b < s.heap.objs.size := Heap.lt_size e
        refine hm.heap b o ?_ (Heap.get?_push_of_some _ (Heap.get?_push_of_some _ e))
        simp only [List.mem_cons, List.not_mem_nil, or_false, not_or, Heap.size_push]
        exact ⟨Nat.ne_of_lt hb0, Nat.ne_of_lt (Nat.lt_succ_of_lt hb0)⟩
    · match r2, hr2 with
      | .error e, hr2 => exact hr2
      | .ok (.ret r), hr2 =>
        obtain ⟨rfl, h', tk, c, rfl, hS', hc', hk'⟩ := hr2
        repeat (any_goals (first | assumption | wp_step))
        exact h _ _ _ hS' hc' hk'
      | .ok .next, hr2 => exact hr2.elim
      | .ok .brk, hr2 => exact hr2.elim
      | .ok .cont, hr2 => exact hr2.elim
  | .ok .next, hr => exact hr.elim
  | .ok .brk, hr => exact hr.elim
  | .ok .cont, hr => exact hr.elim
end
end DL
namespace DL
open PySem PySem.Spec PyProof.Rows L2
def tSrtSet (K : PySem.W.Frag) (te : TE) : TE := fun σ H Q => te σ H fun x H1 => ∃ (k : Kd) (l : Addr) (ns : List Int), x = .ref l ∧ SqK K k H1 l (ns.map V.int) ∧ ns.length < 64 ∧
  ∀ (H2 : Hp) (p : Addr) (ms : List Int), Grow H1 H2 → H2 p = none → ms.Pairwise (· < ·) → (∀ j, j ∈ ms ↔ j ∈ ns) → Q (.ref p) (upd H2 p (.lst (ms.map V.int)))
section
variable {X : Cx} {W : WX} {a : Expr} {p p2 q pos : Pos}
theorem pe_srtSet {te : TE} (hc : X.calm = true) (hm : X.mg "sorted" = none) (hm2 : X.mg "set" = none) (ha : PE X a te) (hg : Gl X "sorted" := by rfl) (hg2 : Gl X "set" := by rfl)
    (na : starEach [a] X.env = (false, eval a X.env) :: starEach [] X.env := by rfl) : PE X (.Call (.Name "sorted" p) [.Call (.Name "set" p2) [a] [] q] [] pos) (tSrtSet X.K te) := by
  refine ⟨fun pins s σ H Q I h => Call_ (ld_blt I hg hm boot_sorted (PyProof.Rows.callWith_builtin1 (PyProof.Rows.args_cons ?_ rfl) rfl rfl))⟩
  refine Call_ (ld_blt I hg2 hm2 boot_set ?_)
  refine PyProof.Rows.callWith_type1 (PyProof.Rows.args_cons (thn (ha.run pins s σ H _ I h) fun v s1 ⟨x, H1, I1, r1, q1⟩ => PyProof.Rows.args_nil ?_) na) na rfl
  obtain ⟨k, l, ns, rfl, hq, hl, q1⟩ := q1
  cases r1
  obtain ⟨its, rv, pl⟩ := sqk_vals I1 hq
  have hi : IntsAre its.toArray.toList ns := ints_of_vals rv
  refine call_setK ns (I1.ok.hd hc) pl hi (by unfold scanBound; omega) fun h' tk c R hcn hk => PyProof.Rows.args_nil ?_
  have hf : H1 s1.heap.objs.size = none := I1.hok.fresh (Nat.le_refl _)
  have I2 : Inv X pins σ (upd H1 s1.heap.objs.size (SetO X.w s1.heap.objs.size (fun j => decide (j ∈ ns)) c)) { s1 with heap := h', toks := tk } := I1.laid hk (Nat.le_refl _) (setO_new R)
  refine cr_sortedSet hc pins _ σ _ [.ref s1.heap.objs.size] _ Q I2 (.cons rfl .nil) ⟨_, _, _, rfl, upd_same, by omega, fun ms p h1 h2 h3 h4 => ?_⟩
  exact q1 _ p ms (Grow.upd hf) h4 h1 fun j => by rw [h2 j, decide_eq_true_eq]
/-- the members, each once, in order -/
def setI (ns : List Int) : List Int := (srtI ns).foldr (fun n r => match r with
  | [] => [n]
  | m :: r => if n = m then m :: r else n :: m :: r) []
def setS (n : Int) (r : List Int) : List Int := match r with
  | [] => [n]
  | m :: r => if n = m then m :: r else n :: m :: r
theorem setS_spec (n : Int) (r : List Int) (h : r.Pairwise (· < ·)) (hn : ∀ m ∈ r, n ≤ m) : (setS n r).Pairwise (· < ·) ∧ ∀ j, j ∈ setS n r ↔ j = n ∨ j ∈ r := by
  unfold setS
  cases r with
  | nil => exact ⟨by simp, fun j => by simp⟩
  | cons m r =>
    obtain ⟨h1, h2⟩ := List.pairwise_cons.mp h
    simp only
    split
    · rename_i e
      exact ⟨h, fun j => by simp [e]⟩
    · rename_i e
      refine ⟨List.pairwise_cons.mpr ⟨fun y hy => ?_, h⟩, fun j => by simp⟩
      have hm := hn m (by simp)
      rcases List.mem_cons.mp hy with z | z
      · omega
      · have := h1 y z; omega
theorem setI_eq (ns : List Int) : setI ns = (srtI ns).foldr setS [] := rfl
theorem setI_aux : ∀ l : List Int, l.Pairwise (· ≤ ·) → (l.foldr setS []).Pairwise (· < ·) ∧ ∀ j, j ∈ l.foldr setS [] ↔ j ∈ l
  | [], _ => ⟨.nil, fun j => by simp⟩
  | n :: l, h => by
    obtain ⟨h1, h2⟩ := List.pairwise_cons.mp h
    obtain ⟨i1, i2⟩ := setI_aux l h2
    obtain ⟨a1, a2⟩ := setS_spec n _ i1 fun m hm => h1 m ((i2 m).mp hm)
    exact ⟨a1, fun j => by rw [List.foldr_cons, a2 j, i2 j, List.mem_cons]⟩
theorem setI_sorted (ns : List Int) : (setI ns).Pairwise (· < ·) := by rw [setI_eq]; exact (setI_aux _ (srtI_sorted ns)).1
theorem setI_mem (ns : List Int) (j : Int) : j ∈ setI ns ↔ j ∈ ns := by rw [setI_eq, (setI_aux _ (srtI_sorted ns)).2 j, (srtI_perm ns).mem_iff]
theorem strict_one {a b : List Int} (h1 : a.Pairwise (· < ·)) (h2 : b.Pairwise (· < ·)) (h : ∀ j, j ∈ a ↔ j ∈ b) : a = b := by
  have p : a.Perm b := (List.perm_ext_iff_of_nodup (h1.imp fun h => Int.ne_of_lt h) (h2.imp fun h => Int.ne_of_lt h)).mpr h
  exact sorted_one p (h1.imp fun h => Int.le_of_lt h) (h2.imp fun h => Int.le_of_lt h)
def gSrtSet (st : Store) (d : D) : Option D := (seqI st d).bind fun p => (dInts p.1).bind fun ns => if ns.length < 64 then some (.lst ((setI ns).map D.int)) else none
def xSrtSet (f : Fe) : Fe := fun ρ st => (f ρ st).bind fun d s1 => lift (gSrtSet s1 d) s1
theorem de_srtSet {f : Fe} (hc : X.calm = true) (hm : X.mg "sorted" = none) (hm2 : X.mg "set" = none) (ha : DE X W a f) (hg : Gl X "sorted" := by rfl) (hg2 : Gl X "set" := by rfl)
    (na : starEach [a] X.env = (false, eval a X.env) :: starEach [] X.env := by rfl) : DE X W (.Call (.Name "sorted" p) [.Call (.Name "set" p2) [a] [] q] [] pos) (xSrtSet f) := by
  obtain ⟨t, pt, qt⟩ := ha
  refine ⟨_, pe_srtSet hc hm hm2 pt hg hg2 na, fun B σ H ρ st m Q re rs h => ?_⟩
  refine qt B σ H ρ st m _ re rs (good_bind h fun d s1 v H1 m1 e1 r1 rs1 h1 => ?_)
  obtain ⟨d2, hd, q⟩ := good_lift h1
  unfold gSrtSet at hd
  obtain ⟨pr, hp, hd⟩ := Option.bind_eq_some_iff.mp hd
  obtain ⟨ns, h2, hd⟩ := Option.bind_eq_some_iff.mp hd
  split at hd
  · rename_i hz
    cases hd
    obtain ⟨ad, k, rfl, _, S⟩ := seqI_src rs1 r1 hp
    by_cases hw : sameAt pr.2 s1 s1 = true
    · obtain ⟨vs, hq, rl⟩ := S B H1 m1 s1 (fun b hb => .inl hb) .refl rs1 hw
      obtain ⟨rfl, _⟩ := dInts_rep rl h2
      refine ⟨k, ad, ns, rfl, hq, hz, fun H2 pp ms g hn h3 h4 => ?_⟩
      cases strict_one h3 (setI_sorted ns) fun j => by rw [h4 j, setI_mem]
      exact q _ _ (g.trans (Grow.upd hn)) rs1 (Rep.newL (rs1.grow g) hn (RepL.ints _))
    · exfalso
      apply hw
      unfold sameAt
      cases d with
      | loc l =>
        simp only [seqI] at hp
        cases hl : s1[l]? with
        | none => rw [hl] at hp; cases hp
        | some c =>
          rw [hl] at hp
          cases c with
          | lst ds => cases hp; simp [hl, Cell.beq_refl]
          | dic _ => cases hp
          | ins _ _ => cases hp
      | tup _ => cases hp; rfl
      | lst _ => cases hp; rfl
      | rol _ => cases hp; rfl
      | _ => cases hp
  · cases hd
end
end DL
namespace DL
open PySem PySem.Spec PyProof.Rows L2
section
variable {α β : Type}
def insK (p : Int × α) : List (Int × α) → List (Int × α)
  | [] => [p]
  | q :: r => if p.1 ≤ q.1 then p :: q :: r else q :: insK p r
def srtK : List (Int × α) → List (Int × α)
  | [] => []
  | p :: r => insK p (srtK r)
theorem insK_perm (p : Int × α) : ∀ l : List (Int × α), (insK p l).Perm (p :: l)
  | [] => .refl _
  | q :: r => by
    unfold insK
    split
    · exact .refl _
    · exact ((insK_perm p r).cons q).trans (.swap p q r)
theorem srtK_perm : ∀ l : List (Int × α), (srtK l).Perm l
  | [] => .refl _
  | p :: r => (insK_perm p _).trans ((srtK_perm r).cons p)
theorem insK_sorted (p : Int × α) : ∀ l : List (Int × α), l.Pairwise (fun x y => x.1 ≤ y.1) → (insK p l).Pairwise (fun x y => x.1 ≤ y.1)
  | [], _ => by simp [insK]
  | q :: r, h => by
    obtain ⟨h1, h2⟩ := List.pairwise_cons.mp h
    unfold insK
    split
    · rename_i hle
      refine List.pairwise_cons.mpr ⟨fun y hy => ?_, h⟩
      rcases List.mem_cons.mp hy with e | hy
      · rw [e]; exact hle
      · exact Int.le_trans hle (h1 y hy)
    · rename_i hle
      refine List.pairwise_cons.mpr ⟨fun y hy => ?_, insK_sorted p r h2⟩
      rcases List.mem_cons.mp ((insK_perm p r).mem_iff.mp hy) with e | hy
      · rw [e]; omega
      · exact h1 y hy
theorem srtK_sorted : ∀ l : List (Int × α), (srtK l).Pairwise (fun x y => x.1 ≤ y.1)
  | [] => .nil
  | p :: r => insK_sorted p _ (srtK_sorted r)
/-- each number once: one order -/
theorem srtK_one {l m : List (Int × α)} (p : m.Perm l) (h : m.Pairwise (fun x y => x.1 ≤ y.1)) (nd : (l.map Prod.fst).Nodup) : m = srtK l := by
  have inj : ∀ x y : Int × α, x ∈ l → y ∈ l → x.1 = y.1 → x = y := fun x y hx hy e => by
    have : ∀ (l : List (Int × α)), (l.map Prod.fst).Nodup → x ∈ l → y ∈ l → x = y := by
      intro l
      induction l with
      | nil => intro _ h; simp at h
      | cons z l ih =>
        intro nd hx hy
        simp only [List.map_cons, List.nodup_cons] at nd
        rcases List.mem_cons.mp hx with hx | hx
        · rcases List.mem_cons.mp hy with hy | hy
          · rw [hx, hy]
          · exact absurd (List.mem_map.mpr ⟨y, hy, by rw [← e, hx]⟩) nd.1
        · rcases List.mem_cons.mp hy with hy | hy
          · exact absurd (List.mem_map.mpr ⟨x, hx, by rw [e, hy]⟩) nd.1
          · exact ih nd.2 hx hy
    exact this l nd hx hy
  exact (p.trans (srtK_perm l).symm).eq_of_pairwise (fun x y hx hy h1 h2 => inj x y (p.mem_iff.mp hx) ((srtK_perm l).mem_iff.mp hy) (Int.le_antisymm h1 h2)) h (srtK_sorted l)
end
section
variable {α β : Type} (R : α → β → Prop)
def PairR (x : Int × α) (y : Int × β) : Prop := x.1 = y.1 ∧ R x.2 y.2
theorem insK_rel {p : Int × α} {p' : Int × β} (hp : PairR R p p') : ∀ {l : List (Int × α)} {l' : List (Int × β)}, Paired (PairR R) l l' → Paired (PairR R) (insK p l) (insK p' l')
  | _, _, .nil => .cons hp .nil
  | _, _, .cons h t => by
    unfold insK
    rw [← hp.1, ← h.1]
    split
    · exact .cons hp (.cons h t)
    · exact .cons h (insK_rel hp t)
theorem srtK_rel : ∀ {l : List (Int × α)} {l' : List (Int × β)}, Paired (PairR R) l l' → Paired (PairR R) (srtK l) (srtK l')
  | _, _, .nil => .nil
  | _, _, .cons h t => insK_rel R h (srtK_rel t)
end
theorem repl_f2 {K : KB} {H : Hp} {m : List Addr} : ∀ {ds : List D} {vs : List V}, RepL K H m ds vs → Paired (Rep K H m) ds vs
  | [], _, h => by rw [h.inv_nil]; exact .nil
  | d :: ds, _, h => by obtain ⟨v, r, rfl, h1, h2⟩ := h.inv_cons; exact .cons h1 (repl_f2 h2)
theorem f2_repl {K : KB} {H : Hp} {m : List Addr} : ∀ {ds : List D} {vs : List V}, Paired (Rep K H m) ds vs → RepL K H m ds vs
  | _, _, .nil => .nil
  | _, _, .cons h t => .cons h (f2_repl t)
theorem f2_zip {α β : Type} {R : α → β → Prop} : ∀ {ks : List Int} {l : List α} {l' : List β}, Paired R l l' → Paired (PairR R) (ks.zip l) (ks.zip l')
  | [], _, _, _ => .nil
  | k :: ks, _, _, .nil => .nil
  | k :: ks, _, _, .cons h t => .cons ⟨rfl, h⟩ (f2_zip t)
theorem f2_snd {α β : Type} {R : α → β → Prop} : ∀ {l : List (Int × α)} {l' : List (Int × β)}, Paired (PairR R) l l' → Paired R (l.map Prod.snd) (l'.map Prod.snd)
  | _, _, .nil => .nil
  | _, _, .cons h t => .cons h.2 (f2_snd t)
def sortBy {α : Type} (ks : List Int) (xs : List α) : List α := (srtK (ks.zip xs)).map Prod.snd
section
variable {X : Cx} {pins : List (Addr × Obj)} {σ : Sg} {H : Hp} {s : Shared}
theorem inv_set {a : Addr} (I : Inv X pins σ H s) (f : FpOk X pins H a) (g : Obj → Obj) : Inv X pins σ H { s with heap := s.heap.update a g } :=
  I.turned (t' := s.toks) (fun b o hb e => ((Heap.SameBut.update s.heap a g).2 b hb).trans e) f.1 f.2.1 f.2.2.2.1 f.2.2.2.2.1 f.2.2.2.2.2
theorem fpOk_ch {H' : Hp} {a : Addr} (f : FpOk X pins H a) (h : H' a = none) : FpOk X pins H' a := ⟨h, f.2⟩
end
def keyF (F : Fd) (st : Store) (d : D) : Option Int := match F [d] st with
  | .ok (.int k) s' => if Store.beq s' st = true then some k else none
  | _ => none
theorem keyF_ok {F : Fd} {st : Store} {d : D} {k : Int} (h : keyF F st d = some k) : F [d] st = .ok (.int k) st := by
  unfold keyF at h
  split at h
  · rename_i k' s' e
    split at h
    · rename_i hb
      cases h
      rw [e, Store.beq_eq _ _ hb]
    · cases h
  · cases h
def keysF (F : Fd) (st : Store) : List D → Option (List Int)
  | [] => some []
  | d :: ds => (keyF F st d).bind fun k => (keysF F st ds).map fun ks => k :: ks
theorem keysF_get {F : Fd} {st : Store} : ∀ {ds : List D} {ks : List Int}, keysF F st ds = some ks → ks.length = ds.length ∧ ∀ (i : Nat) (d : D), ds[i]? = some d → ∃ k, ks[i]? = some k ∧ keyF F st d = some k
  | [], _, h => by cases h; exact ⟨rfl, fun i d q => by simp at q⟩
  | d :: ds, _, h => by
    unfold keysF at h
    obtain ⟨k, h1, h⟩ := Option.bind_eq_some_iff.mp h
    obtain ⟨ks, h2, rfl⟩ := Option.map_eq_some_iff.mp h
    obtain ⟨a, b⟩ := keysF_get h2
    refine ⟨by simp [a], fun i d' q => ?_⟩
    cases i with
    | zero => simp at q; subst q; exact ⟨k, rfl, h1⟩
    | succ i => simpa using b i d' (by simpa using q)
section
variable {X : Cx} {pins : List (Addr × Obj)} {σ : Sg} {H : Hp} {s : Shared} {k : Nat} {g : Addr} {fd : FuncData} {x : Str} {F : Fd}
/-- one call of the key def -/
theorem key_turn {B : List Addr} {m : List Addr} {st : Store} {d : D} {v : V} {u : Value} {j : Int} (G : FnG X.prog X.w X.K X.mg X.base k g fd [x] (spD X.K 1 F)) (room : Room (k + 2) X.A) (hgd : X.A.guards = some []) (hb : Binds X.K fd [x] [])
    (I : Inv X pins σ H s) (rs : RepSt ⟨X.K, B⟩ H m st) (rd : Rep ⟨X.K, B⟩ H m d v) (rv : RelV v u) (hk : keyF F st d = some j) :
    wpAny (model X.prog X.w) X.A.in1.in1 (call (.ref g) [u]) (fun r s2 => ∃ H2 m2 tk, r = .int j tk ∧ Inv X pins σ H2 s2 ∧ Evo H m H2 m2 ∧ RepSt ⟨X.K, B⟩ H2 m2 st ∧
      ∀ b o, s.heap.get? b = some o → H b = none → b ∉ frs X.stack → s2.heap.get? b = some o ∧ H2 b = none) (fun _ _ => False) s := by
  have hb := hb s [u] I.kIn rfl
  rw [List.append_nil] at hb
  have e0 : Env0 X.prog X.w X.K X.mg X.base X.A.in1.in1 X.stack s H := ⟨I.ok.frames, I.env0.mod, I.env0.bs, I.env0.bsz, I.env0.funs, I.env0.frf, I.env0.hok, I.env0.bare⟩
  refine wpAny_call (codeAny_mono (G.run X.A.in1.in1 X.stack s H ⟨[u], []⟩ [u] [v] (fun w H2 => w = .int j ∧ ∃ m2, Evo H m H2 m2 ∧ RepSt ⟨X.K, B⟩ H2 m2 st) (fun _ _ _ => False) room.in1.in1 hgd e0 hb (.cons rv .nil)
    ⟨B, [d], st, m, rfl, .cons rd .nil, rs, ?_⟩) fun res s2 q => ?_)
  · rw [keyF_ok hk]
    exact fun w H2 m2 e r2 rs2 => ⟨Rep.int_iff.mp r2, m2, e, rs2⟩
  · match res, q with
    | .error e, q =>
      obtain ⟨a, B', H', cls, dx, ea, fl, hok, ub, na, os, ag, he⟩ := q
      exact he
    | .ok (.ret u2), q =>
      obtain ⟨w, H2, os, bare, un, hok, r2, rfl, m2, ev, rs2⟩ := q
      obtain ⟨tk, rfl⟩ := r2
      exact ⟨H2, m2, tk, rfl, I.call' (ch := []) os un hok bare (fun _ z => nomatch z), ev, rs2, fun b o e1 e2 e3 => ⟨un.keep b o e1 e2 e3 (by simp), un.free b o e1 e2 (by simp)⟩⟩
    | .ok .next, q => exact q.elim
    | .ok .brk, q => exact q.elim
    | .ok .cont, q => exact q.elim
theorem key_tail {M : Model} {A : Around} {E : Value → Shared → Prop} {P : PySem.Fin → Shared → Prop} {a kS : Addr} {e1 e : Nat} {keys : Array Value} {st : SortSt} (hk : s.heap.get? kS = some (seqObj "list" keys e)) (ha : s.heap.get? a = some (seqObj "list" #[] e1)) (hka : kS ≠ a)
    (hz : keys.size ≤ sizeLine) (hz2 : (arrOf st).size ≤ sizeLine) (hfl : failedOf st = none)
    (h : ∀ c, ((s.heap.update kS (Obj.mapSeq fun _ => (#[] : Array Value))).update a (Obj.mapSeq fun _ => (arrOf st).map (·.2))).get? a = some (seqObj "list" ((arrOf st).map (·.2)) c) →
      P (.done (.ret .none)) { s with heap := (s.heap.update kS (Obj.mapSeq fun _ => (#[] : Array Value))).update a (Obj.mapSeq fun _ => (arrOf st).map (·.2)) }) :
    wpAny M A (ksk_tail a false e1 (.ref kS) st) P E s := by
  have sb := Heap.SameBut.update s.heap kS (Obj.mapSeq fun _ => (#[] : Array Value))
  have ha1 : (s.heap.update kS (Obj.mapSeq fun _ => (#[] : Array Value))).get? a = some (seqObj "list" #[] e1) := (sb.2 a hka.symm).trans ha
  unfold ksk_tail
  try dsimp only
  refine wpAny_bind (listUpdate_at hk rfl ?_ hz (Nat.zero_le _))
  refine wpAny_bind (wpAny_letGo ?_)
  refine wpAny_bind (seqEpoch_at ha1 rfl ?_)
  refine wpAny_bind (listUpdate_at ha1 rfl ?_ (Nat.zero_le _) (by show ((arrOf st).map (·.2)).size ≤ _; rw [Array.size_map]; omega))
  rw [hfl]
  simp only [bne_self_eq_false, Bool.false_eq_true, if_false]
  exact wpAny_pure (h _ (get?_update_seq ha1 fun _ => (arrOf st).map (·.2)))
theorem key_end {A : Around} {P : Program} {w : World} {E : Value → Shared → Prop} {Q : PySem.Fin → Shared → Prop} {a kS : Addr} {e1 e : Nat} {keys : Array Value} {us : List Value} {ks : List Int} (hk : s.heap.get? kS = some (seqObj "list" keys e)) (ha : s.heap.get? a = some (seqObj "list" #[] e1)) (hka : kS ≠ a)
    (hi : IntsAre keys.toList ks) (hl : ks.length = us.length) (h64 : us.length < 64)
    (h : ∀ (out : Array Value) c, KskOut false ks us out.toList → ((s.heap.update kS (Obj.mapSeq fun _ => (#[] : Array Value))).update a (Obj.mapSeq fun _ => out)).get? a = some (seqObj "list" out c) →
      Q (.done (.ret .none)) { s with heap := (s.heap.update kS (Obj.mapSeq fun _ => (#[] : Array Value))).update a (Obj.mapSeq fun _ => out) }) :
    wpAny (model P w) A (ksk_end a false us.toArray e1 (.ref kS) keys) Q E s := by
  have hn : keys.size = us.length := by
    have q := hi.length
    rw [Array.length_toList] at q
    omega
  have hz : (keys.zip us.toArray).size = us.length := by rw [Array.size_zip, hn, List.size_toArray, Nat.min_self]
  unfold ksk_end
  try dsimp only
  rw [if_neg Bool.false_ne_true]
  by_cases h2 : us.toArray.size < 2
  · rw [if_pos h2, if_pos h2]
    refine wpAny_bind (wpAny_pure ?_)
    rw [StateT.run_pure]
    refine wpAny_bind (wpAny_pure ?_)
    try dsimp only
    refine key_tail (st := SortSt.mk' general' (keys.zip us.toArray) #[] 7 none) hk ha hka (by rw [hn, sizeLine_eq]; omega) (by show (keys.zip us.toArray).size ≤ _; rw [hz, sizeLine_eq]; omega) rfl fun c hc => h _ c ?_ hc
    refine ksk_out (b := false) hi (.refl _) fun i j hij hj => ?_
    rw [List.size_toArray] at h2
    have hj : j < (keys.zip us.toArray).size := hj
    rw [hz] at hj
    have : i = j := by omega
    subst this
    exact Int.le_refl _
  · rw [if_neg h2, if_neg h2]
    rw [List.size_toArray] at h2
    rw [ksk_kind hi (by rw [hn]; omega)]
    refine wpAny_bind (wpAny_pure ?_)
    refine wpAny_bind (wpAny_mono (wpS_sortRuns (a₀ := keys.zip us.toArray) (st := SortSt.mk' oneType' (keys.zip us.toArray) #[] 7 none)
      (Q := fun _ st' => (arrOf st').Perm (keys.zip us.toArray) ∧ failedOf st' = none ∧ SortedTo (arrOf st') (keys.zip us.toArray).size)
      (ksk_intKeys hi) ⟨.refl _, rfl, rfl, rfl⟩ (by rw [hz]; omega) (by rw [hz]; exact h64) fun st' a1 a2 a3 => ⟨a1, a2, a3⟩) ?_ fun _ _ z => z)
    rintro ⟨⟨⟩, st'⟩ s' ⟨rfl, hp, hf, hs⟩
    try dsimp only
    exact key_tail hk ha hka (by rw [hn, sizeLine_eq]; omega) (by rw [hp.size_eq, hz, sizeLine_eq]; omega) hf fun c hc => h _ c (ksk_out (b := false) hi hp (by rw [hp.size_eq]; exact hs)) hc
end
end DL
namespace DL
open PySem PySem.Spec PyProof.Rows L2
section
variable {X : Cx} {pins : List (Addr × Obj)} {σ : Sg} {H : Hp} {s : Shared} {k : Nat} {g : Addr} {fd : FuncData} {x : Str} {F : Fd}
theorem call_sortKey {B : List Addr} {m : List Addr} {st : Store} {l : Addr} {items : List D} {vs : List V} {ks : List Int} {Q : VK} (G : FnG X.prog X.w X.K X.mg X.base k g fd [x] (spD X.K 1 F)) (room : Room (k + 2) X.A) (hgd : X.A.guards = some []) (hb : Binds X.K fd [x] [])
    (I : Inv X pins σ H s) (rs : RepSt ⟨X.K, B⟩ H m st) (hs : SqL X.K H l vs) (rl : RepL ⟨X.K, B⟩ H m items vs) (hk : keysF F st items = some ks) (h64 : items.length < 64) (nd : ks.Nodup)
    (q : ∀ H' m' p, Evo H m H' m' → RepSt ⟨X.K, B⟩ H' m' st → Rep ⟨X.K, B⟩ H' m' (.lst (sortBy ks items)) (.ref p) → Q (.ref p) H') :
    wpAny (model X.prog X.w) X.A (call (.builtin "sorted") [.ref l] [(Str.ofString "key", .ref g)]) (EP X pins σ Q) X.xe s := by
  obtain ⟨us, rv, pl, hz⟩ := I.list hs
  obtain ⟨kl, kg⟩ := keysF_get hk
  have hlen : us.length = items.length := by rw [← rv.length, ← rl.length]
  have hsl : us.length ≤ sizeLine := by rw [hlen, sizeLine_eq]; omega
  have room1 : Room (k + 2) X.A := room
  refine call_function_entry_kw kind_sorted plain_sorted entry_sorted (ksk_s1 _ _) ?_
  unfold Builtin.«sorted»
  refine wpAny_bind (m := checkCount "sorted" 1 1 _) (wpAny_pure ?_)
  refine wpAny_bind (collect_list pl.isList ?_ hsl)
  refine wpAny_bind (wpAny_newList ?_ hsl)
  generalize hh1 : (s.heap.push (seqObj "list" #[] 0)).update s.heap.objs.size (Obj.mapSeq (· ++ us.toArray)) = h1
  have z1 : h1.objs.size = s.heap.objs.size + 1 := by rw [← hh1, Heap.size_update, size_push']
  have o2 : (h1.push (seqObj "list" us.toArray 0)).get? (s.heap.objs.size + 1) = some (seqObj "list" us.toArray 0) := by rw [← z1]; exact Heap.get?_push_size _ rfl
  have k2 : ∀ b o, s.heap.get? b = some o → (h1.push (seqObj "list" us.toArray 0)).get? b = some o := fun b o e => by
    have hlt : b < s.heap.objs.size := Heap.lt_size e
    rw [Heap.get?_push_ne _ _ _ (by rw [z1]; exact Nat.ne_of_lt (Nat.lt_succ_of_lt hlt)), ← hh1, Heap.get?_update_ne _ _ _ _ (Nat.ne_of_lt hlt), Heap.get?_push_ne _ _ _ (Nat.ne_of_lt hlt)]
    exact e
  show wpAny _ _ _ _ _ { s with heap := h1.push (seqObj "list" us.toArray 0) }
  rw [z1]
  refine wpAny_bind (wpAny_holding (wpAny_call_entry_kw slot_list_sort ⟨_, o2, rfl⟩ entry_list_sort ?body (ksk_l1 _ _)))
  show wpAny (model X.prog X.w) X.A.in1.in1 (Builtin.«list.sort» ⟨[.ref (s.heap.objs.size + 1)], [(Str.ofString "key", .ref g)]⟩) _ _ _
  rw [ksk_t1]
  generalize ha : (s.heap.objs.size + 1 : Nat) = a at o2 ⊢
  have al : s.heap.objs.size ≤ a := by rw [← ha]; exact Nat.le_succ _
  have I2 : Inv X pins σ H { s with heap := h1.push (seqObj "list" us.toArray 0) } := I.kept (t' := s.toks) k2
  have fa : FpOk X pins H a := I.fpOk al (I.hok.fresh al)
  clear hh1 k2 z1
  generalize hh2 : h1.push (seqObj "list" us.toArray 0) = h2 at I2 o2
  obtain ⟨e1, o3⟩ : ∃ e1, (h2.update a (Obj.mapSeq fun _ => (#[] : Array Value))).get? a = some (seqObj "list" #[] e1) := ⟨_, get?_update_seq o2 fun _ => #[]⟩
  have I3 := inv_set I2 fa (Obj.mapSeq fun _ => (#[] : Array Value))
  unfold ksk_tree
  refine wpAny_bind (listItems_at o2 rfl ?_)
  refine wpAny_bind (listUpdate_at o2 rfl ?_ (by rw [List.size_toArray]; exact hsl) (Nat.zero_le _))
  refine wpAny_bind (seqEpoch_at o3 rfl ?_)
  refine wpAny_bind (wpAny_newTuple ?_ (by show us.length ≤ _; exact hsl))
  refine wpAny_bind (wpAny_newList ?_ (Nat.zero_le _))
  refine wpAny_holding ?_
  have hal : a < h2.objs.size := Heap.lt_size o2
  generalize hh3 : h2.update a (Obj.mapSeq fun _ => (#[] : Array Value)) = h3 at I3 o3
  have z3 : h3.objs.size = h2.objs.size := by rw [← hh3, Heap.size_update]
  have kk : ∀ b u, h3.get? b = some u → ((h3.push (seqObj "tuple" us.toArray 0)).push (seqObj "list" #[] 0)).get? b = some u := fun b u e => Heap.get?_push_of_some _ (Heap.get?_push_of_some _ e)
  have okS : ((h3.push (seqObj "tuple" us.toArray 0)).push (seqObj "list" #[] 0)).get? (h3.push (seqObj "tuple" us.toArray 0)).objs.size = some (seqObj "list" #[] 0) := Heap.get?_push_size _ rfl
  have I4 : Inv X pins σ H { s with heap := (h3.push (seqObj "tuple" us.toArray 0)).push (seqObj "list" #[] 0) } := I3.kept (t' := s.toks) kk
  have lkS : h3.objs.size ≤ (h3.push (seqObj "tuple" us.toArray 0)).objs.size := by rw [size_push']; exact Nat.le_succ _
  have fk : FpOk X pins H (h3.push (seqObj "tuple" us.toArray 0)).objs.size := I3.fpOk lkS (I3.hok.fresh lkS)
  have hka : (h3.push (seqObj "tuple" us.toArray 0)).objs.size ≠ a := Nat.ne_of_gt (Nat.lt_of_lt_of_le (by rw [z3]; exact hal) lkS)
  have oa4 := kk _ _ o3
  show wpAny _ _ (ksk_rest a (.ref g) false us.toArray e1 (.ref (h3.push (seqObj "tuple" us.toArray 0)).objs.size)) _ _ { s with heap := (h3.push (seqObj "tuple" us.toArray 0)).push (seqObj "list" #[] 0) }
  generalize (h3.push (seqObj "tuple" us.toArray 0)).objs.size = kS at okS fk hka ⊢
  generalize (h3.push (seqObj "tuple" us.toArray 0)).push (seqObj "list" #[] 0) = h5 at okS I4 oa4 ⊢
  have nfs : ∀ {b : Addr}, FpOk X pins H b → b ∉ frs X.stack := fun {b} f z => by
    rcases List.mem_cons.mp (I.stkSub b z) with e | e
    · exact f.2.1 e
    · exact f.2.2.1 e
  have na := nfs fa
  have nk := nfs fk
  unfold ksk_rest
  refine wpAny_bind (wpAny_rule ?_)
  rw [List.forIn_toArray]
  refine wpAny_bind (ksk_fold (fun i s' => ∃ H' m' kA e, Inv X pins σ H' s' ∧ Evo H m H' m' ∧ RepSt ⟨X.K, B⟩ H' m' st ∧ H' a = none ∧ H' kS = none ∧ s'.heap.get? a = some (seqObj "list" #[] e1) ∧
      s'.heap.get? kS = some (seqObj "list" kA e) ∧ IntsAre kA.toList (ks.take i)) us 0 _ ⟨H, m, #[], 0, I4, .refl, rs, fa.1, fk.1, oa4, okS, by simpa using IntsAre.nil⟩ ?step ?done)
  case step =>
    rintro j u s' hu ⟨H', m', kA, e, I', ev, rs', ha', hk', oa', ok', hi'⟩
    simp only [Nat.zero_add] at hi' ⊢
    have hj : j < us.length := (List.getElem?_eq_some_iff.mp hu).1
    have hjd : items[j]? = some items[j] := List.getElem?_eq_getElem (by omega)
    obtain ⟨kj, hkj, hF⟩ := kg j _ hjd
    obtain ⟨v, hv, rd⟩ := (RepL.evo ev _ _ rl).get hjd
    obtain ⟨u', hu', ru⟩ := rv.get hv
    rw [hu] at hu'; cases hu'
    refine wpAny_bind (wpAny_attempt (wpAny_mono (key_turn G room hgd hb I' rs' rd ru hF) (fun r s2 hr => ?_) fun _ _ hF => hF.elim))
    obtain ⟨H2, m2, tk, rfl, I2', ev2, rs2, hkeep⟩ := hr
    try dsimp only
    obtain ⟨oa2, ha2⟩ := hkeep a _ oa' ha' na
    obtain ⟨ok2, hk2⟩ := hkeep kS _ ok' hk' nk
    have hzA : kA.size ≤ us.length := by
      have q1 := hi'.length
      rw [Array.length_toList, List.length_take] at q1
      omega
    refine wpAny_bind (listUpdate_at ok2 rfl ?_ (by omega) (Nat.le_trans (Nat.le_of_eq (Array.size_push ..)) (by omega)))
    have sb := Heap.SameBut.update s2.heap kS (Obj.mapSeq (·.push (.int kj tk)))
    refine wpAny_pure ⟨rfl, H2, m2, kA.push (.int kj tk), _, inv_set I2' (fpOk_ch fk hk2) _, ev.trans ev2, rs2, ha2, hk2, (sb.2 a hka.symm).trans oa2, get?_update_seq ok2 (·.push (.int kj tk)), ?_⟩
    have ek : ks.take (j + 1) = ks.take j ++ [kj] := by rw [List.take_add_one, hkj]; simp
    rw [ek, Array.toList_push]
    exact ksk_snoc hi'
  case done =>
    rintro s' ⟨H', m', kA, e, I', ev, rs', ha', hk', oa', ok', hi'⟩
    rw [Nat.zero_add, List.take_of_length_le (by omega)] at hi'
    try dsimp only
    refine wpAny_bind (listItems_at ok' rfl ?_)
    refine key_end ok' oa' hka hi' (by omega) (by omega) fun out c ho hout => ⟨_, rfl, ?_⟩
    refine wpAny_pure ⟨_, rfl, ?_⟩
    obtain ⟨ps, hp, e2, hpw⟩ := ho
    simp only [Bool.false_eq_true, if_false] at hpw
    have eps : ps = srtK (ks.zip us) := srtK_one hp hpw (by rw [List.map_fst_zip (by omega)]; exact nd)
    subst eps
    have rlv : Vals (sortBy ks vs) out.toList := by rw [e2]; exact f2_snd (srtK_rel _ (f2_zip rv))
    have rl' : RepL ⟨X.K, B⟩ H' m' (sortBy ks items) (sortBy ks vs) := f2_repl (f2_snd (srtK_rel _ (f2_zip (repl_f2 (RepL.evo ev _ _ rl)))))
    have I6 := inv_set I' (fpOk_ch fk hk') (Obj.mapSeq fun _ => (#[] : Array Value))
    have lz : (sortBy ks vs).length ≤ sizeLine := by
      unfold sortBy
      rw [List.length_map, (srtK_perm _).length_eq, List.length_zip]
      have := rv.length
      omega
    have I7 : Inv X pins σ (upd H' a (.lst (sortBy ks vs))) { s' with heap := (s'.heap.update kS (Obj.mapSeq fun _ => (#[] : Array Value))).update a (Obj.mapSeq fun _ => out) } :=
      Inv.take (s := { s' with heap := s'.heap.update kS (Obj.mapSeq fun _ => (#[] : Array Value)) }) (t' := s'.toks) I6 (fun b ob hb e => ((Heap.SameBut.update _ a _).2 b hb).trans e) (fpOk_ch fa ha') ⟨lz, out.toList, c, rlv, by rw [Array.toArray_toList]; exact hout⟩
    exact ⟨.ref a, _, I7, rfl, q _ m' a (ev.trans (Grow.upd ha').evo) (rs'.grow (Grow.upd ha')) (Rep.newL rs' ha' rl')⟩
end
end DL
namespace DL
open PySem PySem.Spec PyProof.Rows L2
def gSortKey (F : Fd) (st : Store) (d : D) : Option D := (lstV st d).bind fun items => (keysF F st items).bind fun ks => if items.length < 64 ∧ ks.Nodup then some (.lst (sortBy ks items)) else none
def xSortKey (F : Fd) (f : Fe) : Fe := fun ρ st => (f ρ st).bind fun d s1 => lift (gSortKey F s1 d) s1
section
variable {X : Cx} {W : WX}
def rSK (K : PySem.W.Frag) (g : Addr) (F : Fd) : List V → List V → Hp → VK → Prop := fun vs zs H Q => ∃ (B m : List Addr) (st : Store) (items : List D) (l : Addr) (xs : List V) (ks : List Int), vs = [.ref l] ∧ zs = [.ref g] ∧ RepSt ⟨K, B⟩ H m st ∧ SqL K H l xs ∧ RepL ⟨K, B⟩ H m items xs ∧
  keysF F st items = some ks ∧ items.length < 64 ∧ ks.Nodup ∧ ∀ H' m' p, Evo H m H' m' → RepSt ⟨K, B⟩ H' m' st → Rep ⟨K, B⟩ H' m' (.lst (sortBy ks items)) (.ref p) → Q (.ref p) H'
theorem ck_sortKey {k : Nat} {g : Addr} {fd : FuncData} {x : Str} {F : Fd} (G : FnG X.prog X.w X.K X.mg X.base k g fd [x] (spD X.K 1 F)) (room : Room (k + 2) X.A) (hx : XOk X W) (hb : Binds X.K fd [x] []) :
    CallRK X (.builtin "sorted") [Str.ofString "key"] (rSK X.K g F) := by
  intro pins s σ H xs zs us ws Q I r1 r2 h
  obtain ⟨B, m, st, items, l, vs, ks, rfl, rfl, rs, hs, rl, hk, h64, nd, q⟩ := h
  cases r1 with
  | cons a b =>
    cases b
    cases r2 with
    | cons a' b' =>
      cases b'
      cases a
      cases a'
      exact call_sortKey G room hx.gd hb I rs hs rl hk h64 nd q
theorem de_sortKey {k : Nat} {g : Addr} {fd : FuncData} {x nm : Str} {F : Fd} {e : Expr} {f : Fe} {p p2 kp pos : Pos} (G : FnG X.prog X.w X.K X.mg X.base k g fd [x] (spD X.K 1 F)) (room : Room (k + 2) X.A) (hx : XOk X W) (hb : Binds X.K fd [x] [])
    (hm : X.mg "sorted" = none) (hmf : X.mg nm = some (.ref g)) (he : DE X W e f) (hg : Gl X "sorted" := by rfl) (hgf : Gl X nm := by rfl) (hd : (nm == ("__debug__" : Str)) = false := by decide)
    (hs : starEach [e] X.env = (false, eval e X.env) :: starEach [] X.env := by rfl)
    (h1 : backTo pos (starEach [e] X.env) = (false, eval e X.env) :: backTo pos (starEach [] X.env) := by rfl) (h2 : (backTo pos (starEach [e] X.env)).any (·.1) = false := by rfl)
    (h3 : (backToKw pos (keywordEach [⟨some "key", .Name nm p2, kp⟩] X.env)).all (·.1.isSome) = true := by rfl) (h4 : (backToKw pos (keywordEach [⟨some "key", .Name nm p2, kp⟩] X.env)).any (·.1.isNone) = false := by rfl)
    (h5 : (backToKw pos (keywordEach [⟨some "key", .Name nm p2, kp⟩] X.env)).filterMap (·.1) = [Str.ofString "key"] := by rfl) :
    DE X W (.Call (.Name "sorted" p) [e] [⟨some "key", .Name nm p2, kp⟩] pos) (xSortKey F f) := by
  obtain ⟨t, pt, qt⟩ := he
  refine ⟨_, pe_callBK (ck_sortKey G room hx hb) hg hm boot_sorted (pa_cons pt pa_nil hs) (pk_cons (pe_glob (v := .ref g) hgf hmf rfl hd) pk_nil) (by decide) (by decide) h1 h2 h3 h4 h5, fun B σ H ρ st m Q re rs h => ?_⟩
  refine qt B σ H ρ st m _ re rs (good_bind h fun d s1 v H1 m1 e1 r1 rs1 h1 => ?_)
  cases hd : gSortKey F s1 d with
  | none => rw [hd] at h1; exact h1.elim
  | some d2 =>
    rw [hd] at h1
    unfold gSortKey at hd
    obtain ⟨items, hi, hd⟩ := Option.bind_eq_some_iff.mp hd
    obtain ⟨ks, hk, hd⟩ := Option.bind_eq_some_iff.mp hd
    split at hd
    · rename_i hc
      cases hd
      obtain ⟨a, vs, rfl, hsq, rl⟩ := lstV_rep rs1 r1 hi
      exact ⟨B, m1, s1, items, a, vs, ks, rfl, rfl, rs1, hsq, rl, hk, hc.1, hc.2, fun H' m' pp e' rs' rp => h1 _ H' m' e' rp rs'⟩
    · cases hd
end
end DL
namespace DL
open PySem PySem.Spec PyProof.Rows L2
theorem places_back (n : Nat) : Builtin.Slice.slicePlaces ((n : Int) - 1) (-1) (-1) = n := by
  unfold Builtin.Slice.slicePlaces
  rw [if_neg (by decide), show (- -1 : Int) = 1 by decide, Int.ediv_one]
  by_cases h : (n : Int) - 1 > -1
  · rw [if_pos h]; omega
  · rw [if_neg h]; omega
theorem pick_back (xs : Array Value) : ((List.range xs.size).filterMap fun (m : Nat) => xs[((xs.size : Int) - 1 + (m : Int) * -1).toNat]?).toArray = xs.toList.reverse.toArray := by
  have key : (List.range xs.size).filterMap (fun (m : Nat) => xs[((xs.size : Int) - 1 + (m : Int) * -1).toNat]?) = ((List.range xs.size).map fun k => xs.size - 1 - k).filterMap (xs[·]?) := by
    rw [List.filterMap_map]
    have go : ∀ l : List Nat, (∀ m ∈ l, m < xs.size) → l.filterMap (fun (m : Nat) => xs[((xs.size : Int) - 1 + (m : Int) * -1).toNat]?) = l.filterMap ((xs[·]?) ∘ fun k => xs.size - 1 - k) := by
      intro l
      induction l with
      | nil => intro _; rfl
      | cons m l ih =>
        intro h
        have hm := h m (by simp)
        have e : ((xs.size : Int) - 1 + (m : Int) * -1).toNat = xs.size - 1 - m := by omega
        simp only [List.filterMap_cons, e, Function.comp]
        rw [ih fun y hy => h y (by simp [hy])]
    exact go _ fun m hm => List.mem_range.mp hm
  rw [key, PySem.W.krv_range, List.filterMap_reverse, PySem.W.krv_all]
section
variable {prog : Program} {w : World} {A : Around} {E : Value → Shared → Prop} {s : Shared}
theorem applied_back {sl : Addr} {vk : Value} {n : Nat} {Q : Int × Int × Nat → Shared → Prop} (hs : s.heap.IsSliceOf sl .none .none vk) (pk : IsPart vk (some (-1))) (h : Q ((n : Int) - 1, -1, n) s) :
    wpAny (model prog w) A (Builtin.Slice.sliceApplied (.ref sl) (pure (n : Int))) Q E s := by
  obtain ⟨os, hos, hcs, hds⟩ := id hs
  unfold Builtin.Slice.sliceApplied Builtin.Slice.sliceFields
  refine wpAny_bind (wpAny_bind (wpAny_field hos hds (x := .none) rfl (wpAny_bind (wpAny_field hos hds (x := .none) rfl
    (wpAny_bind (wpAny_field hos hds (x := vk) rfl (wpAny_pure ?_)))))))
  refine wpAny_bind (HT.slicePart_ pk ?_)
  show wpAny _ _ (if ((-1 : Int) == 0) = true then _ else _) _ _ s
  rw [if_neg (by decide)]
  refine wpAny_bind (HT.slicePart_ .none (wpAny_bind (HT.slicePart_ .none (wpAny_bind (wpAny_pure ?_)))))
  show wpAny _ _ (pure ((n : Int) - 1, (-1 : Int), Builtin.Slice.slicePlaces ((n : Int) - 1) (-1) (-1))) _ _ s
  rw [places_back]
  exact wpAny_pure h
theorem getItem_tup_back {t sl : Addr} {items : Array Value} {vk : Value} {Q : Value → Shared → Prop} (ht : IsTup s.heap t items) (hs : s.heap.IsSliceOf sl .none .none vk) (pk : IsPart vk (some (-1)))
    (h : Q (.ref s.heap.objs.size) { s with heap := s.heap.push { cls := .type "tuple", data := .seq items.toList.reverse.toArray } }) (hz : items.size ≤ sizeLine) :
    wpAny (model prog w) A (getItem (.ref t) (.ref sl)) Q E s := by
  have hok : sizeOk (.seq items.toList.reverse.toArray) := by
    show (items.toList.reverse.toArray).size ≤ sizeLine
    simpa using hz
  obtain ⟨os, hos, hcs, hds⟩ := id hs
  have hTs : s.TypeIs (.ref sl) "slice" := ⟨os, hos, hcs⟩
  unfold getItem
  try with_reducible refine wpAny_holding ?_
  first | refine wpAny_bind (wpAny_pure ?_) | skip
  refine wpAny_bind (wpAny_sequenceKey ht.typeIs (by decide) ?_)
  refine wpAny_bind (wpAny_callSpecial?_slot (name := Str.ofString "__getitem__") ht.typeIs PyProof.Rows.slot_tuple_getitem
    (wpAny_call_entry PyProof.Rows.slot_tuple_getitem ht.typeIs PyProof.Rows.entry_tuple_getitem ?_ (PyProof.Rows.args_tuple_getitem _ _)))
  show wpAny _ _ (Builtin.Tuple.tupleItemsOf (.ref t) >>= _) _ _ s
  refine wpAny_bind (PyProof.Rows.tupleItemsOf_ ht ?_)
  refine wpAny_bind (wpAny_typeOf hTs ?_)
  rw [if_pos (by decide)]
  refine wpAny_bind (applied_back hs pk ?_)
  show wpAny _ _ (if (((items.size : Int) - 1) == 0 && (-1 : Int) == 1 && items.size == items.size) = true then _ else _) _ _ s
  rw [if_neg (by rw [show ((-1 : Int) == 1) = false from rfl, Bool.and_false, Bool.false_and]; exact Bool.false_ne_true), pick_back]
  first
    | exact wpAny_bind (m := Builtin.Tuple.tupleExact _) (wpAny_newObj_type (wpAny_pure ⟨_, rfl, wpAny_pure h⟩) hok)
    | exact wpAny_bind (m := Builtin.Tuple.tupleExact _) (wpAny_newObj_type (wpAny_bind (wpAny_pure (wpAny_pure ⟨_, rfl, wpAny_pure h⟩))) hok)
    | exact wpAny_bind (wpAny_bind (m := Builtin.Tuple.tupleExact _) (wpAny_newObj_type (wpAny_pure (wpAny_pure ⟨_, rfl, wpAny_pure h⟩)) hok))
    | exact wpAny_bind (wpAny_bind (m := Builtin.Tuple.tupleExact _) (wpAny_newObj_type (wpAny_pure ⟨_, rfl, wpAny_pure h⟩) hok))
end
section
variable {X : Cx} {W : WX} {e : Expr} {f : Fe} {k : Nat} {p1 p2 p3 pos : Pos}
def tBack (K : PySem.W.Frag) (te : TE) : TE := fun σ H Q => te σ H fun x H1 => ∃ (kd : Kd) (a : Addr) (xs : List V), x = .ref a ∧ SqK K kd H1 a xs ∧ ∀ p, H1 p = none → Q (.ref p) (upd H1 p (match kd with | .l => .lst xs.reverse | .t => .tup xs.reverse))
theorem pe_back {te : TE} (he : PE X e te) : PE X (.Subscript e (.Slice none none (some (.UnaryOp .USub (.Constant (.int 1) k p1) p2)) p3) pos) (tBack X.K te) := by
  refine ⟨fun pins s σ H Q I h => Subscript_ (thn (he.run pins s σ H _ I h) fun v s1 ⟨x, H1, I1, r1, kd, a, xs, ex, hx, q⟩ => ?_)⟩
  subst ex
  cases r1
  have hst : PO X (some (.UnaryOp .USub (.Constant (.int 1) k p1) p2)) (tPart (tUn (rU fun i => .int (-i)) (tC (.int 1)))) := po_some (pe_un un_neg pe_int)
  refine wpAny_Slice (thn (po_none.run pins s1 σ H1 (fun o H2 => o = none ∧ H2 = H1) I1 ⟨rfl, rfl⟩) fun vl s2 ⟨l, H2, I2, pl, el, e2⟩ => ?_)
  subst el; subst e2
  refine thn (po_none.run pins s2 σ H2 (fun o H3 => o = none ∧ H3 = H2) I2 ⟨rfl, rfl⟩) fun vu s3 ⟨u, H3, I3, pu, eu, e3⟩ => ?_
  subst eu; subst e3
  refine thn (hst.run pins s3 σ H3 (fun o H4 => o = some (-1) ∧ H4 = H3) I3 ⟨1, rfl, -1, rfl, rfl, rfl⟩) fun vs s4 ⟨o, H4, I4, ps, eo, e4⟩ => ?_
  subst eo; subst e4
  cases pl
  cases pu
  have I5 : Inv X pins σ H4 { s4 with heap := s4.heap.push { cls := .type "slice", data := .fields #[.none, .none, vs] } } := I4.kept (t' := s4.toks) fun b ob z => Heap.get?_push_of_some _ z
  show wpAny (model X.prog X.w) X.A (subscriptTail e (.Slice none none (some (.UnaryOp .USub (.Constant (.int 1) k p1) p2)) p3) (.ref a) (.ref s4.heap.objs.size)) _ _ _
  cases kd with
  | l =>
    obtain ⟨its, r, ht, hz⟩ := I5.list hx
    have hn := r.length
    refine tail_any (ops := [.ref a, .ref s4.heap.objs.size]) ht.isList.typeIs (PySem.slot_list_getitem.lookup) ?_ (by with_unfolding_all rfl)
    refine wpAny_getItem_list_slice ht.isList (Heap.IsSliceOf.new _ .none .none vs) .none .none ps (by decide) ?_ (by rw [List.size_toArray]; omega)
    rw [PySem.W.krv_pick]
    exact ⟨.ref _, _, I5.laid (t' := s4.toks) (o := .lst xs.reverse) (fun b ob z => Heap.get?_push_of_some _ z) (Nat.le_refl _) ⟨by rw [List.length_reverse]; exact hz, _, 0, r.reverse, Heap.get?_push_size _ rfl⟩, rfl, q _ (I5.hok.fresh (Nat.le_refl _))⟩
  | t =>
    obtain ⟨its, r, ht, hz⟩ := I5.tuple hx
    have hn := r.length
    refine tail_any (ops := [.ref a, .ref s4.heap.objs.size]) ht.typeIs PyProof.Rows.slot_tuple_getitem.lookup ?_ (by with_unfolding_all rfl)
    refine getItem_tup_back ht (Heap.IsSliceOf.new _ .none .none vs) ps ?_ (by rw [List.size_toArray]; omega)
    exact ⟨.ref _, _, I5.laid (t' := s4.toks) (o := .tup xs.reverse) (fun b ob z => Heap.get?_push_of_some _ z) (Nat.le_refl _) ⟨by rw [List.length_reverse]; exact hz, _, r.reverse, IsTup.new _ _⟩, rfl, q _ (I5.hok.fresh (Nat.le_refl _))⟩
def gBack (st : Store) : D → Option D
  | .tup ds => some (.tup ds.reverse)
  | d => (lstV st d).map fun ds => .lst ds.reverse
def xBack (f : Fe) : Fe := fun ρ st => (f ρ st).bind fun d s1 => lift (gBack s1 d) s1
theorem de_back (h : DE X W e f) : DE X W (.Subscript e (.Slice none none (some (.UnaryOp .USub (.Constant (.int 1) k p1) p2)) p3) pos) (xBack f) := by
  obtain ⟨t, p, q⟩ := h
  refine ⟨_, pe_back p, fun B σ H ρ st m Q re rs h => ?_⟩
  refine q B σ H ρ st m _ re rs (good_bind h fun d s1 v H1 m1 e1 r1 rs1 h1 => ?_)
  have other : ∀ {ds : List D}, lstV s1 d = some ds → (∀ v2 H2, Grow H1 H2 → Rep ⟨X.K, B⟩ H2 m1 (.lst ds.reverse) v2 → Q v2 H2) → ∃ (kd : Kd) (a : Addr) (xs : List V), v = .ref a ∧ SqK X.K kd H1 a xs ∧ ∀ p, H1 p = none → Q (.ref p) (upd H1 p (match kd with | .l => .lst xs.reverse | .t => .tup xs.reverse)) := fun {ds} hl q => by
    obtain ⟨a, vs, rfl, hs, rl⟩ := lstV_rep rs1 r1 hl
    exact ⟨.l, a, vs, rfl, hs, fun p hp => q _ _ (Grow.upd hp) (Rep.newL rs1 hp rl.reverse)⟩
  obtain ⟨d2, hd, hq⟩ := good_lift h1
  cases d with
  | tup ds =>
    cases hd
    obtain ⟨a, vs, rfl, hs, rl⟩ := r1.tup_sq
    exact ⟨.t, a, vs, rfl, hs, fun p hp => hq _ _ (Grow.upd hp) rs1 (Rep.newT rs1 hp rl.reverse)⟩
  | _ =>
    simp only [gBack] at hd
    obtain ⟨ds, hl, rfl⟩ := Option.map_eq_some_iff.mp hd
    exact other hl fun v2 H2 g r => hq v2 H2 g rs1 r
/-- {} -/
def xDic0 : Fe := fun _ st => .ok (.loc st.length) (st ++ [.dic []])
theorem de_dic0 : DE X W (.Dict [] [] pos) xDic0 := ⟨_, pe_dnewK, fun B σ H ρ st m Q re rs h p hp => by
  have ev : Evo H m (upd H p (.dK [])) (m ++ [p]) := .push hp
  exact h (.ref p) _ _ ev (Rep.loc_iff.mpr ⟨p, rfl, by rw [← rs.len]; simp⟩) (rs.push hp ⟨[], upd_same, rfl⟩)⟩
end
end DL
namespace DL
open PySem PySem.Spec PyProof.Rows L2
section
variable {X : Cx} {W : WX} {pos : Pos} {a b e : Expr} {fa fb f : Fe} {es : List Expr} {fs : Fa}
structure DOpL (X : Cx) (F : Value → Value → Sem Value) (g : Store → D → D → Option (List D)) : Prop where
  ex : ∃ r : R2, OpR X F r ∧ ∀ (B : List Addr) (x y : V) (H : Hp) (m : List Addr) (st : Store) (da db : D) (ds : List D) (Q : VK), RepSt ⟨X.K, B⟩ H m st → Rep ⟨X.K, B⟩ H m da x → Rep ⟨X.K, B⟩ H m db y → g st da db = some ds →
    (∀ p vs, H p = none → RepL ⟨X.K, B⟩ H m ds vs → Q (.ref p) (upd H p (.lst vs))) → r x y H Q
structure DCallL (X : Cx) (f : Value) (g : Store → List D → Option (List D)) : Prop where
  ex : ∃ r, CallR X f r ∧ ∀ (B : List Addr) (xs : List V) (H : Hp) (m : List Addr) (st : Store) (ds es : List D) (Q : VK), RepSt ⟨X.K, B⟩ H m st → RepL ⟨X.K, B⟩ H m ds xs → g st ds = some es →
    (∀ p vs, H p = none → RepL ⟨X.K, B⟩ H m es vs → Q (.ref p) (upd H p (.lst vs))) → r xs H Q
def placeO (o : Option (List D)) (st : Store) : Res D := match o with
  | some ds => .ok (.loc st.length) (st ++ [.lst ds])
  | none => .fail
@[simp] theorem placeO_some (ds : List D) (st : Store) : placeO (some ds) st = .ok (.loc st.length) (st ++ [.lst ds]) := id rfl
@[simp] theorem placeO_none (st : Store) : placeO none st = .fail := id rfl
def xOpN (g : Store → D → D → Option (List D)) (fa fb : Fe) : Fe := fun ρ st => (fa ρ st).bind fun da s1 => (fb ρ s1).bind fun db s2 => placeO (g s2 da db) s2
def xCallN (g : Store → List D → Option (List D)) (fa : Fa) : Fe := fun ρ st => (fa ρ st).bind fun ds s1 => placeO (g s1 ds) s1
theorem good_place {K : KB} {H : Hp} {m : List Addr} {o : Option (List D)} {st : Store} {R : V → Hp → Prop} {W : WH} (rs : RepSt K H m st) (h : GoodR (Rep K) (placeO o st) R W K H m) : ∃ ds, o = some ds ∧ ∀ p vs, H p = none → RepL K H m ds vs → R (.ref p) (upd H p (.lst vs)) := by
  cases o with
  | none => exact h.elim
  | some ds =>
    refine ⟨ds, rfl, fun p vs hp r => ?_⟩
    obtain ⟨a1, a2, a3⟩ := new_place rs r hp
    exact h (.ref p) _ _ a1 a2 a3
theorem de_opN {op : Operator} {g : Store → D → D → Option (List D)} (o : DOpL X (binaryOp op) g) (ha : DE X W a fa) (hb : DE X W b fb) : DE X W (.BinOp a op b pos) (xOpN g fa fb) := by
  obtain ⟨r, hr, hq⟩ := o
  obtain ⟨ta, pa, qa⟩ := ha
  obtain ⟨tb, pb, qb⟩ := hb
  refine ⟨_, pe_op hr pa pb, fun B σ H ρ st m Q re rs h => ?_⟩
  refine qa B σ H ρ st m _ re rs (good_bind h fun da s1 x H1 m1 e1 r1 rs1 h1 => ?_)
  refine qb B σ H1 ρ s1 m1 _ (re.evo e1) rs1 (good_bind h1 fun db s2 y H2 m2 e2 r2 rs2 h2 => ?_)
  obtain ⟨ds, hd, q⟩ := good_place rs2 h2
  exact hq B x y H2 m2 s2 da db ds Q rs2 (Rep.evo e2 _ _ r1) r2 hd q
theorem de_callTyN {x : Str} {p : Pos} {T : String} {g : Store → List D → Option (List D)} (hc : DCallL X (.type T) g) (hg : Gl X x) (hm : X.mg x = none) (hv : bootBuiltins x = some (.type T)) (ha : DA X W (e :: es) fs) (hn : x ≠ "__name__" := by decide) (hdb : (x == ("__debug__" : Str)) = false := by decide)
    (he : starEach (e :: es) X.env = (false, eval e X.env) :: starEach es X.env := by rfl) (hpl : (backTo pos (starEach es X.env)).any (·.1) = false := by rfl) : DE X W (.Call (.Name x p) (e :: es) [] pos) (xCallN g fs) := by
  obtain ⟨r, hr, hq⟩ := hc
  obtain ⟨⟨t, pt, q⟩, _⟩ := ha
  refine ⟨_, pe_callTy hr hg hm hv pt hn hdb he hpl, fun B σ H ρ st m Q re rs h => ?_⟩
  refine q B σ H ρ st m _ re rs (good_bind h fun ds s1 xs H1 m1 e1 r1 rs1 h1 => ?_)
  obtain ⟨es, hd, q⟩ := good_place rs1 h1
  exact hq B xs H1 m1 s1 ds es Q rs1 r1 hd q
def gAddL (st : Store) (a b : D) : Option (List D) := (lstM st a).bind fun x => (lstM st b).bind fun y => if x.length + y.length ≤ sizeLine then some (x ++ y) else none
theorem dl_add : DOpL X (binaryOp .Add) gAddL := ⟨_, op_cat, fun B x y H m st da db ds Q rs ra rb h q => by
  obtain ⟨xs, h1, h⟩ := Option.bind_eq_some_iff.mp h
  obtain ⟨ys, h2, h⟩ := Option.bind_eq_some_iff.mp h
  split at h
  · rename_i hz
    cases h
    obtain ⟨a, vs, rfl, ha, la⟩ := lstM_rep rs ra h1
    obtain ⟨b, ws, rfl, hb, lb⟩ := lstM_rep rs rb h2
    exact ⟨a, b, vs, ws, rfl, rfl, ha, hb, by rw [← la.length, ← lb.length]; exact hz, fun p hp => q p _ hp (la.append lb)⟩
  · cases h⟩
def gMulL (st : Store) (a b : D) : Option (List D) := match b with
  | .int k => (lstM st a).bind fun x => if -(2 ^ 63) ≤ k ∧ k < 2 ^ 63 ∧ x.length * k.toNat ≤ sizeLine then some (List.replicate k.toNat x).flatten else none
  | _ => none
theorem dl_mul : DOpL X (binaryOp .Mult) gMulL := ⟨_, op_rep, fun B x y H m st da db ds Q rs ra rb h q => by
  unfold gMulL at h
  split at h
  · obtain ⟨xs, h1, h⟩ := Option.bind_eq_some_iff.mp h
    split at h
    · rename_i hz
      cases h
      obtain ⟨a, vs, rfl, ha, la⟩ := lstM_rep rs ra h1
      exact ⟨a, _, vs, rfl, Rep.int_iff.mp rb, ha, hz.1, hz.2.1, by rw [← la.length]; exact hz.2.2, fun p hp => q p _ hp (la.replicate _)⟩
    · cases h
  · cases h⟩
end
end DL
namespace DL
open PySem PySem.Spec PyProof.Rows L2
theorem _root_.L2.Room.hu {k : Nat} {A : Around} (r : Room k A) : A.units + 64 < cLine := by have := r.un; omega
/-- enough turns for a common divisor by Euclid: slot 1 gets less at each turn -/
def gcdFuel (j : Nat) (ρ : DEnv) : Nat := match ρ[j]? with
  | some (some (.int i)) => i.natAbs + 1
  | _ => 0
end DL
namespace DL
open PySem PySem.Spec PyProof.Rows L2
section
variable {ρ : DEnv} {st : Store}
@[simp] theorem ev_xVar (i : Nat) : xVar i ρ st = match ρ[i]? with
  | some (some d) => .ok d st
  | _ => .fail := id rfl
@[simp] theorem ev_xC (d : D) : xC d ρ st = .ok d st := id rfl
@[simp] theorem ev_xOp (g : G2) (fa fb : Fe) : xOp g fa fb ρ st = (fa ρ st).bind fun da s1 => (fb ρ s1).bind fun db s2 => lift (g s2 da db) s2 := id rfl
@[simp] theorem ev_xUn (g : G1) (fa : Fe) : xUn g fa ρ st = (fa ρ st).bind fun da s1 => lift (g s1 da) s1 := id rfl
@[simp] theorem ev_xCall (g : GL) (fa : Fa) : xCall g fa ρ st = (fa ρ st).bind fun ds s1 => lift (g s1 ds) s1 := id rfl
@[simp] theorem ev_aNil : aNil ρ st = .ok [] st := id rfl
@[simp] theorem ev_aCons (f : Fe) (fs : Fa) : aCons f fs ρ st = (f ρ st).bind fun d s1 => (fs ρ s1).bind fun ds s2 => .ok (d :: ds) s2 := id rfl
@[simp] theorem ev_xTup (fs : Fa) : xTup fs ρ st = (fs ρ st).bind fun ds s1 => .ok (.tup ds) s1 := id rfl
@[simp] theorem ev_xLst (fs : Fa) : xLst fs ρ st = (fs ρ st).bind fun ds s1 => .ok (.lst ds) s1 := id rfl
@[simp] theorem ev_xNew (fs : Fa) : xNew fs ρ st = (fs ρ st).bind fun ds s1 => .ok (.loc s1.length) (s1 ++ [.lst ds]) := id rfl
@[simp] theorem ev_tVal (f : Fe) : tVal f ρ st = (f ρ st).bind fun d s1 => liftB (tB d) s1 := id rfl
@[simp] theorem ev_tB (b : Bool) : tB (.bl b) = some b := id rfl
@[simp] theorem ev_tAndF (f g : Ft) : tAndF f g ρ st = (f ρ st).bind fun b s1 => if b = true then g ρ s1 else .ok false s1 := id rfl
@[simp] theorem ev_tOrF (f g : Ft) : tOrF f g ρ st = (f ρ st).bind fun b s1 => if b = true then .ok true s1 else g ρ s1 := id rfl
@[simp] theorem ev_tNotF (f : Ft) : tNotF f ρ st = (f ρ st).bind fun b s1 => .ok (!b) s1 := id rfl
@[simp] theorem ev_tAll : tAll ρ st = .ok true st := id rfl
@[simp] theorem ev_xAndF (f g : Fe) : xAndF f g ρ st = (f ρ st).bind fun d s1 => match d with
  | .bl true => g ρ s1
  | .bl false => .ok (.bl false) s1
  | _ => .fail := id rfl
@[simp] theorem ev_xOrF (f g : Fe) : xOrF f g ρ st = (f ρ st).bind fun d s1 => match d with
  | .bl true => .ok (.bl true) s1
  | .bl false => g ρ s1
  | _ => .fail := id rfl
@[simp] theorem ev_xNotF (f : Fe) : xNotF f ρ st = (f ρ st).bind fun d s1 => match d with
  | .bl b => .ok (.bl (!b)) s1
  | _ => .fail := id rfl
@[simp] theorem ev_xIf (c : Ft) (f g : Fe) : xIf c f g ρ st = (c ρ st).bind fun b s1 => if b = true then f ρ s1 else g ρ s1 := id rfl
@[simp] theorem ev_xChain (g g' : G2) (fa fb fc : Fe) : xChain g g' fa fb fc ρ st = (fa ρ st).bind fun da s1 => (fb ρ s1).bind fun db s2 => (lift (g s2 da db) s2).bind fun k s3 => match k with
  | .bl true => (fc ρ s3).bind fun dc s4 => lift (g' s4 db dc) s4
  | .bl false => .ok (.bl false) s3
  | _ => .fail := id rfl
@[simp] theorem ev_oNone : oNone ρ st = .ok none st := id rfl
@[simp] theorem ev_oSome (f : Fe) : oSome f ρ st = (f ρ st).bind fun d s1 => match d with
  | .int i => .ok (some i) s1
  | _ => .fail := id rfl
@[simp] theorem ev_xSl (g : GS) (fa : Fe) (fl fh : Fo) : xSl g fa fl fh ρ st = (fa ρ st).bind fun da s1 => (fl ρ s1).bind fun lo s2 => (fh ρ s2).bind fun hi s3 => lift (g s3 da lo hi) s3 := id rfl
@[simp] theorem ev_xBack (f : Fe) : xBack f ρ st = (f ρ st).bind fun d s1 => lift (gBack s1 d) s1 := id rfl
@[simp] theorem ev_xDic0 : xDic0 ρ st = .ok (.loc st.length) (st ++ [.dic []]) := id rfl
@[simp] theorem ev_xSrtSet (f : Fe) : xSrtSet f ρ st = (f ρ st).bind fun d s1 => lift (gSrtSet s1 d) s1 := id rfl
@[simp] theorem ev_xSortKey (F : Fd) (f : Fe) : xSortKey F f ρ st = (f ρ st).bind fun d s1 => lift (gSortKey F s1 d) s1 := id rfl
@[simp] theorem ev_xOpN (g : Store → D → D → Option (List D)) (fa fb : Fe) : xOpN g fa fb ρ st = (fa ρ st).bind fun da s1 => (fb ρ s1).bind fun db s2 => placeO (g s2 da db) s2 := id rfl
@[simp] theorem ev_xApply (F : Fd) (fa : Fa) : xApply F fa ρ st = (fa ρ st).bind fun ds s1 => F ds s1 := id rfl
@[simp] theorem ev_xApp (fo fe : Fe) : xApp fo fe ρ st = (fo ρ st).bind fun o s1 => match o with
  | .loc l => match s1[l]? with
    | some (.lst _) => (fe ρ s1).bind fun d s2 => match s2[l]? with
      | some (.lst ds) => if ds.length < sizeLine then .ok .non (s2.set l (.lst (ds ++ [d]))) else .fail
      | _ => .fail
    | _ => .fail
  | _ => .fail := id rfl
@[simp] theorem ev_sSet (i : Nat) (f : Fe) : sSet i f ρ st = (f ρ st).thenS ρ fun d s1 => .nx (ρ.set i (some d)) s1 := id rfl
@[simp] theorem ev_sDrop (f : Fe) : sDrop f ρ st = (f ρ st).thenS ρ fun _ s1 => .nx ρ s1 := id rfl
@[simp] theorem ev_sRet (f : Fe) : sRet f ρ st = (f ρ st).thenS ρ fun d s1 => .ret d s1 := id rfl
@[simp] theorem ev_sRetN : sRetN ρ st = .ret .non st := id rfl
@[simp] theorem ev_sPass : sPass ρ st = .nx ρ st := id rfl
@[simp] theorem ev_sBrk : sBrk ρ st = .brk ρ st := id rfl
@[simp] theorem ev_sCnt : sCnt ρ st = .cnt ρ st := id rfl
@[simp] theorem ev_sNever : sNever ρ st = .fail := id rfl
@[simp] theorem ev_sSeq (f g : Fs) : sSeq f g ρ st = (f ρ st).seq g := id rfl
@[simp] theorem seq_nx (g : Fs) : (SRes.nx ρ st).seq g = g ρ st := id rfl
@[simp] theorem seq_ret (d : D) (g : Fs) : (SRes.ret d st).seq g = .ret d st := id rfl
@[simp] theorem seq_brk (g : Fs) : (SRes.brk ρ st).seq g = .brk ρ st := id rfl
@[simp] theorem seq_cnt (g : Fs) : (SRes.cnt ρ st).seq g = .cnt ρ st := id rfl
@[simp] theorem ev_sIf (c : Ft) (f g : Fs) : sIf c f g ρ st = (c ρ st).thenS ρ fun b s1 => if b = true then f ρ s1 else g ρ s1 := id rfl
@[simp] theorem ev_gN (i : Nat) (d : D) : gN i d ρ = some (ρ.set i (some d)) := id rfl
@[simp] theorem ev_gT (n : Nat) (gs : Fgs) (ds : List D) : gT n gs (.tup ds) ρ = if ds.length = n then gs ds ρ else none := id rfl
@[simp] theorem ev_gsNil : gsNil [] ρ = some ρ := id rfl
@[simp] theorem ev_gsCons (g : Fg) (gs : Fgs) (d : D) (ds : List D) : gsCons g gs (d :: ds) ρ = (g d ρ).bind fun ρ1 => gs ds ρ1 := id rfl
@[simp] theorem ev_sAsg (f : Fe) (g : Fg) : sAsg f g ρ st = (f ρ st).thenS ρ fun d s1 => match g d ρ with
  | some ρ' => .nx ρ' s1
  | none => .fail := id rfl
@[simp] theorem ev_sPar (i j : Nat) (fa : Fa) : sPar i j fa ρ st = (fa ρ st).thenS ρ fun ds s1 => match ds with
  | [a, b] => .nx ((ρ.set i (some a)).set j (some b)) s1
  | _ => .fail := id rfl
@[simp] theorem ev_sPut (fo fi fe : Fe) : sPut fo fi fe ρ st = (fe ρ st).thenS ρ fun d s1 => (fo ρ s1).thenS ρ fun o s2 => (fi ρ s2).thenS ρ fun k s3 => match putL s3 o k d with
  | some s4 => .nx ρ s4
  | none => .fail := id rfl
@[simp] theorem ev_iOf (f : Fe) : iOf f ρ st = (f ρ st).bind fun d s1 => liftI (seqI s1 d) s1 := id rfl
@[simp] theorem ev_iSt (g : Store → List D → Option (List D × List Nat)) (fa : Fa) : iSt g fa ρ st = (fa ρ st).bind fun ds s1 => liftI (g s1 ds) s1 := id rfl
@[simp] theorem ev_iRng (g : List D → Option (List D × List Nat)) (fa : Fa) : iRng g fa ρ st = (fa ρ st).bind fun ds s1 => liftI (g ds) s1 := id rfl
@[simp] theorem ev_sFor (fi : Fi) (g : Fg) (b : Fs) : sFor fi g b ρ st = (fi ρ st).thenS ρ fun p s1 => if sameAt p.2 s1 s1 = true then forD g b p.2 s1 p.1 ρ s1 else .fail := id rfl
@[simp] theorem ev_sWhile (fu : DEnv → Store → Nat) (t : Ft) (b : Fs) : sWhile fu t b ρ st = whileD t b (fu ρ st) ρ st := id rfl
@[simp] theorem ev_xLc (fi : Fi) (g : Fg) (t : Ft) (f : Fe) (vs : List Nat) : xLc fi g t f vs ρ st = (fi ρ st).bind fun p s1 => if sameAt p.2 s1 s1 = true ∧ p.1.length ≤ sizeLine then (lcD g t f p.2 s1 (wipeD ρ vs) p.1 s1).bind fun ds s2 => .ok (.lst ds) s2 else .fail := by
  unfold xLc xLcF
  cases fi ρ st with
  | ok p s1 => simp only [Res.bind_ok]; split <;> rfl
  | exc c fs s => rfl
  | fail => rfl
@[simp] theorem ofS_nx : ofS (.nx ρ st) = .ok .non st := id rfl
@[simp] theorem ofS_ret (d : D) : ofS (.ret d st) = .ok d st := id rfl
@[simp] theorem sq_tup (ds : List D) : seqI st (.tup ds) = some (ds, []) := id rfl
@[simp] theorem sq_lst (ds : List D) : seqI st (.lst ds) = some (ds, []) := id rfl
@[simp] theorem sq_rol (ds : List D) : seqI st (.rol ds) = some (ds, []) := id rfl
@[simp] theorem en_one (d : D) : enI st [d] = (seqI st d).map fun p => (enum0 0 p.1, p.2) := id rfl
@[simp] theorem zp_two (d e : D) : zpI st [d, e] = (seqI st d).bind fun p => (seqI st e).map fun q => (zip2 p.1 q.1, p.2 ++ q.2) := id rfl
@[simp] theorem wipe_nil : wipeD ρ [] = ρ := id rfl
end
/-- a def that changes no place -/
theorem runP_ok {N : Nat} {b : Fs} {ds : List D} {st : Store} {d : D} (h : ofS (b (DL.start N ds) st) = .ok d st) (hd : D.und st.length d = true) : runP N b ds st = .ok d st := by
  unfold runP runD
  rw [h]
  unfold pureR
  simp [Store.beq_refl, frz, hd]
/-- .. whose own new places are forgotten -/
theorem runP_cut {N : Nat} {b : Fs} {ds : List D} {st s2 : Store} {d : D} (h : ofS (b (DL.start N ds) st) = .ok d (st ++ s2)) (hd : D.und st.length d = true) : runP N b ds st = .ok d st := by
  unfold runP runD
  rw [h]
  unfold pureR
  simp [Store.beq_refl, frz, hd]
theorem runP_below {N : Nat} {b : Fs} {ds : List D} {st s1 s2 : Store} {d : D} (h : ofS (b (DL.start N ds) st) = .ok d (s1 ++ s2)) (hl : s1.length = st.length) (hb : Store.below st.length s1 = true) (hd : D.und st.length d = true) : runP N b ds st = .ok d s1 := by
  unfold runP runD
  rw [h]
  unfold pureR
  have e : (s1 ++ s2).take st.length = s1 := by rw [← hl]; simp
  simp [e, hb, frz, hd]
/-- no place changes -/
theorem lcD_map {g : Fg} {t : Ft} {f : Fe} {ws : List Nat} {st : Store} {ρ : DEnv} (p : D → Bool) (h : D → D) (hw : sameAt ws st st = true) : ∀ items : List D,
    (∀ d ∈ items, ∃ ρ1, g d ρ = some ρ1 ∧ t ρ1 st = .ok (p d) st ∧ (p d = true → f ρ1 st = .ok (h d) st)) → lcD g t f ws st ρ items st = .ok ((items.filter p).map h) st
  | [], _ => rfl
  | d :: ds, hs => by
    obtain ⟨ρ1, h1, h2, h3⟩ := hs d (by simp)
    have ih := lcD_map p h hw ds fun x hx => hs x (by simp [hx])
    unfold lcD
    rw [h1]
    simp only [h2]
    cases hp : p d with
    | true => simp only [h3 hp, hw, if_true, ih, Res.bind_ok, List.filter_cons, hp, List.map_cons]
    | false => simp only [hw, if_true, ih, List.filter_cons, hp, Bool.false_eq_true, if_false]
theorem lcD_all {g : Fg} {f : Fe} {ws : List Nat} {st : Store} {ρ : DEnv} (h : D → D) (hw : sameAt ws st st = true) (items : List D)
    (hs : ∀ d ∈ items, ∃ ρ1, g d ρ = some ρ1 ∧ f ρ1 st = .ok (h d) st) : lcD g tAll f ws st ρ items st = .ok (items.map h) st := by
  have e := lcD_map (g := g) (t := tAll) (f := f) (ρ := ρ) (fun _ => true) h hw items fun d hd => let ⟨ρ1, a, b⟩ := hs d hd; ⟨ρ1, a, rfl, fun _ => b⟩
  rw [List.filter_eq_self.mpr fun _ _ => rfl] at e
  exact e
/-- places change as I tells; what comes is as P tells -/
theorem lcD_inv {g : Fg} {f : Fe} {ws : List Nat} {s0 : Store} {ρ : DEnv} (I : Nat → Store → Prop) (P : D → Prop) : ∀ (items : List D) (i : Nat) (st : Store), I i st →
    (∀ (j : Nat) (d : D) (s : Store), items[j]? = some d → I (i + j) s → ∃ ρ1 x s', g d ρ = some ρ1 ∧ f ρ1 s = .ok x s' ∧ sameAt ws s0 s' = true ∧ I (i + j + 1) s' ∧ P x) →
    ∃ xs s', lcD g tAll f ws s0 ρ items st = .ok xs s' ∧ xs.length = items.length ∧ I (i + items.length) s' ∧ ∀ x ∈ xs, P x
  | [], i, st, h, _ => ⟨[], st, rfl, rfl, h, fun x hx => by simp at hx⟩
  | d :: ds, i, st, h, hs => by
    obtain ⟨ρ1, x, s', h1, h2, h3, h4, h5⟩ := hs 0 d st rfl h
    obtain ⟨xs, s2, e, hl, hI, hP⟩ := lcD_inv I P ds (i + 1) s' h4 fun j d' s hj hI => by
      have e : i + 1 + j = i + (j + 1) := by omega
      rw [e] at hI
      obtain ⟨a, b, c, q1, q2, q3, q4, q5⟩ := hs (j + 1) d' s (by simpa using hj) hI
      exact ⟨a, b, c, q1, q2, q3, by rw [e]; exact q4, q5⟩
    refine ⟨x :: xs, s2, ?_, by simp [hl], by simpa [Nat.add_assoc, Nat.add_comm 1] using hI, fun y hy => ?_⟩
    · unfold lcD
      rw [h1]
      simp only [ev_tAll, h2, h3, if_true, e, Res.bind_ok]
    · rcases List.mem_cons.mp hy with z | z
      · rw [z]; exact h5
      · exact hP y z
/-- each turn goes on -/
theorem forD_nx {g : Fg} {body : Fs} {ws : List Nat} {s0 : Store} (I : Nat → DEnv → Store → Prop) : ∀ (items : List D) (i : Nat) (ρ : DEnv) (st : Store), I i ρ st →
    (∀ (j : Nat) (d : D) (ρ : DEnv) (s : Store), items[j]? = some d → I (i + j) ρ s → ∃ ρ1 ρ2 s2, g d ρ = some ρ1 ∧ body ρ1 s = .nx ρ2 s2 ∧ sameAt ws s0 s2 = true ∧ I (i + j + 1) ρ2 s2) →
    ∃ ρ2 s2, forD g body ws s0 items ρ st = .nx ρ2 s2 ∧ I (i + items.length) ρ2 s2
  | [], i, ρ, st, h, _ => ⟨ρ, st, rfl, h⟩
  | d :: ds, i, ρ, st, h, hs => by
    obtain ⟨ρ1, ρ2, s2, h1, h2, h3, h4⟩ := hs 0 d ρ st rfl h
    obtain ⟨ρ3, s3, e, hI⟩ := forD_nx I ds (i + 1) ρ2 s2 h4 fun j d' ρ s hj hI => by
      have e : i + 1 + j = i + (j + 1) := by omega
      rw [e] at hI
      obtain ⟨a, b, c, q1, q2, q3, q4⟩ := hs (j + 1) d' ρ s (by simpa using hj) hI
      exact ⟨a, b, c, q1, q2, q3, by rw [e]; exact q4⟩
    refine ⟨ρ3, s3, ?_, by simpa [Nat.add_assoc, Nat.add_comm 1] using hI⟩
    unfold forD
    rw [h1]
    simp only [h2, h3, if_true, e]
/-- a tale of turns: each item goes on or ends the def -/
theorem forD_cons_nx {g : Fg} {body : Fs} {ws : List Nat} {s0 st s2 : Store} {d : D} {ds : List D} {ρ ρ1 ρ2 : DEnv} (h1 : g d ρ = some ρ1) (h2 : body ρ1 st = .nx ρ2 s2) (h3 : sameAt ws s0 s2 = true) : forD g body ws s0 (d :: ds) ρ st = forD g body ws s0 ds ρ2 s2 := by
  rw [forD, h1]
  simp only [h2, h3, if_true]
theorem forD_cons_ret {g : Fg} {body : Fs} {ws : List Nat} {s0 st s2 : Store} {d x : D} {ds : List D} {ρ ρ1 : DEnv} (h1 : g d ρ = some ρ1) (h2 : body ρ1 st = .ret x s2) : forD g body ws s0 (d :: ds) ρ st = .ret x s2 := by
  rw [forD, h1]
  simp only [h2]
theorem undL_append {n : Nat} : ∀ {xs ys : List D}, D.undL n xs = true → D.undL n ys = true → D.undL n (xs ++ ys) = true
  | [], _, _, h => h
  | x :: xs, _, h, h' => by
    simp only [D.undL, Bool.and_eq_true, List.cons_append] at h ⊢
    exact ⟨h.1, undL_append h.2 h'⟩
@[simp] theorem undL_ints (n : Nat) : ∀ xs : List Int, D.undL n (xs.map D.int) = true
  | [] => by simp [D.undL]
  | x :: xs => by simp [D.undL, D.und, undL_ints n xs]
@[simp] theorem und_bl (n : Nat) (b : Bool) : D.und n (.bl b) = true := by simp [D.und]
@[simp] theorem und_int (n : Nat) (b : Int) : D.und n (.int b) = true := by simp [D.und]
@[simp] theorem und_str (n : Nat) (b : Str) : D.und n (.str b) = true := by simp [D.und]
@[simp] theorem und_non (n : Nat) : D.und n .non = true := by simp [D.und]
@[simp] theorem und_tup (n : Nat) (ds : List D) : D.und n (.tup ds) = D.undL n ds := by simp [D.und]
@[simp] theorem und_lst (n : Nat) (ds : List D) : D.und n (.lst ds) = D.undL n ds := by simp [D.und]
theorem undL_all {n : Nat} : ∀ {xs : List D}, D.undL n xs = true ↔ ∀ d ∈ xs, D.und n d = true
  | [] => by simp [D.undL]
  | x :: xs => by simp [D.undL, undL_all (xs := xs)]
end DL
namespace DL
open PySem PySem.Spec PyProof.Rows L2
section
variable {st : Store}
theorem toPyL_ints : ∀ xs : List Int, toPyL (xs.map D.int) = some (xs.map PyData.int)
  | [] => rfl
  | x :: xs => by simp [toPyL, toPy, toPyL_ints xs]
theorem lay_ints : ∀ xs : List Int, PyData.canLayAll0 (xs.map PyData.int) = true
  | [] => rfl
  | x :: xs => by simp [PyData.canLayAll0, PyData.canLay0, lay_ints xs]
theorem depth_ints : ∀ xs : List Int, PyData.depthAll (xs.map PyData.int) = 0
  | [] => rfl
  | x :: xs => by simp [PyData.depthAll, PyData.depth, depth_ints xs]
theorem eqv_ints : ∀ xs ys : List Int, PyData.eqvAll (xs.map PyData.int) (ys.map PyData.int) = (xs == ys)
  | [], [] => rfl
  | [], _ :: _ => rfl
  | _ :: _, [] => rfl
  | x :: xs, y :: ys => by simp [PyData.eqvAll, PyData.eqv, eqv_ints xs ys]
@[simp] theorem pyOf_int (i : Int) : pyOf st (.int i) = some (.int i) := by
  simp [pyOf, toPyT, toPy, SeqAt.shaped, PyData.canLay0, PyData.depth]
@[simp] theorem pyOf_bl (i : Bool) : pyOf st (.bl i) = some (.bool i) := by
  simp [pyOf, toPyT, toPy, SeqAt.shaped, PyData.canLay0, PyData.depth]
@[simp] theorem pyOf_non : pyOf st .non = some .none := by
  simp [pyOf, toPyT, toPy, SeqAt.shaped, PyData.canLay0, PyData.depth]
@[simp] theorem pyOf_tupI (xs : List Int) : pyOf st (.tup (xs.map D.int)) = some (.tuple (xs.map PyData.int)) := by
  simp [pyOf, toPyT, toPy, toPyL_ints, SeqAt.shaped, PyData.canLay0, PyData.depth, lay_ints, depth_ints]
@[simp] theorem pyOf_lstI (xs : List Int) : pyOf st (.lst (xs.map D.int)) = some (.list (xs.map PyData.int)) := by
  simp [pyOf, toPyT, toPy, toPyL_ints, SeqAt.shaped, PyData.canLay0, PyData.depth, lay_ints, depth_ints]
@[simp] theorem pyOf_tup0 : pyOf st (.tup []) = some (.tuple []) := pyOf_tupI (st := st) []
@[simp] theorem pyOf_lst0 : pyOf st (.lst []) = some (.list []) := pyOf_lstI (st := st) []
@[simp] theorem gEq_int (a b : Int) : gEq st (.int a) (.int b) = some (.bl (a == b)) := by simp [gEq, PyData.eqv]
@[simp] theorem gNe_int (a b : Int) : gNe st (.int a) (.int b) = some (.bl (!(a == b))) := by simp [gNe, PyData.eqv]
@[simp] theorem gEq_tupI (a b : List Int) : gEq st (.tup (a.map D.int)) (.tup (b.map D.int)) = some (.bl (a == b)) := by simp [gEq, PyData.eqv, eqv_ints]
@[simp] theorem gNe_tupI (a b : List Int) : gNe st (.tup (a.map D.int)) (.tup (b.map D.int)) = some (.bl (!(a == b))) := by simp [gNe, PyData.eqv, eqv_ints]
@[simp] theorem gEq_lstI (a b : List Int) : gEq st (.lst (a.map D.int)) (.lst (b.map D.int)) = some (.bl (a == b)) := by simp [gEq, PyData.eqv, eqv_ints]
@[simp] theorem gNe_lstI (a b : List Int) : gNe st (.lst (a.map D.int)) (.lst (b.map D.int)) = some (.bl (!(a == b))) := by simp [gNe, PyData.eqv, eqv_ints]
theorem ones_eq {α : Type} (xs : List α) : (xs.map fun _ => D.int 1) = (xs.map fun _ => (1 : Int)).map D.int := by rw [List.map_map]; rfl
@[simp] theorem gEq_ones {α : Type} (xs : List α) : gEq st (.lst (xs.map fun _ => D.int 1)) (.lst []) = some (.bl xs.isEmpty) := by
  rw [ones_eq]
  have h := gEq_lstI (st := st) (xs.map fun _ => (1 : Int)) []
  rw [List.map_nil] at h
  rw [h]
  cases xs <;> rfl
@[simp] theorem gNe_ones {α : Type} (xs : List α) : gNe st (.lst (xs.map fun _ => D.int 1)) (.lst []) = some (.bl (!xs.isEmpty)) := by
  rw [ones_eq]
  have h := gNe_lstI (st := st) (xs.map fun _ => (1 : Int)) []
  rw [List.map_nil] at h
  rw [h]
  cases xs <;> rfl
@[simp] theorem gLt_int (a b : Int) : gLt st (.int a) (.int b) = some (.bl (decide (a < b))) := by simp [gLt, gII]
@[simp] theorem gLe_int (a b : Int) : gLe st (.int a) (.int b) = some (.bl (decide (a ≤ b))) := by simp [gLe, gII]
@[simp] theorem gGt_int (a b : Int) : gGt st (.int a) (.int b) = some (.bl (decide (a > b))) := by simp [gGt, gII]
@[simp] theorem gGe_int (a b : Int) : gGe st (.int a) (.int b) = some (.bl (decide (a ≥ b))) := by simp [gGe, gII]
@[simp] theorem gSub_int (a b : Int) : gSub st (.int a) (.int b) = some (.int (a - b)) := by simp [gSub, gII]
@[simp] theorem gAdd_int (a b : Int) : gAdd st (.int a) (.int b) = some (.int (a + b)) := rfl
theorem gMul_int {a b : Int} (h : a.natAbs.log2 + b.natAbs.log2 < 1000000) : gMulT st (.int a) (.int b) = some (.int (a * b)) := by
  show (if _ then _ else _) = _
  rw [if_pos h]
theorem gMod_int {a b : Int} (h : b ≠ 0) : gMod st (.int a) (.int b) = some (.int (a.fmod b)) := by simp [gMod, gII, h]
@[simp] theorem gLen_tup (ds : List D) : gLen st [.tup ds] = some (.int ds.length) := rfl
@[simp] theorem gLen_lst (ds : List D) : gLen st [.lst ds] = some (.int ds.length) := rfl
@[simp] theorem gLen_rol (ds : List D) : gLen st [.rol ds] = some (.int ds.length) := rfl
@[simp] theorem gAbs_int (i : Int) : gAbs st [.int i] = some (.int i.natAbs) := by
  show some (D.int (if i < 0 then -i else i)) = _
  congr 2
  split <;> omega
@[simp] theorem gInt_int (i : Int) : gInt st [.int i] = some (.int i) := rfl
@[simp] theorem gInt_bl (b : Bool) : gInt st [.bl b] = some (.int (if b then 1 else 0)) := rfl
@[simp] theorem gMax_two (i j : Int) : gMax st [.int i, .int j] = some (.int (if j > i then j else i)) := rfl
@[simp] theorem gMin_two (i j : Int) : gMin st [.int i, .int j] = some (.int (if j < i then j else i)) := rfl
@[simp] theorem gAll_bls (bs : List Bool) : gAll st [.lst (bs.map D.bl)] = some (.bl (bs.all id)) := by simp [gAll, lstV, bools_map]
@[simp] theorem gAny_bls (bs : List Bool) : gAny st [.lst (bs.map D.bl)] = some (.bl (bs.any id)) := by simp [gAny, lstV, bools_map]
@[simp] theorem gAll_map {α : Type} (p : α → Bool) (xs : List α) : gAll st [.lst (xs.map fun x => .bl (p x))] = some (.bl (xs.all p)) := by
  have e : (xs.map fun x => D.bl (p x)) = (xs.map p).map D.bl := by rw [List.map_map]; rfl
  rw [e, gAll_bls]
  simp
@[simp] theorem gAll_comp {α : Type} (p : α → Bool) (xs : List α) : gAll st [.lst (xs.map (D.bl ∘ p))] = some (.bl (xs.all p)) := gAll_map p xs
@[simp] theorem gAny_map {α : Type} (p : α → Bool) (xs : List α) : gAny st [.lst (xs.map fun x => .bl (p x))] = some (.bl (xs.any p)) := by
  have e : (xs.map fun x => D.bl (p x)) = (xs.map p).map D.bl := by rw [List.map_map]; rfl
  rw [e, gAny_bls]
  simp
@[simp] theorem gAny_comp {α : Type} (p : α → Bool) (xs : List α) : gAny st [.lst (xs.map (D.bl ∘ p))] = some (.bl (xs.any p)) := gAny_map p xs
@[simp] theorem gSum_ints (ns : List Int) : gSum st [.lst (ns.map D.int)] = some (.int ns.sum) := by simp [gSum, lstV, dInts_map]
@[simp] theorem gTupleOf_lst (ds : List D) : gTupleOf st [.lst ds] = some (.tup ds) := rfl
@[simp] theorem gTupleOf_tup (ds : List D) : gTupleOf st [.tup ds] = some (.tup ds) := rfl
@[simp] theorem gListOf_tup (ds : List D) : gListOf st [.tup ds] = some (.lst ds) := rfl
theorem gFdiv_int {a b : Int} (h : b ≠ 0) (hb : b.natAbs.log2 < 9000) : gFdiv st (.int a) (.int b) = some (.int (a.fdiv b)) := by simp [gFdiv, gII, h, hb]
theorem atI_nat {α : Type} {xs : List α} {i : Nat} {x : α} (h : xs[i]? = some x) : atI xs (i : Nat) = some x := by
  have hl : i < xs.length := (List.getElem?_eq_some_iff.mp h).1
  unfold atI ixN
  rw [if_pos (by omega), if_pos (by omega)]
  simpa using h
theorem gIx_tup (ds : List D) {i : Nat} {d : D} (h : ds[i]? = some d) : gIx st (.tup ds) (.int (i : Nat)) = some d := by
  show (seqV st (.tup ds)).bind (fun ds => atI ds (i : Nat)) = _
  exact atI_nat h
theorem gIx_lst (ds : List D) {i : Nat} {d : D} (h : ds[i]? = some d) : gIx st (.lst ds) (.int (i : Nat)) = some d := by
  show (seqV st (.lst ds)).bind (fun ds => atI ds (i : Nat)) = _
  exact atI_nat h
theorem gIx_rol (ds : List D) {i : Nat} {d : D} (h : ds[i]? = some d) : gIx st (.rol ds) (.int (i : Nat)) = some d := by
  show (seqV st (.rol ds)).bind (fun ds => atI ds (i : Nat)) = _
  exact atI_nat h
theorem gIx_loc {l : Nat} {ds : List D} (hl : st[l]? = some (.lst ds)) {i : Nat} {d : D} (h : ds[i]? = some d) : gIx st (.loc l) (.int (i : Nat)) = some d := by
  show (seqV st (.loc l)).bind (fun ds => atI ds (i : Nat)) = _
  rw [show seqV st (.loc l) = some ds by simp [seqV, lstV, hl]]
  exact atI_nat h
end
end DL
set_option maxHeartbeats 0
namespace K12
open PySem PySem.Spec PyProof.Rows L2 DL
def topS (i : Nat) : Stmt := PySem.Challenge.pw_shiftlaws_k12_whole_rows.main.body.getD i (.Pass ⟨0, 0, 0, 0⟩)
abbrev FnP (K : PySem.W.Frag) (x : Str) (st : Stmt) (f : Addr) (fd : FuncData) : Prop := FunD K x x (defArgs st) (defBody st) (defScope st) [] [] f fd
structure Txt (K : PySem.W.Frag) (mg : Str → Option Value) : Prop where
  d__law_dice : ∃ a fd, mg "_law_dice" = some (.ref a) ∧ FnP K "_law_dice" (topS 26) a fd
  d_is_integer : ∃ a fd, mg "is_integer" = some (.ref a) ∧ FnP K "is_integer" (topS 6) a fd
  d_require_width : ∃ a fd, mg "require_width" = some (.ref a) ∧ FnP K "require_width" (topS 7) a fd
  d_is_plain_row : ∃ a fd, mg "is_plain_row" = some (.ref a) ∧ FnP K "is_plain_row" (topS 8) a fd
  d_require_row : ∃ a fd, mg "require_row" = some (.ref a) ∧ FnP K "require_row" (topS 20) a fd
  d_common_share : ∃ a fd, mg "common_share" = some (.ref a) ∧ FnP K "common_share" (topS 10) a fd
  d_lead_in : ∃ a fd, mg "lead_in" = some (.ref a) ∧ FnP K "lead_in" (topS 9) a fd
  d_lowest_row : ∃ a fd, mg "lowest_row" = some (.ref a) ∧ FnP K "lowest_row" (topS 11) a fd
  d_lowest : ∃ a fd, mg "lowest" = some (.ref a) ∧ FnP K "lowest" (topS 23) a fd
  d_dot : ∃ a fd, mg "dot" = some (.ref a) ∧ FnP K "dot" (topS 13) a fd
  d_product : ∃ a fd, mg "product" = some (.ref a) ∧ FnP K "product" (topS 22) a fd
  d_is_plain_lot : ∃ a fd, mg "is_plain_lot" = some (.ref a) ∧ FnP K "is_plain_lot" (topS 12) a fd
  d_is_lot : ∃ a fd, mg "is_lot" = some (.ref a) ∧ FnP K "is_lot" (topS 19) a fd
  d_require_rows : ∃ a fd, mg "require_rows" = some (.ref a) ∧ FnP K "require_rows" (topS 21) a fd
  d_less_by : ∃ a fd, mg "less_by" = some (.ref a) ∧ FnP K "less_by" (topS 14) a fd
  d_rest_by : ∃ a fd, mg "rest_by" = some (.ref a) ∧ FnP K "rest_by" (topS 15) a fd
  d_with_row : ∃ a fd, mg "with_row" = some (.ref a) ∧ FnP K "with_row" (topS 16) a fd
  d_lot_in : ∃ a fd, mg "lot_in" = some (.ref a) ∧ FnP K "lot_in" (topS 17) a fd
  d_lot_of : ∃ a fd, mg "lot_of" = some (.ref a) ∧ FnP K "lot_of" (topS 24) a fd
  d__law_roll : ∃ a fd, mg "_law_roll" = some (.ref a) ∧ FnP K "_law_roll" (topS 27) a fd
  d__law_pick : ∃ a fd, mg "_law_pick" = some (.ref a) ∧ FnP K "_law_pick" (topS 28) a fd
  d__law_drawn : ∃ a fd, mg "_law_drawn" = some (.ref a) ∧ FnP K "_law_drawn" (topS 36) a fd
  d__law_gcd : ∃ a fd, mg "_law_gcd" = some (.ref a) ∧ FnP K "_law_gcd" (topS 29) a fd
  d__law_lead : ∃ a fd, mg "_law_lead" = some (.ref a) ∧ FnP K "_law_lead" (topS 30) a fd
  d__law_lowest : ∃ a fd, mg "_law_lowest" = some (.ref a) ∧ FnP K "_law_lowest" (topS 31) a fd
  d__law_near : ∃ a fd, mg "_law_near" = some (.ref a) ∧ FnP K "_law_near" (topS 37) a fd
  d__law_dot : ∃ a fd, mg "_law_dot" = some (.ref a) ∧ FnP K "_law_dot" (topS 32) a fd
  d__law_is_int : ∃ a fd, mg "_law_is_int" = some (.ref a) ∧ FnP K "_law_is_int" (topS 33) a fd
  d__law_is_row : ∃ a fd, mg "_law_is_row" = some (.ref a) ∧ FnP K "_law_is_row" (topS 34) a fd
  d__law_is_lot : ∃ a fd, mg "_law_is_lot" = some (.ref a) ∧ FnP K "_law_is_lot" (topS 35) a fd
  d_is_row : ∃ a fd, mg "is_row" = some (.ref a) ∧ FnP K "is_row" (topS 18) a fd
  d__law_right : ∃ a fd, mg "_law_right" = some (.ref a) ∧ FnP K "_law_right" (topS 38) a fd
  d_law : ∃ a fd, mg "law" = some (.ref a) ∧ FnP K "law" (topS 39) a fd
  b_len : mg "len" = none
  b_int : mg "int" = none
  b_abs : mg "abs" = none
  b_max : mg "max" = none
  b_isinstance : mg "isinstance" = none
  b_bool : mg "bool" = none
  b_tuple : mg "tuple" = none
  b_all : mg "all" = none
  b_enumerate : mg "enumerate" = none
  b_zip : mg "zip" = none
  b_sum : mg "sum" = none
  b_any : mg "any" = none
  b_sorted : mg "sorted" = none
  b_range : mg "range" = none
  b_min : mg "min" = none
  b_list : mg "list" = none
  b_set : mg "set" = none
  b_repr : mg "repr" = none
  c_MAX_WIDTH : ∃ t, mg "MAX_WIDTH" = some (.int 200 t)
def b__law_dice : Fs := (sSeq (sSet 2 (xIf (tVal (xOp gLt (xVar 1) (xCall gLen (aCons (xVar 0) aNil)))) (xCall gInt (aCons (xOp gIx (xVar 0) (xVar 1)) aNil)) (xOp gAdd (xOp gMulT (xC (.int 131)) (xVar 1)) (xC (.int 37))))) (sSeq (sSet 3 (xOp gMod (xCall gInt (aCons (xCall gAbs (aCons (xVar 2) aNil)) aNil)) (xOp gPow (xOp gPow (xC (.int 10)) (xC (.int 53))) (xC (.int 6))))) (sSeq (sSet 4 (xOp gAdd (xOp gAdd (xOp gAdd (xOp gMulT (xOp gMod (xVar 3) (xC (.int 2305843009213693907))) (xC (.int 73))) (xOp gMulT (xC (.int 619)) (xVar 1))) (xOp gMulT (xC (.int 41)) (xCall gInt (aCons (xOp gLt (xVar 2) (xC (.int 0))) aNil)))) (xC (.int 17)))) (sRet (xNew (aCons (xCall gMax (aCons (xC (.int 0)) (aCons (xOp gSub (xVar 3) (xOp gPow (xC (.int 10)) (xC (.int 16)))) aNil))) (aCons (xVar 4) (aCons (xC (.int 0)) aNil))))))))
def F__law_dice : Fd := runD 5 b__law_dice
theorem sc__law_dice : FnScope ["script", "spot", "cell", "great", "seed"] ["script", "spot"] (defScope (topS 26)) := ⟨rfl, rfl, rfl, by decide +kernel, rfl, by decide +kernel, by decide +kernel⟩
theorem ok__law_dice {P : Program} {w : World} {K : PySem.W.Frag} {mg : Str → Option Value} {base : Heap} (T : Txt K mg) {a : Addr} {fd : FuncData} (D : FnP K "_law_dice" (topS 26) a fd) : FnG P w K mg base 1 a fd ["script", "spot"] (spD K 2 F__law_dice) := by
  refine (fn_D D sc__law_dice fun cdv A outer s H E hr hx => ?_)
  exact (db_cons (ds_set (i := 2) hx (de_if (dt_cmp dop_lt (de_var 1) (de_callB dc_len (by rfl) T.b_len boot_len (da_cons (de_var 0) da_nil))) (de_callTy dc_int (by rfl) T.b_int boot_int (da_cons (de_ix dix (de_var 0) (de_var 1)) da_nil)) (de_op dop_add (de_op dop_mulT de_int (de_var 1)) de_int))) (db_cons (ds_set (i := 3) hx (de_op dop_mod (de_callTy dc_int (by rfl) T.b_int boot_int (da_cons (de_callB dc_abs (by rfl) T.b_abs boot_abs (da_cons (de_var 2) da_nil)) da_nil)) (de_op dop_pow (de_op dop_pow de_int de_int) de_int))) (db_cons (ds_set (i := 4) hx (de_op dop_add (de_op dop_add (de_op dop_add (de_op dop_mulT (de_op dop_mod (de_var 3) de_int) de_int) (de_op dop_mulT de_int (de_var 1))) (de_op dop_mulT de_int (de_callTy dc_int (by rfl) T.b_int boot_int (da_cons (de_cmp dop_lt (de_var 2) de_int) da_nil)))) de_int)) (db_one (ds_ret (de_new (da_cons (de_callB (dc_max hx.calm) (by rfl) T.b_max boot_max (da_cons de_int (da_cons (de_op dop_sub (de_var 3) (de_op dop_pow de_int de_int)) da_nil))) (da_cons (de_var 4) (da_cons de_int da_nil)))))))))
def b_is_integer : Fs := (sRet (xAndF (xCall gIsi (aCons (xVar 0) (aCons (xC (.ty "int")) aNil))) (xNotF (xCall gIsi (aCons (xVar 0) (aCons (xC (.ty "bool")) aNil))))))
def F_is_integer : Fd := runP 1 b_is_integer
theorem sc_is_integer : FnScope ["value"] ["value"] (defScope (topS 6)) := ⟨rfl, rfl, rfl, by decide +kernel, rfl, by decide +kernel, by decide +kernel⟩
theorem ok_is_integer {P : Program} {w : World} {K : PySem.W.Frag} {mg : Str → Option Value} {base : Heap} (T : Txt K mg) {a : Addr} {fd : FuncData} (D : FnP K "is_integer" (topS 6) a fd) : FnG P w K mg base 1 a fd ["value"] (spD K 1 F_is_integer) := by
  refine fn_P (fn_D D sc_is_integer fun cdv A outer s H E hr hx => ?_)
  exact (db_one (ds_ret (de_and (de_callB dc_isi (by rfl) T.b_isinstance boot_isinstance (da_cons (de_var 0) (da_cons (de_bty (by rfl) T.b_int boot_int) da_nil))) (de_one (de_not (de_callB dc_isi (by rfl) T.b_isinstance boot_isinstance (da_cons (de_var 0) (da_cons (de_bty (by rfl) T.b_bool boot_bool) da_nil))))))))
def b_require_width : Fs := (sIf (tOrF (tNotF (tVal (xApply F_is_integer (aCons (xVar 0) aNil)))) (tNotF (tVal (xChain gLe gLe (xC (.int 1)) (xVar 0) (xC (.int 200)))))) sNever sPass)
def F_require_width : Fd := runP 1 b_require_width
theorem sc_require_width : FnScope ["width"] ["width"] (defScope (topS 7)) := ⟨rfl, rfl, rfl, by decide +kernel, rfl, by decide +kernel, by decide +kernel⟩
theorem ok_require_width {P : Program} {w : World} {K : PySem.W.Frag} {mg : Str → Option Value} {base : Heap} (T : Txt K mg) {a : Addr} {fd : FuncData} (D : FnP K "require_width" (topS 7) a fd) : FnG P w K mg base 2 a fd ["width"] (spD K 1 F_require_width) := by
  obtain ⟨a_is_integer, fd_is_integer, m_is_integer, D_is_integer⟩ := T.d_is_integer
  have G_is_integer := ok_is_integer (P := P) (w := w) (base := base) T D_is_integer
  have B_is_integer := D_is_integer.bindsN (ps := ["value"]) fun _ _ _ _ _ _ us hl => match us, hl with | [_], _ => rfl
  obtain ⟨t_MAX_WIDTH, c_MAX_WIDTH⟩ := T.c_MAX_WIDTH
  refine fn_P (fn_D D sc_require_width fun cdv A outer s H E hr hx => ?_)
  exact (db_one (ds_if (DW.dt (dw_or (dt_not (dt_val (de_call G_is_integer (hr.mono (by decide)) hx m_is_integer D_is_integer.kp B_is_integer (da_cons (de_var 0) da_nil)))) (dw_or1 (dt_not (dt_chain dop_le dop_le de_int (de_var 0) (de_gint (by rfl) c_MAX_WIDTH)))))) (db_one ds_never) db_nil))
def b_is_plain_row : Fs := (sRet (xAndF (xCall gIsi (aCons (xVar 1) (aCons (xC (.ty "tuple")) aNil))) (xAndF (xOp gEq (xCall gLen (aCons (xVar 1) aNil)) (xVar 0)) (xCall gAll (aCons (xLc (iOf (xVar 1)) (gN 2) tAll (xApply F_is_integer (aCons (xVar 2) aNil)) [2]) aNil)))))
def F_is_plain_row : Fd := runP 3 b_is_plain_row
theorem sc_is_plain_row : FnScope ["width", "value", "one"] ["width", "value"] (defScope (topS 8)) := ⟨rfl, rfl, rfl, by decide +kernel, rfl, by decide +kernel, by decide +kernel⟩
theorem ok_is_plain_row {P : Program} {w : World} {K : PySem.W.Frag} {mg : Str → Option Value} {base : Heap} (T : Txt K mg) {a : Addr} {fd : FuncData} (D : FnP K "is_plain_row" (topS 8) a fd) : FnG P w K mg base 2 a fd ["width", "value"] (spD K 2 F_is_plain_row) := by
  obtain ⟨a_is_integer, fd_is_integer, m_is_integer, D_is_integer⟩ := T.d_is_integer
  have G_is_integer := ok_is_integer (P := P) (w := w) (base := base) T D_is_integer
  have B_is_integer := D_is_integer.bindsN (ps := ["value"]) fun _ _ _ _ _ _ us hl => match us, hl with | [_], _ => rfl
  refine fn_P (fn_D D sc_is_plain_row fun cdv A outer s H E hr hx => ?_)
  exact (db_one (ds_ret (de_and (de_callB dc_isi (by rfl) T.b_isinstance boot_isinstance (da_cons (de_var 1) (da_cons (de_bty (by rfl) T.b_tuple boot_tuple) da_nil))) (de_and (de_cmp (dop_eq hr.hu) (de_callB dc_len (by rfl) T.b_len boot_len (da_cons (de_var 1) da_nil)) (de_var 0)) (de_one (de_callB (dc_all hx.calm) (by rfl) T.b_all boot_all (da_cons (de_lc (own := [("one", 2)]) hx (di_seq (de_var 1)) (blkOk_by (by kernel_rfl)) (fun s H C cl fp hy => (dg_name (i := 2) hy.nd)) (fun s H C cl fp hy => dts_nil) (fun s H C cl fp hy => (de_call G_is_integer (hr.mono (by decide)) hy m_is_integer D_is_integer.kp B_is_integer (da_cons (de_var 2) da_nil)))) da_nil)))))))
def b_require_row : Fs := (sIf (tNotF (tVal (xApply F_is_plain_row (aCons (xVar 0) (aCons (xVar 1) aNil))))) sNever sPass)
def F_require_row : Fd := runP 2 b_require_row
theorem sc_require_row : FnScope ["width", "row"] ["width", "row"] (defScope (topS 20)) := ⟨rfl, rfl, rfl, by decide +kernel, rfl, by decide +kernel, by decide +kernel⟩
theorem ok_require_row {P : Program} {w : World} {K : PySem.W.Frag} {mg : Str → Option Value} {base : Heap} (T : Txt K mg) {a : Addr} {fd : FuncData} (D : FnP K "require_row" (topS 20) a fd) : FnG P w K mg base 3 a fd ["width", "row"] (spD K 2 F_require_row) := by
  obtain ⟨a_is_plain_row, fd_is_plain_row, m_is_plain_row, D_is_plain_row⟩ := T.d_is_plain_row
  have G_is_plain_row := ok_is_plain_row (P := P) (w := w) (base := base) T D_is_plain_row
  have B_is_plain_row := D_is_plain_row.bindsN (ps := ["width", "value"]) fun _ _ _ _ _ _ us hl => match us, hl with | [_, _], _ => rfl
  refine fn_P (fn_D D sc_require_row fun cdv A outer s H E hr hx => ?_)
  exact (db_one (ds_if (dt_not (dt_val (de_call G_is_plain_row (hr.mono (by decide)) hx m_is_plain_row D_is_plain_row.kp B_is_plain_row (da_cons (de_var 0) (da_cons (de_var 1) da_nil))))) (db_one ds_never) db_nil))
def b_common_share : Fs := (sSeq (sWhile (fun ρ _ => gcdFuel 1 ρ) (tVal (xOp gNe (xVar 1) (xC (.int 0)))) (sPar 0 1 (aCons (xVar 1) (aCons (xOp gMod (xVar 0) (xVar 1)) aNil)))) (sRet (xCall gAbs (aCons (xVar 0) aNil))))
def F_common_share : Fd := runP 2 b_common_share
theorem sc_common_share : FnScope ["one", "other"] ["one", "other"] (defScope (topS 10)) := ⟨rfl, rfl, rfl, by decide +kernel, rfl, by decide +kernel, by decide +kernel⟩
theorem ok_common_share {P : Program} {w : World} {K : PySem.W.Frag} {mg : Str → Option Value} {base : Heap} (T : Txt K mg) {a : Addr} {fd : FuncData} (D : FnP K "common_share" (topS 10) a fd) : FnG P w K mg base 1 a fd ["one", "other"] (spD K 2 F_common_share) := by
  refine fn_P (fn_D D sc_common_share fun cdv A outer s H E hr hx => ?_)
  exact (db_cons (ds_while (fun ρ _ => gcdFuel 1 ρ) (passes_of rfl) (dt_cmp (dop_ne hr.hu) (de_var 1) de_int) (db_one (ds_par (i := 0) (j := 1) hx (da_cons (de_var 1) (da_cons (de_op dop_mod (de_var 0) (de_var 1)) da_nil))))) (db_one (ds_ret (de_callB dc_abs (by rfl) T.b_abs boot_abs (da_cons (de_var 0) da_nil)))))
def b_lead_in : Fs := (sSeq (sFor (iSt enI (aCons (xVar 0) aNil)) (gT 2 (gsCons (gN 1) (gsCons (gN 2) gsNil))) (sIf (tVal (xOp gNe (xVar 2) (xC (.int 0)))) (sRet (xVar 1)) sPass)) (sRet (xC .non)))
def F_lead_in : Fd := runP 3 b_lead_in
theorem sc_lead_in : FnScope ["row", "index", "number"] ["row"] (defScope (topS 9)) := ⟨rfl, rfl, rfl, by decide +kernel, rfl, by decide +kernel, by decide +kernel⟩
theorem ok_lead_in {P : Program} {w : World} {K : PySem.W.Frag} {mg : Str → Option Value} {base : Heap} (T : Txt K mg) {a : Addr} {fd : FuncData} (D : FnP K "lead_in" (topS 9) a fd) : FnG P w K mg base 1 a fd ["row"] (spD K 1 F_lead_in) := by
  refine fn_P (fn_D D sc_lead_in fun cdv A outer s H E hr hx => ?_)
  exact (db_cons (ds_for hx (passes_of rfl) (di_en T.b_enumerate (da_cons (de_var 0) da_nil)) (dg_tup hx.calm (dgs_cons (dg_name (i := 1) hx.nd) (dgs_cons (dg_name (i := 2) hx.nd) dgs_nil))) (db_one (ds_if (dt_cmp (dop_ne hr.hu) (de_var 2) de_int) (db_one (ds_ret (de_var 1))) db_nil))) (db_one (ds_ret de_non)))
def b_lowest_row : Fs := (sSeq (sSet 1 (xC (.int 0))) (sSeq (sFor (iOf (xVar 0)) (gN 2) (sSet 1 (xApply F_common_share (aCons (xVar 1) (aCons (xVar 2) aNil))))) (sSeq (sIf (tVal (xOp gEq (xVar 1) (xC (.int 0)))) (sRet (xCall gTupleOf (aCons (xVar 0) aNil))) sPass) (sSeq (sIf (tVal (xOp gLt (xOp gIx (xVar 0) (xApply F_lead_in (aCons (xVar 0) aNil))) (xC (.int 0)))) (sSet 1 (xOp gSub (xC (.int 0)) (xVar 1))) sPass) (sRet (xCall gTupleOf (aCons (xLc (iOf (xVar 0)) (gN 2) tAll (xOp gFdiv (xVar 2) (xVar 1)) [2]) aNil)))))))
def F_lowest_row : Fd := runP 3 b_lowest_row
theorem sc_lowest_row : FnScope ["row", "share", "number"] ["row"] (defScope (topS 11)) := ⟨rfl, rfl, rfl, by decide +kernel, rfl, by decide +kernel, by decide +kernel⟩
theorem ok_lowest_row {P : Program} {w : World} {K : PySem.W.Frag} {mg : Str → Option Value} {base : Heap} (T : Txt K mg) {a : Addr} {fd : FuncData} (D : FnP K "lowest_row" (topS 11) a fd) : FnG P w K mg base 2 a fd ["row"] (spD K 1 F_lowest_row) := by
  obtain ⟨a_common_share, fd_common_share, m_common_share, D_common_share⟩ := T.d_common_share
  have G_common_share := ok_common_share (P := P) (w := w) (base := base) T D_common_share
  have B_common_share := D_common_share.bindsN (ps := ["one", "other"]) fun _ _ _ _ _ _ us hl => match us, hl with | [_, _], _ => rfl
  obtain ⟨a_lead_in, fd_lead_in, m_lead_in, D_lead_in⟩ := T.d_lead_in
  have G_lead_in := ok_lead_in (P := P) (w := w) (base := base) T D_lead_in
  have B_lead_in := D_lead_in.bindsN (ps := ["row"]) fun _ _ _ _ _ _ us hl => match us, hl with | [_], _ => rfl
  refine fn_P (fn_D D sc_lowest_row fun cdv A outer s H E hr hx => ?_)
  exact (db_cons (ds_set (i := 1) hx de_int) (db_cons (ds_for hx (passes_of rfl) (di_seq (de_var 0)) (dg_name (i := 2) hx.nd) (db_one (ds_set (i := 1) hx (de_call G_common_share (hr.mono (by decide)) hx m_common_share D_common_share.kp B_common_share (da_cons (de_var 1) (da_cons (de_var 2) da_nil)))))) (db_cons (ds_if (dt_cmp (dop_eq hr.hu) (de_var 1) de_int) (db_one (ds_ret (de_callTy dc_tuple (by rfl) T.b_tuple boot_tuple (da_cons (de_var 0) da_nil)))) db_nil) (db_cons (ds_if (dt_cmp dop_lt (de_ix dix (de_var 0) (de_call G_lead_in (hr.mono (by decide)) hx m_lead_in D_lead_in.kp B_lead_in (da_cons (de_var 0) da_nil))) de_int) (db_one (ds_set (i := 1) hx (de_op dop_sub de_int (de_var 1)))) db_nil) (db_one (ds_ret (de_callTy dc_tuple (by rfl) T.b_tuple boot_tuple (da_cons (de_lc (own := [("number", 2)]) hx (di_seq (de_var 0)) (blkOk_by (by kernel_rfl)) (fun s H C cl fp hy => (dg_name (i := 2) hy.nd)) (fun s H C cl fp hy => dts_nil) (fun s H C cl fp hy => (de_op dop_fdiv (de_var 2) (de_var 1)))) da_nil))))))))
def b_lowest : Fs := (sSeq (sDrop (xApply F_require_width (aCons (xVar 0) aNil))) (sSeq (sDrop (xApply F_require_row (aCons (xVar 0) (aCons (xVar 1) aNil)))) (sRet (xApply F_lowest_row (aCons (xVar 1) aNil)))))
def F_lowest : Fd := runP 2 b_lowest
theorem sc_lowest : FnScope ["width", "row"] ["width", "row"] (defScope (topS 23)) := ⟨rfl, rfl, rfl, by decide +kernel, rfl, by decide +kernel, by decide +kernel⟩
theorem ok_lowest {P : Program} {w : World} {K : PySem.W.Frag} {mg : Str → Option Value} {base : Heap} (T : Txt K mg) {a : Addr} {fd : FuncData} (D : FnP K "lowest" (topS 23) a fd) : FnG P w K mg base 4 a fd ["width", "row"] (spD K 2 F_lowest) := by
  obtain ⟨a_require_width, fd_require_width, m_require_width, D_require_width⟩ := T.d_require_width
  have G_require_width := ok_require_width (P := P) (w := w) (base := base) T D_require_width
  have B_require_width := D_require_width.bindsN (ps := ["width"]) fun _ _ _ _ _ _ us hl => match us, hl with | [_], _ => rfl
  obtain ⟨a_require_row, fd_require_row, m_require_row, D_require_row⟩ := T.d_require_row
  have G_require_row := ok_require_row (P := P) (w := w) (base := base) T D_require_row
  have B_require_row := D_require_row.bindsN (ps := ["width", "row"]) fun _ _ _ _ _ _ us hl => match us, hl with | [_, _], _ => rfl
  obtain ⟨a_lowest_row, fd_lowest_row, m_lowest_row, D_lowest_row⟩ := T.d_lowest_row
  have G_lowest_row := ok_lowest_row (P := P) (w := w) (base := base) T D_lowest_row
  have B_lowest_row := D_lowest_row.bindsN (ps := ["row"]) fun _ _ _ _ _ _ us hl => match us, hl with | [_], _ => rfl
  refine fn_P (fn_D D sc_lowest fun cdv A outer s H E hr hx => ?_)
  exact (db_cons (ds_expr (de_call G_require_width (hr.mono (by decide)) hx m_require_width D_require_width.kp B_require_width (da_cons (de_var 0) da_nil))) (db_cons (ds_expr (de_call G_require_row (hr.mono (by decide)) hx m_require_row D_require_row.kp B_require_row (da_cons (de_var 0) (da_cons (de_var 1) da_nil)))) (db_one (ds_ret (de_call G_lowest_row (hr.mono (by decide)) hx m_lowest_row D_lowest_row.kp B_lowest_row (da_cons (de_var 1) da_nil))))))
def b_dot : Fs := (sRet (xCall gSum (aCons (xLc (iSt zpI (aCons (xVar 0) (aCons (xVar 1) aNil))) (gT 2 (gsCons (gN 2) (gsCons (gN 3) gsNil))) tAll (xOp gMulT (xVar 2) (xVar 3)) [2, 3]) aNil)))
def F_dot : Fd := runP 4 b_dot
theorem sc_dot : FnScope ["one", "other", "left", "right"] ["one", "other"] (defScope (topS 13)) := ⟨rfl, rfl, rfl, by decide +kernel, rfl, by decide +kernel, by decide +kernel⟩
theorem ok_dot {P : Program} {w : World} {K : PySem.W.Frag} {mg : Str → Option Value} {base : Heap} (T : Txt K mg) {a : Addr} {fd : FuncData} (D : FnP K "dot" (topS 13) a fd) : FnG P w K mg base 1 a fd ["one", "other"] (spD K 2 F_dot) := by
  refine fn_P (fn_D D sc_dot fun cdv A outer s H E hr hx => ?_)
  exact (db_one (ds_ret (de_callB (dc_sum hx.calm) (by rfl) T.b_sum boot_sum (da_cons (de_lc (own := [("left", 2), ("right", 3)]) hx (di_zp T.b_zip (da_cons (de_var 0) (da_cons (de_var 1) da_nil))) (blkOk_by (by kernel_rfl)) (fun s H C cl fp hy => (dg_tup hy.calm (dgs_cons (dg_name (i := 2) hy.nd) (dgs_cons (dg_name (i := 3) hy.nd) dgs_nil)))) (fun s H C cl fp hy => dts_nil) (fun s H C cl fp hy => (de_op dop_mulT (de_var 2) (de_var 3)))) da_nil))))
def b_product : Fs := (sSeq (sDrop (xApply F_require_width (aCons (xVar 0) aNil))) (sSeq (sDrop (xApply F_require_row (aCons (xVar 0) (aCons (xVar 1) aNil)))) (sSeq (sDrop (xApply F_require_row (aCons (xVar 0) (aCons (xVar 2) aNil)))) (sRet (xApply F_dot (aCons (xVar 1) (aCons (xVar 2) aNil)))))))
def F_product : Fd := runP 3 b_product
theorem sc_product : FnScope ["width", "one", "other"] ["width", "one", "other"] (defScope (topS 22)) := ⟨rfl, rfl, rfl, by decide +kernel, rfl, by decide +kernel, by decide +kernel⟩
theorem ok_product {P : Program} {w : World} {K : PySem.W.Frag} {mg : Str → Option Value} {base : Heap} (T : Txt K mg) {a : Addr} {fd : FuncData} (D : FnP K "product" (topS 22) a fd) : FnG P w K mg base 4 a fd ["width", "one", "other"] (spD K 3 F_product) := by
  obtain ⟨a_require_width, fd_require_width, m_require_width, D_require_width⟩ := T.d_require_width
  have G_require_width := ok_require_width (P := P) (w := w) (base := base) T D_require_width
  have B_require_width := D_require_width.bindsN (ps := ["width"]) fun _ _ _ _ _ _ us hl => match us, hl with | [_], _ => rfl
  obtain ⟨a_require_row, fd_require_row, m_require_row, D_require_row⟩ := T.d_require_row
  have G_require_row := ok_require_row (P := P) (w := w) (base := base) T D_require_row
  have B_require_row := D_require_row.bindsN (ps := ["width", "row"]) fun _ _ _ _ _ _ us hl => match us, hl with | [_, _], _ => rfl
  obtain ⟨a_dot, fd_dot, m_dot, D_dot⟩ := T.d_dot
  have G_dot := ok_dot (P := P) (w := w) (base := base) T D_dot
  have B_dot := D_dot.bindsN (ps := ["one", "other"]) fun _ _ _ _ _ _ us hl => match us, hl with | [_, _], _ => rfl
  refine fn_P (fn_D D sc_product fun cdv A outer s H E hr hx => ?_)
  exact (db_cons (ds_expr (de_call G_require_width (hr.mono (by decide)) hx m_require_width D_require_width.kp B_require_width (da_cons (de_var 0) da_nil))) (db_cons (ds_expr (de_call G_require_row (hr.mono (by decide)) hx m_require_row D_require_row.kp B_require_row (da_cons (de_var 0) (da_cons (de_var 1) da_nil)))) (db_cons (ds_expr (de_call G_require_row (hr.mono (by decide)) hx m_require_row D_require_row.kp B_require_row (da_cons (de_var 0) (da_cons (de_var 2) da_nil)))) (db_one (ds_ret (de_call G_dot (hr.mono (by decide)) hx m_dot D_dot.kp B_dot (da_cons (de_var 1) (da_cons (de_var 2) da_nil))))))))
def b_is_plain_lot : Fs := (sSeq (sIf (tOrF (tNotF (tVal (xCall gIsi (aCons (xVar 1) (aCons (xC (.ty "tuple")) aNil))))) (tNotF (tVal (xCall gAll (aCons (xLc (iOf (xVar 1)) (gN 4) tAll (xApply F_is_plain_row (aCons (xVar 0) (aCons (xVar 4) aNil))) [4]) aNil))))) (sRet (xC (.bl false))) sPass) (sSeq (sSet 2 (xUn gNeg (xC (.int 1)))) (sSeq (sFor (iSt enI (aCons (xVar 1) aNil)) (gT 2 (gsCons (gN 3) (gsCons (gN 4) gsNil))) (sSeq (sSet 5 (xApply F_lead_in (aCons (xVar 4) aNil))) (sSeq (sIf (tOrF (tVal (xOp gIsN (xVar 5) (xC .non))) (tOrF (tVal (xOp gLe (xVar 5) (xVar 2))) (tVal (xOp gNe (xApply F_lowest_row (aCons (xVar 4) aNil)) (xVar 4))))) (sRet (xC (.bl false))) sPass) (sSeq (sIf (tVal (xCall gAny (aCons (xLc (iSt enI (aCons (xVar 1) aNil)) (gT 2 (gsCons (gN 6) (gsCons (gN 7) gsNil))) (tVal (xOp gNe (xVar 6) (xVar 3))) (xOp gNe (xOp gIx (xVar 7) (xVar 5)) (xC (.int 0))) [6, 7]) aNil))) (sRet (xC (.bl false))) sPass) (sSet 2 (xVar 5)))))) (sRet (xC (.bl true))))))
def F_is_plain_lot : Fd := runP 8 b_is_plain_lot
theorem sc_is_plain_lot : FnScope ["width", "value", "ahead", "place", "row", "index", "at", "other"] ["width", "value"] (defScope (topS 12)) := ⟨rfl, rfl, rfl, by decide +kernel, rfl, by decide +kernel, by decide +kernel⟩
theorem ok_is_plain_lot {P : Program} {w : World} {K : PySem.W.Frag} {mg : Str → Option Value} {base : Heap} (T : Txt K mg) {a : Addr} {fd : FuncData} (D : FnP K "is_plain_lot" (topS 12) a fd) : FnG P w K mg base 3 a fd ["width", "value"] (spD K 2 F_is_plain_lot) := by
  obtain ⟨a_is_plain_row, fd_is_plain_row, m_is_plain_row, D_is_plain_row⟩ := T.d_is_plain_row
  have G_is_plain_row := ok_is_plain_row (P := P) (w := w) (base := base) T D_is_plain_row
  have B_is_plain_row := D_is_plain_row.bindsN (ps := ["width", "value"]) fun _ _ _ _ _ _ us hl => match us, hl with | [_, _], _ => rfl
  obtain ⟨a_lead_in, fd_lead_in, m_lead_in, D_lead_in⟩ := T.d_lead_in
  have G_lead_in := ok_lead_in (P := P) (w := w) (base := base) T D_lead_in
  have B_lead_in := D_lead_in.bindsN (ps := ["row"]) fun _ _ _ _ _ _ us hl => match us, hl with | [_], _ => rfl
  obtain ⟨a_lowest_row, fd_lowest_row, m_lowest_row, D_lowest_row⟩ := T.d_lowest_row
  have G_lowest_row := ok_lowest_row (P := P) (w := w) (base := base) T D_lowest_row
  have B_lowest_row := D_lowest_row.bindsN (ps := ["row"]) fun _ _ _ _ _ _ us hl => match us, hl with | [_], _ => rfl
  refine fn_P (fn_D D sc_is_plain_lot fun cdv A outer s H E hr hx => ?_)
  exact (db_cons (ds_if (DW.dt (dw_or (dt_not (dt_val (de_callB dc_isi (by rfl) T.b_isinstance boot_isinstance (da_cons (de_var 1) (da_cons (de_bty (by rfl) T.b_tuple boot_tuple) da_nil))))) (dw_or1 (dt_not (dt_val (de_callB (dc_all hx.calm) (by rfl) T.b_all boot_all (da_cons (de_lc (own := [("row", 4)]) hx (di_seq (de_var 1)) (blkOk_by (by kernel_rfl)) (fun s H C cl fp hy => (dg_name (i := 4) hy.nd)) (fun s H C cl fp hy => dts_nil) (fun s H C cl fp hy => (de_call G_is_plain_row (hr.mono (by decide)) hy m_is_plain_row D_is_plain_row.kp B_is_plain_row (da_cons (de_var 0) (da_cons (de_var 4) da_nil))))) da_nil))))))) (db_one (ds_ret de_bl)) db_nil) (db_cons (ds_set (i := 2) hx (de_un dun_neg de_int)) (db_cons (ds_for hx (passes_of rfl) (di_en T.b_enumerate (da_cons (de_var 1) da_nil)) (dg_tup hx.calm (dgs_cons (dg_name (i := 3) hx.nd) (dgs_cons (dg_name (i := 4) hx.nd) dgs_nil))) (db_cons (ds_set (i := 5) hx (de_call G_lead_in (hr.mono (by decide)) hx m_lead_in D_lead_in.kp B_lead_in (da_cons (de_var 4) da_nil))) (db_cons (ds_if (DW.dt (dw_or (dt_cmp dop_isN (de_var 5) de_non) (dw_or (dt_cmp dop_le (de_var 5) (de_var 2)) (dw_or1 (dt_cmp (dop_ne hr.hu) (de_call G_lowest_row (hr.mono (by decide)) hx m_lowest_row D_lowest_row.kp B_lowest_row (da_cons (de_var 4) da_nil)) (de_var 4)))))) (db_one (ds_ret de_bl)) db_nil) (db_cons (ds_if (dt_val (de_callB (dc_any hx.calm) (by rfl) T.b_any boot_any (da_cons (de_lc (own := [("at", 6), ("other", 7)]) hx (di_en T.b_enumerate (da_cons (de_var 1) da_nil)) (blkOk_by (by kernel_rfl)) (fun s H C cl fp hy => (dg_tup hy.calm (dgs_cons (dg_name (i := 6) hy.nd) (dgs_cons (dg_name (i := 7) hy.nd) dgs_nil)))) (fun s H C cl fp hy => (dts_one (dt_cmp (dop_ne hr.hu) (de_var 6) (de_var 3)))) (fun s H C cl fp hy => (de_cmp (dop_ne hr.hu) (de_ix dix (de_var 7) (de_var 5)) de_int))) da_nil))) (db_one (ds_ret de_bl)) db_nil) (db_one (ds_set (i := 2) hx (de_var 5))))))) (db_one (ds_ret de_bl)))))
def b_is_lot : Fs := (sSeq (sDrop (xApply F_require_width (aCons (xVar 0) aNil))) (sRet (xApply F_is_plain_lot (aCons (xVar 0) (aCons (xVar 1) aNil)))))
def F_is_lot : Fd := runP 2 b_is_lot
theorem sc_is_lot : FnScope ["width", "value"] ["width", "value"] (defScope (topS 19)) := ⟨rfl, rfl, rfl, by decide +kernel, rfl, by decide +kernel, by decide +kernel⟩
theorem ok_is_lot {P : Program} {w : World} {K : PySem.W.Frag} {mg : Str → Option Value} {base : Heap} (T : Txt K mg) {a : Addr} {fd : FuncData} (D : FnP K "is_lot" (topS 19) a fd) : FnG P w K mg base 4 a fd ["width", "value"] (spD K 2 F_is_lot) := by
  obtain ⟨a_require_width, fd_require_width, m_require_width, D_require_width⟩ := T.d_require_width
  have G_require_width := ok_require_width (P := P) (w := w) (base := base) T D_require_width
  have B_require_width := D_require_width.bindsN (ps := ["width"]) fun _ _ _ _ _ _ us hl => match us, hl with | [_], _ => rfl
  obtain ⟨a_is_plain_lot, fd_is_plain_lot, m_is_plain_lot, D_is_plain_lot⟩ := T.d_is_plain_lot
  have G_is_plain_lot := ok_is_plain_lot (P := P) (w := w) (base := base) T D_is_plain_lot
  have B_is_plain_lot := D_is_plain_lot.bindsN (ps := ["width", "value"]) fun _ _ _ _ _ _ us hl => match us, hl with | [_, _], _ => rfl
  refine fn_P (fn_D D sc_is_lot fun cdv A outer s H E hr hx => ?_)
  exact (db_cons (ds_expr (de_call G_require_width (hr.mono (by decide)) hx m_require_width D_require_width.kp B_require_width (da_cons (de_var 0) da_nil))) (db_one (ds_ret (de_call G_is_plain_lot (hr.mono (by decide)) hx m_is_plain_lot D_is_plain_lot.kp B_is_plain_lot (da_cons (de_var 0) (da_cons (de_var 1) da_nil))))))
def b_require_rows : Fs := (sIf (tOrF (tNotF (tVal (xCall gIsi (aCons (xVar 1) (aCons (xC (.ty "tuple")) aNil))))) (tNotF (tVal (xCall gAll (aCons (xLc (iOf (xVar 1)) (gN 2) tAll (xApply F_is_plain_row (aCons (xVar 0) (aCons (xVar 2) aNil))) [2]) aNil))))) sNever sPass)
def F_require_rows : Fd := runP 3 b_require_rows
theorem sc_require_rows : FnScope ["width", "rows", "row"] ["width", "rows"] (defScope (topS 21)) := ⟨rfl, rfl, rfl, by decide +kernel, rfl, by decide +kernel, by decide +kernel⟩
theorem ok_require_rows {P : Program} {w : World} {K : PySem.W.Frag} {mg : Str → Option Value} {base : Heap} (T : Txt K mg) {a : Addr} {fd : FuncData} (D : FnP K "require_rows" (topS 21) a fd) : FnG P w K mg base 3 a fd ["width", "rows"] (spD K 2 F_require_rows) := by
  obtain ⟨a_is_plain_row, fd_is_plain_row, m_is_plain_row, D_is_plain_row⟩ := T.d_is_plain_row
  have G_is_plain_row := ok_is_plain_row (P := P) (w := w) (base := base) T D_is_plain_row
  have B_is_plain_row := D_is_plain_row.bindsN (ps := ["width", "value"]) fun _ _ _ _ _ _ us hl => match us, hl with | [_, _], _ => rfl
  refine fn_P (fn_D D sc_require_rows fun cdv A outer s H E hr hx => ?_)
  exact (db_one (ds_if (DW.dt (dw_or (dt_not (dt_val (de_callB dc_isi (by rfl) T.b_isinstance boot_isinstance (da_cons (de_var 1) (da_cons (de_bty (by rfl) T.b_tuple boot_tuple) da_nil))))) (dw_or1 (dt_not (dt_val (de_callB (dc_all hx.calm) (by rfl) T.b_all boot_all (da_cons (de_lc (own := [("row", 2)]) hx (di_seq (de_var 1)) (blkOk_by (by kernel_rfl)) (fun s H C cl fp hy => (dg_name (i := 2) hy.nd)) (fun s H C cl fp hy => dts_nil) (fun s H C cl fp hy => (de_call G_is_plain_row (hr.mono (by decide)) hy m_is_plain_row D_is_plain_row.kp B_is_plain_row (da_cons (de_var 0) (da_cons (de_var 2) da_nil))))) da_nil))))))) (db_one ds_never) db_nil))
def b_less_by : Fs := (sSeq (sSet 2 (xApply F_lead_in (aCons (xVar 1) aNil))) (sSeq (sIf (tVal (xOp gEq (xOp gIx (xVar 0) (xVar 2)) (xC (.int 0)))) (sRet (xVar 0)) sPass) (sRet (xCall gTupleOf (aCons (xLc (iSt zpI (aCons (xVar 0) (aCons (xVar 1) aNil))) (gT 2 (gsCons (gN 3) (gsCons (gN 4) gsNil))) tAll (xOp gSub (xOp gMulT (xOp gIx (xVar 1) (xVar 2)) (xVar 3)) (xOp gMulT (xOp gIx (xVar 0) (xVar 2)) (xVar 4))) [3, 4]) aNil)))))
def F_less_by : Fd := runP 5 b_less_by
theorem sc_less_by : FnScope ["row", "other", "index", "one", "two"] ["row", "other"] (defScope (topS 14)) := ⟨rfl, rfl, rfl, by decide +kernel, rfl, by decide +kernel, by decide +kernel⟩
theorem ok_less_by {P : Program} {w : World} {K : PySem.W.Frag} {mg : Str → Option Value} {base : Heap} (T : Txt K mg) {a : Addr} {fd : FuncData} (D : FnP K "less_by" (topS 14) a fd) : FnG P w K mg base 2 a fd ["row", "other"] (spD K 2 F_less_by) := by
  obtain ⟨a_lead_in, fd_lead_in, m_lead_in, D_lead_in⟩ := T.d_lead_in
  have G_lead_in := ok_lead_in (P := P) (w := w) (base := base) T D_lead_in
  have B_lead_in := D_lead_in.bindsN (ps := ["row"]) fun _ _ _ _ _ _ us hl => match us, hl with | [_], _ => rfl
  refine fn_P (fn_D D sc_less_by fun cdv A outer s H E hr hx => ?_)
  exact (db_cons (ds_set (i := 2) hx (de_call G_lead_in (hr.mono (by decide)) hx m_lead_in D_lead_in.kp B_lead_in (da_cons (de_var 1) da_nil))) (db_cons (ds_if (dt_cmp (dop_eq hr.hu) (de_ix dix (de_var 0) (de_var 2)) de_int) (db_one (ds_ret (de_var 0))) db_nil) (db_one (ds_ret (de_callTy dc_tuple (by rfl) T.b_tuple boot_tuple (da_cons (de_lc (own := [("one", 3), ("two", 4)]) hx (di_zp T.b_zip (da_cons (de_var 0) (da_cons (de_var 1) da_nil))) (blkOk_by (by kernel_rfl)) (fun s H C cl fp hy => (dg_tup hy.calm (dgs_cons (dg_name (i := 3) hy.nd) (dgs_cons (dg_name (i := 4) hy.nd) dgs_nil)))) (fun s H C cl fp hy => dts_nil) (fun s H C cl fp hy => (de_op dop_sub (de_op dop_mulT (de_ix dix (de_var 1) (de_var 2)) (de_var 3)) (de_op dop_mulT (de_ix dix (de_var 0) (de_var 2)) (de_var 4))))) da_nil))))))
def b_rest_by : Fs := (sSeq (sFor (iOf (xVar 0)) (gN 2) (sSet 1 (xApply F_less_by (aCons (xVar 1) (aCons (xVar 2) aNil))))) (sRet (xVar 1)))
def F_rest_by : Fd := runP 3 b_rest_by
theorem sc_rest_by : FnScope ["lot", "row", "other"] ["lot", "row"] (defScope (topS 15)) := ⟨rfl, rfl, rfl, by decide +kernel, rfl, by decide +kernel, by decide +kernel⟩
theorem ok_rest_by {P : Program} {w : World} {K : PySem.W.Frag} {mg : Str → Option Value} {base : Heap} (T : Txt K mg) {a : Addr} {fd : FuncData} (D : FnP K "rest_by" (topS 15) a fd) : FnG P w K mg base 3 a fd ["lot", "row"] (spD K 2 F_rest_by) := by
  obtain ⟨a_less_by, fd_less_by, m_less_by, D_less_by⟩ := T.d_less_by
  have G_less_by := ok_less_by (P := P) (w := w) (base := base) T D_less_by
  have B_less_by := D_less_by.bindsN (ps := ["row", "other"]) fun _ _ _ _ _ _ us hl => match us, hl with | [_, _], _ => rfl
  refine fn_P (fn_D D sc_rest_by fun cdv A outer s H E hr hx => ?_)
  exact (db_cons (ds_for hx (passes_of rfl) (di_seq (de_var 0)) (dg_name (i := 2) hx.nd) (db_one (ds_set (i := 1) hx (de_call G_less_by (hr.mono (by decide)) hx m_less_by D_less_by.kp B_less_by (da_cons (de_var 1) (da_cons (de_var 2) da_nil)))))) (db_one (ds_ret (de_var 1))))
def b_with_row : Fs := (sSeq (sSet 2 (xApply F_lowest_row (aCons (xApply F_rest_by (aCons (xVar 0) (aCons (xVar 1) aNil))) aNil))) (sSeq (sIf (tVal (xOp gIsN (xApply F_lead_in (aCons (xVar 2) aNil)) (xC .non))) (sRet (xVar 0)) sPass) (sSeq (sSet 3 (xOp gAdd (xLc (iOf (xVar 0)) (gN 4) tAll (xApply F_lowest_row (aCons (xApply F_less_by (aCons (xVar 4) (aCons (xVar 2) aNil))) aNil)) [4]) (xLst (aCons (xVar 2) aNil)))) (sRet (xCall gTupleOf (aCons (xSortKey F_lead_in (xVar 3)) aNil))))))
def F_with_row : Fd := runP 5 b_with_row
theorem sc_with_row : FnScope ["lot", "row", "left", "found", "other"] ["lot", "row"] (defScope (topS 16)) := ⟨rfl, rfl, rfl, by decide +kernel, rfl, by decide +kernel, by decide +kernel⟩
theorem ok_with_row {P : Program} {w : World} {K : PySem.W.Frag} {mg : Str → Option Value} {base : Heap} (T : Txt K mg) {a : Addr} {fd : FuncData} (D : FnP K "with_row" (topS 16) a fd) : FnG P w K mg base 4 a fd ["lot", "row"] (spD K 2 F_with_row) := by
  obtain ⟨a_lowest_row, fd_lowest_row, m_lowest_row, D_lowest_row⟩ := T.d_lowest_row
  have G_lowest_row := ok_lowest_row (P := P) (w := w) (base := base) T D_lowest_row
  have B_lowest_row := D_lowest_row.bindsN (ps := ["row"]) fun _ _ _ _ _ _ us hl => match us, hl with | [_], _ => rfl
  obtain ⟨a_rest_by, fd_rest_by, m_rest_by, D_rest_by⟩ := T.d_rest_by
  have G_rest_by := ok_rest_by (P := P) (w := w) (base := base) T D_rest_by
  have B_rest_by := D_rest_by.bindsN (ps := ["lot", "row"]) fun _ _ _ _ _ _ us hl => match us, hl with | [_, _], _ => rfl
  obtain ⟨a_lead_in, fd_lead_in, m_lead_in, D_lead_in⟩ := T.d_lead_in
  have G_lead_in := ok_lead_in (P := P) (w := w) (base := base) T D_lead_in
  have B_lead_in := D_lead_in.bindsN (ps := ["row"]) fun _ _ _ _ _ _ us hl => match us, hl with | [_], _ => rfl
  obtain ⟨a_less_by, fd_less_by, m_less_by, D_less_by⟩ := T.d_less_by
  have G_less_by := ok_less_by (P := P) (w := w) (base := base) T D_less_by
  have B_less_by := D_less_by.bindsN (ps := ["row", "other"]) fun _ _ _ _ _ _ us hl => match us, hl with | [_, _], _ => rfl
  refine fn_P (fn_D D sc_with_row fun cdv A outer s H E hr hx => ?_)
  exact (db_cons (ds_set (i := 2) hx (de_call G_lowest_row (hr.mono (by decide)) hx m_lowest_row D_lowest_row.kp B_lowest_row (da_cons (de_call G_rest_by (hr.mono (by decide)) hx m_rest_by D_rest_by.kp B_rest_by (da_cons (de_var 0) (da_cons (de_var 1) da_nil))) da_nil))) (db_cons (ds_if (dt_cmp dop_isN (de_call G_lead_in (hr.mono (by decide)) hx m_lead_in D_lead_in.kp B_lead_in (da_cons (de_var 2) da_nil)) de_non) (db_one (ds_ret (de_var 0))) db_nil) (db_cons (ds_set (i := 3) hx (de_op dop_add (de_lc (own := [("other", 4)]) hx (di_seq (de_var 0)) (blkOk_by (by kernel_rfl)) (fun s H C cl fp hy => (dg_name (i := 4) hy.nd)) (fun s H C cl fp hy => dts_nil) (fun s H C cl fp hy => (de_call G_lowest_row (hr.mono (by decide)) hy m_lowest_row D_lowest_row.kp B_lowest_row (da_cons (de_call G_less_by (hr.mono (by decide)) hy m_less_by D_less_by.kp B_less_by (da_cons (de_var 4) (da_cons (de_var 2) da_nil))) da_nil)))) (de_lst (da_cons (de_var 2) da_nil)))) (db_one (ds_ret (de_callTy dc_tuple (by rfl) T.b_tuple boot_tuple (da_cons (de_sortKey G_lead_in (hr.mono (by decide)) hx B_lead_in T.b_sorted m_lead_in (de_var 3)) da_nil)))))))
def b_lot_in : Fs := (sSeq (sSet 1 (xTup aNil)) (sSeq (sFor (iOf (xVar 0)) (gN 2) (sSet 1 (xApply F_with_row (aCons (xVar 1) (aCons (xVar 2) aNil))))) (sRet (xVar 1))))
def F_lot_in : Fd := runP 3 b_lot_in
theorem sc_lot_in : FnScope ["rows", "lot", "row"] ["rows"] (defScope (topS 17)) := ⟨rfl, rfl, rfl, by decide +kernel, rfl, by decide +kernel, by decide +kernel⟩
theorem ok_lot_in {P : Program} {w : World} {K : PySem.W.Frag} {mg : Str → Option Value} {base : Heap} (T : Txt K mg) {a : Addr} {fd : FuncData} (D : FnP K "lot_in" (topS 17) a fd) : FnG P w K mg base 5 a fd ["rows"] (spD K 1 F_lot_in) := by
  obtain ⟨a_with_row, fd_with_row, m_with_row, D_with_row⟩ := T.d_with_row
  have G_with_row := ok_with_row (P := P) (w := w) (base := base) T D_with_row
  have B_with_row := D_with_row.bindsN (ps := ["lot", "row"]) fun _ _ _ _ _ _ us hl => match us, hl with | [_, _], _ => rfl
  refine fn_P (fn_D D sc_lot_in fun cdv A outer s H E hr hx => ?_)
  exact (db_cons (ds_set (i := 1) hx (de_tup da_nil)) (db_cons (ds_for hx (passes_of rfl) (di_seq (de_var 0)) (dg_name (i := 2) hx.nd) (db_one (ds_set (i := 1) hx (de_call G_with_row (hr.mono (by decide)) hx m_with_row D_with_row.kp B_with_row (da_cons (de_var 1) (da_cons (de_var 2) da_nil)))))) (db_one (ds_ret (de_var 1)))))
def b_lot_of : Fs := (sSeq (sDrop (xApply F_require_width (aCons (xVar 0) aNil))) (sSeq (sDrop (xApply F_require_rows (aCons (xVar 0) (aCons (xVar 1) aNil)))) (sRet (xApply F_lot_in (aCons (xVar 1) aNil)))))
def F_lot_of : Fd := runP 2 b_lot_of
theorem sc_lot_of : FnScope ["width", "rows"] ["width", "rows"] (defScope (topS 24)) := ⟨rfl, rfl, rfl, by decide +kernel, rfl, by decide +kernel, by decide +kernel⟩
theorem ok_lot_of {P : Program} {w : World} {K : PySem.W.Frag} {mg : Str → Option Value} {base : Heap} (T : Txt K mg) {a : Addr} {fd : FuncData} (D : FnP K "lot_of" (topS 24) a fd) : FnG P w K mg base 6 a fd ["width", "rows"] (spD K 2 F_lot_of) := by
  obtain ⟨a_require_width, fd_require_width, m_require_width, D_require_width⟩ := T.d_require_width
  have G_require_width := ok_require_width (P := P) (w := w) (base := base) T D_require_width
  have B_require_width := D_require_width.bindsN (ps := ["width"]) fun _ _ _ _ _ _ us hl => match us, hl with | [_], _ => rfl
  obtain ⟨a_require_rows, fd_require_rows, m_require_rows, D_require_rows⟩ := T.d_require_rows
  have G_require_rows := ok_require_rows (P := P) (w := w) (base := base) T D_require_rows
  have B_require_rows := D_require_rows.bindsN (ps := ["width", "rows"]) fun _ _ _ _ _ _ us hl => match us, hl with | [_, _], _ => rfl
  obtain ⟨a_lot_in, fd_lot_in, m_lot_in, D_lot_in⟩ := T.d_lot_in
  have G_lot_in := ok_lot_in (P := P) (w := w) (base := base) T D_lot_in
  have B_lot_in := D_lot_in.bindsN (ps := ["rows"]) fun _ _ _ _ _ _ us hl => match us, hl with | [_], _ => rfl
  refine fn_P (fn_D D sc_lot_of fun cdv A outer s H E hr hx => ?_)
  exact (db_cons (ds_expr (de_call G_require_width (hr.mono (by decide)) hx m_require_width D_require_width.kp B_require_width (da_cons (de_var 0) da_nil))) (db_cons (ds_expr (de_call G_require_rows (hr.mono (by decide)) hx m_require_rows D_require_rows.kp B_require_rows (da_cons (de_var 0) (da_cons (de_var 1) da_nil)))) (db_one (ds_ret (de_call G_lot_in (hr.mono (by decide)) hx m_lot_in D_lot_in.kp B_lot_in (da_cons (de_var 1) da_nil))))))
def b__law_roll : Fs := (sSeq (sIf (tVal (xOp gGt (xOp gIx (xVar 0) (xC (.int 0))) (xC (.int 0)))) (sSeq (sSet 4 (xOp gMod (xOp gIx (xVar 0) (xC (.int 0))) (xVar 1))) (sSeq (sPut (xVar 0) (xC (.int 0)) (xOp gFdiv (xOp gIx (xVar 0) (xC (.int 0))) (xVar 1))) (sRet (xCall gInt (aCons (xVar 4) aNil))))) sPass) (sSeq (sPut (xVar 0) (xC (.int 2)) (xOp gAdd (xOp gIx (xVar 0) (xC (.int 2))) (xC (.int 1)))) (sSeq (sSet 2 (xOp gMod (xOp gAdd (xOp gIx (xVar 0) (xC (.int 1))) (xOp gMulT (xC (.int 49979687)) (xOp gIx (xVar 0) (xC (.int 2))))) (xC (.int 2305843009213693951)))) (sSeq (sSet 3 (xOp gAdd (xOp gMulT (xOp gMod (xOp gAdd (xOp gMulT (xVar 2) (xVar 2)) (xOp gMulT (xC (.int 131)) (xOp gIx (xVar 0) (xC (.int 2))))) (xC (.int 2305843009213693921))) (xC (.int 32452843))) (xVar 2))) (sRet (xOp gMod (xCall gInt (aCons (xOp gFdiv (xVar 3) (xC (.int 65587))) aNil)) (xVar 1)))))))
def F__law_roll : Fd := runP 5 b__law_roll
theorem sc__law_roll : FnScope ["dice", "total", "one", "two", "found"] ["dice", "total"] (defScope (topS 27)) := ⟨rfl, rfl, rfl, by decide +kernel, rfl, by decide +kernel, by decide +kernel⟩
theorem ok__law_roll {P : Program} {w : World} {K : PySem.W.Frag} {mg : Str → Option Value} {base : Heap} (T : Txt K mg) {a : Addr} {fd : FuncData} (D : FnP K "_law_roll" (topS 27) a fd) : FnG P w K mg base 1 a fd ["dice", "total"] (spD K 2 F__law_roll) := by
  refine fn_P (fn_D D sc__law_roll fun cdv A outer s H E hr hx => ?_)
  exact (db_cons (ds_if (dt_cmp dop_gt (de_ix dix (de_var 0) de_int) de_int) (db_cons (ds_set (i := 4) hx (de_op dop_mod (de_ix dix (de_var 0) de_int) (de_var 1))) (db_cons (ds_put (de_var 0) de_int (de_op dop_fdiv (de_ix dix (de_var 0) de_int) (de_var 1))) (db_one (ds_ret (de_callTy dc_int (by rfl) T.b_int boot_int (da_cons (de_var 4) da_nil)))))) db_nil) (db_cons (ds_put (de_var 0) de_int (de_op dop_add (de_ix dix (de_var 0) de_int) de_int)) (db_cons (ds_set (i := 2) hx (de_op dop_mod (de_op dop_add (de_ix dix (de_var 0) de_int) (de_op dop_mulT de_int (de_ix dix (de_var 0) de_int))) de_int)) (db_cons (ds_set (i := 3) hx (de_op dop_add (de_op dop_mulT (de_op dop_mod (de_op dop_add (de_op dop_mulT (de_var 2) (de_var 2)) (de_op dop_mulT de_int (de_ix dix (de_var 0) de_int))) de_int) de_int) (de_var 2))) (db_one (ds_ret (de_op dop_mod (de_callTy dc_int (by rfl) T.b_int boot_int (da_cons (de_op dop_fdiv (de_var 3) de_int) da_nil)) (de_var 1))))))))
def b__law_pick : Fs := (sRet (xOp gIx (xVar 1) (xApply F__law_roll (aCons (xVar 0) (aCons (xCall gLen (aCons (xVar 1) aNil)) aNil)))))
def F__law_pick : Fd := runP 2 b__law_pick
theorem sc__law_pick : FnScope ["dice", "items"] ["dice", "items"] (defScope (topS 28)) := ⟨rfl, rfl, rfl, by decide +kernel, rfl, by decide +kernel, by decide +kernel⟩
theorem ok__law_pick {P : Program} {w : World} {K : PySem.W.Frag} {mg : Str → Option Value} {base : Heap} (T : Txt K mg) {a : Addr} {fd : FuncData} (D : FnP K "_law_pick" (topS 28) a fd) : FnG P w K mg base 2 a fd ["dice", "items"] (spD K 2 F__law_pick) := by
  obtain ⟨a__law_roll, fd__law_roll, m__law_roll, D__law_roll⟩ := T.d__law_roll
  have G__law_roll := ok__law_roll (P := P) (w := w) (base := base) T D__law_roll
  have B__law_roll := D__law_roll.bindsN (ps := ["dice", "total"]) fun _ _ _ _ _ _ us hl => match us, hl with | [_, _], _ => rfl
  refine fn_P (fn_D D sc__law_pick fun cdv A outer s H E hr hx => ?_)
  exact (db_one (ds_ret (de_ix dix (de_var 1) (de_call G__law_roll (hr.mono (by decide)) hx m__law_roll D__law_roll.kp B__law_roll (da_cons (de_var 0) (da_cons (de_callB dc_len (by rfl) T.b_len boot_len (da_cons (de_var 1) da_nil)) da_nil))))))
def b__law_drawn : Fs := (sSeq (sSet 2 (xOp gPow (xC (.int 10)) (xC (.int 30)))) (sRet (xCall gTupleOf (aCons (xLc (iRng rng1 (aCons (xVar 1) aNil)) (gN 3) tAll (xApply F__law_pick (aCons (xVar 0) (aCons (xLst (aCons (xC (.int 0)) (aCons (xC (.int 0)) (aCons (xC (.int 1)) (aCons (xUn gNeg (xC (.int 1))) (aCons (xC (.int 6)) (aCons (xUn gNeg (xC (.int 4))) (aCons (xC (.int 12)) (aCons (xOp gAdd (xVar 2) (xC (.int 1))) (aCons (xOp gSub (xC (.int 0)) (xVar 2)) aNil)))))))))) aNil))) [3]) aNil))))
def F__law_drawn : Fd := runP 4 b__law_drawn
theorem sc__law_drawn : FnScope ["dice", "wide", "great", "at"] ["dice", "wide"] (defScope (topS 36)) := ⟨rfl, rfl, rfl, by decide +kernel, rfl, by decide +kernel, by decide +kernel⟩
theorem ok__law_drawn {P : Program} {w : World} {K : PySem.W.Frag} {mg : Str → Option Value} {base : Heap} (T : Txt K mg) {a : Addr} {fd : FuncData} (D : FnP K "_law_drawn" (topS 36) a fd) : FnG P w K mg base 3 a fd ["dice", "wide"] (spD K 2 F__law_drawn) := by
  obtain ⟨a__law_pick, fd__law_pick, m__law_pick, D__law_pick⟩ := T.d__law_pick
  have G__law_pick := ok__law_pick (P := P) (w := w) (base := base) T D__law_pick
  have B__law_pick := D__law_pick.bindsN (ps := ["dice", "items"]) fun _ _ _ _ _ _ us hl => match us, hl with | [_, _], _ => rfl
  refine fn_P (fn_D D sc__law_drawn fun cdv A outer s H E hr hx => ?_)
  exact (db_cons (ds_set (i := 2) hx (de_op dop_pow de_int de_int)) (db_one (ds_ret (de_callTy dc_tuple (by rfl) T.b_tuple boot_tuple (da_cons (de_lc (own := [("at", 3)]) hx (di_rng1 T.b_range (da_cons (de_var 1) da_nil)) (blkOk_by (by kernel_rfl)) (fun s H C cl fp hy => (dg_name (i := 3) hy.nd)) (fun s H C cl fp hy => dts_nil) (fun s H C cl fp hy => (de_call G__law_pick (hr.mono (by decide)) hy m__law_pick D__law_pick.kp B__law_pick (da_cons (de_var 0) (da_cons (de_lst (da_cons de_int (da_cons de_int (da_cons de_int (da_cons (de_un dun_neg de_int) (da_cons de_int (da_cons (de_un dun_neg de_int) (da_cons de_int (da_cons (de_op dop_add (de_var 2) de_int) (da_cons (de_op dop_sub de_int (de_var 2)) da_nil)))))))))) da_nil))))) da_nil)))))
def b__law_gcd : Fs := (sSeq (sWhile (fun ρ _ => gcdFuel 1 ρ) (tVal (xOp gNe (xVar 1) (xC (.int 0)))) (sPar 0 1 (aCons (xVar 1) (aCons (xOp gMod (xVar 0) (xVar 1)) aNil)))) (sRet (xCall gAbs (aCons (xVar 0) aNil))))
def F__law_gcd : Fd := runP 2 b__law_gcd
theorem sc__law_gcd : FnScope ["one", "other"] ["one", "other"] (defScope (topS 29)) := ⟨rfl, rfl, rfl, by decide +kernel, rfl, by decide +kernel, by decide +kernel⟩
theorem ok__law_gcd {P : Program} {w : World} {K : PySem.W.Frag} {mg : Str → Option Value} {base : Heap} (T : Txt K mg) {a : Addr} {fd : FuncData} (D : FnP K "_law_gcd" (topS 29) a fd) : FnG P w K mg base 1 a fd ["one", "other"] (spD K 2 F__law_gcd) := by
  refine fn_P (fn_D D sc__law_gcd fun cdv A outer s H E hr hx => ?_)
  exact (db_cons (ds_while (fun ρ _ => gcdFuel 1 ρ) (passes_of rfl) (dt_cmp (dop_ne hr.hu) (de_var 1) de_int) (db_one (ds_par (i := 0) (j := 1) hx (da_cons (de_var 1) (da_cons (de_op dop_mod (de_var 0) (de_var 1)) da_nil))))) (db_one (ds_ret (de_callB dc_abs (by rfl) T.b_abs boot_abs (da_cons (de_var 0) da_nil)))))
def b__law_lead : Fs := (sRet (xCall gMin (aCons (xOp gAdd (xLc (iSt enI (aCons (xVar 0) aNil)) (gT 2 (gsCons (gN 1) (gsCons (gN 2) gsNil))) (tVal (xOp gNe (xVar 2) (xC (.int 0)))) (xVar 1) [1, 2]) (xLst (aCons (xCall gLen (aCons (xVar 0) aNil)) aNil))) aNil)))
def F__law_lead : Fd := runP 3 b__law_lead
theorem sc__law_lead : FnScope ["row", "at", "number"] ["row"] (defScope (topS 30)) := ⟨rfl, rfl, rfl, by decide +kernel, rfl, by decide +kernel, by decide +kernel⟩
theorem ok__law_lead {P : Program} {w : World} {K : PySem.W.Frag} {mg : Str → Option Value} {base : Heap} (T : Txt K mg) {a : Addr} {fd : FuncData} (D : FnP K "_law_lead" (topS 30) a fd) : FnG P w K mg base 1 a fd ["row"] (spD K 1 F__law_lead) := by
  refine fn_P (fn_D D sc__law_lead fun cdv A outer s H E hr hx => ?_)
  exact (db_one (ds_ret (de_callB (dc_min hx.calm) (by rfl) T.b_min boot_min (da_cons (de_op dop_add (de_lc (own := [("at", 1), ("number", 2)]) hx (di_en T.b_enumerate (da_cons (de_var 0) da_nil)) (blkOk_by (by kernel_rfl)) (fun s H C cl fp hy => (dg_tup hy.calm (dgs_cons (dg_name (i := 1) hy.nd) (dgs_cons (dg_name (i := 2) hy.nd) dgs_nil)))) (fun s H C cl fp hy => (dts_one (dt_cmp (dop_ne hr.hu) (de_var 2) de_int))) (fun s H C cl fp hy => (de_var 1))) (de_lst (da_cons (de_callB dc_len (by rfl) T.b_len boot_len (da_cons (de_var 0) da_nil)) da_nil))) da_nil))))
def b__law_lowest : Fs := (sSeq (sSet 1 (xC (.int 0))) (sSeq (sFor (iOf (xVar 0)) (gN 2) (sSet 1 (xApply F__law_gcd (aCons (xVar 1) (aCons (xVar 2) aNil))))) (sSeq (sIf (tVal (xOp gEq (xVar 1) (xC (.int 0)))) (sRet (xCall gTupleOf (aCons (xVar 0) aNil))) sPass) (sSeq (sSet 3 (xIf (tVal (xOp gGt (xOp gIx (xVar 0) (xApply F__law_lead (aCons (xVar 0) aNil))) (xC (.int 0)))) (xC (.int 1)) (xUn gNeg (xC (.int 1))))) (sRet (xCall gTupleOf (aCons (xLc (iOf (xVar 0)) (gN 2) tAll (xOp gMulT (xVar 3) (xOp gFdiv (xVar 2) (xVar 1))) [2]) aNil)))))))
def F__law_lowest : Fd := runP 4 b__law_lowest
theorem sc__law_lowest : FnScope ["row", "share", "number", "sign"] ["row"] (defScope (topS 31)) := ⟨rfl, rfl, rfl, by decide +kernel, rfl, by decide +kernel, by decide +kernel⟩
theorem ok__law_lowest {P : Program} {w : World} {K : PySem.W.Frag} {mg : Str → Option Value} {base : Heap} (T : Txt K mg) {a : Addr} {fd : FuncData} (D : FnP K "_law_lowest" (topS 31) a fd) : FnG P w K mg base 2 a fd ["row"] (spD K 1 F__law_lowest) := by
  obtain ⟨a__law_gcd, fd__law_gcd, m__law_gcd, D__law_gcd⟩ := T.d__law_gcd
  have G__law_gcd := ok__law_gcd (P := P) (w := w) (base := base) T D__law_gcd
  have B__law_gcd := D__law_gcd.bindsN (ps := ["one", "other"]) fun _ _ _ _ _ _ us hl => match us, hl with | [_, _], _ => rfl
  obtain ⟨a__law_lead, fd__law_lead, m__law_lead, D__law_lead⟩ := T.d__law_lead
  have G__law_lead := ok__law_lead (P := P) (w := w) (base := base) T D__law_lead
  have B__law_lead := D__law_lead.bindsN (ps := ["row"]) fun _ _ _ _ _ _ us hl => match us, hl with | [_], _ => rfl
  refine fn_P (fn_D D sc__law_lowest fun cdv A outer s H E hr hx => ?_)
  exact (db_cons (ds_set (i := 1) hx de_int) (db_cons (ds_for hx (passes_of rfl) (di_seq (de_var 0)) (dg_name (i := 2) hx.nd) (db_one (ds_set (i := 1) hx (de_call G__law_gcd (hr.mono (by decide)) hx m__law_gcd D__law_gcd.kp B__law_gcd (da_cons (de_var 1) (da_cons (de_var 2) da_nil)))))) (db_cons (ds_if (dt_cmp (dop_eq hr.hu) (de_var 1) de_int) (db_one (ds_ret (de_callTy dc_tuple (by rfl) T.b_tuple boot_tuple (da_cons (de_var 0) da_nil)))) db_nil) (db_cons (ds_set (i := 3) hx (de_if (dt_cmp dop_gt (de_ix dix (de_var 0) (de_call G__law_lead (hr.mono (by decide)) hx m__law_lead D__law_lead.kp B__law_lead (da_cons (de_var 0) da_nil))) de_int) de_int (de_un dun_neg de_int))) (db_one (ds_ret (de_callTy dc_tuple (by rfl) T.b_tuple boot_tuple (da_cons (de_lc (own := [("number", 2)]) hx (di_seq (de_var 0)) (blkOk_by (by kernel_rfl)) (fun s H C cl fp hy => (dg_name (i := 2) hy.nd)) (fun s H C cl fp hy => dts_nil) (fun s H C cl fp hy => (de_op dop_mulT (de_var 3) (de_op dop_fdiv (de_var 2) (de_var 1))))) da_nil))))))))
def b__law_near : Fs := (sSeq (sSet 3 (xApply F__law_drawn (aCons (xVar 0) (aCons (xVar 1) aNil)))) (sSeq (sSet 4 (xNew (aCons (xVar 2) (aCons (xCall gListOf (aCons (xVar 2) aNil)) (aCons (xBack (xVar 2)) (aCons (xOp gAdd (xVar 2) (xSl gSl (xVar 2) oNone (oSome (xC (.int 1))))) (aCons (xOp gAdd (xVar 2) (xTup (aCons (xVar 3) aNil))) (aCons (xTup (aCons (xVar 3) aNil)) (aCons (xTup aNil) (aCons (xTup (aCons (xApply F__law_lowest (aCons (xVar 3) aNil)) aNil)) (aCons (xC .non) (aCons (xC (.int 0)) (aCons (xTup (aCons (xTup aNil) aNil)) (aCons (xTup (aCons (xC .non) aNil)) aNil)))))))))))))) (sSeq (sSet 4 (xOpN gAddL (xVar 4) (xLst (aCons (xOp gAdd (xVar 2) (xTup (aCons (xOp gMulT (xTup (aCons (xC (.int 0)) aNil)) (xVar 1)) aNil))) (aCons (xTup (aCons (xOp gAdd (xVar 3) (xTup (aCons (xC (.int 0)) aNil))) aNil)) (aCons (xCall gTupleOf (aCons (xLc (iOf (xVar 2)) (gN 7) tAll (xCall gTupleOf (aCons (xLc (iOf (xVar 7)) (gN 8) tAll (xOp gSub (xC (.int 0)) (xVar 8)) [8]) aNil)) [7]) aNil)) aNil)))))) (sSeq (sIf (tVal (xOp gNe (xVar 2) (xTup aNil))) (sSeq (sSet 5 (xApply F__law_roll (aCons (xVar 0) (aCons (xCall gLen (aCons (xVar 2) aNil)) aNil)))) (sSeq (sPar 6 7 (aCons (xApply F__law_roll (aCons (xVar 0) (aCons (xVar 1) aNil))) (aCons (xOp gIx (xVar 2) (xVar 5)) aNil))) (sSeq (sDrop (xApp (xVar 4) (xOp gAdd (xOp gAdd (xSl gSl (xVar 2) oNone (oSome (xVar 5))) (xTup (aCons (xOp gAdd (xOp gAdd (xSl gSl (xVar 7) oNone (oSome (xVar 6))) (xTup (aCons (xOp gAdd (xOp gIx (xVar 7) (xVar 6)) (xC (.int 1))) aNil))) (xSl gSl (xVar 7) (oSome (xOp gAdd (xVar 6) (xC (.int 1)))) oNone)) aNil))) (xSl gSl (xVar 2) (oSome (xOp gAdd (xVar 5) (xC (.int 1)))) oNone)))) (sSeq (sDrop (xApp (xVar 4) (xOp gAdd (xOp gAdd (xSl gSl (xVar 2) oNone (oSome (xVar 5))) (xTup (aCons (xCall gTupleOf (aCons (xLc (iOf (xVar 7)) (gN 8) tAll (xOp gMulT (xC (.int 2)) (xVar 8)) [8]) aNil)) aNil))) (xSl gSl (xVar 2) (oSome (xOp gAdd (xVar 5) (xC (.int 1)))) oNone)))) (sSeq (sDrop (xApp (xVar 4) (xOp gAdd (xOp gAdd (xSl gSl (xVar 2) oNone (oSome (xVar 5))) (xTup (aCons (xCall gListOf (aCons (xVar 7) aNil)) aNil))) (xSl gSl (xVar 2) (oSome (xOp gAdd (xVar 5) (xC (.int 1)))) oNone)))) (sSeq (sDrop (xApp (xVar 4) (xOp gAdd (xOp gAdd (xSl gSl (xVar 2) oNone (oSome (xVar 5))) (xTup (aCons (xCall gTupleOf (aCons (xLc (iOf (xVar 7)) (gN 8) tAll (xIf (tVal (xOp gIn (xVar 8) (xTup (aCons (xC (.int 0)) (aCons (xC (.int 1)) aNil))))) (xOp gEq (xVar 8) (xC (.int 1))) (xVar 8)) [8]) aNil)) aNil))) (xSl gSl (xVar 2) (oSome (xOp gAdd (xVar 5) (xC (.int 1)))) oNone)))) (sDrop (xApp (xVar 4) (xOp gAdd (xSl gSl (xVar 2) oNone (oSome (xVar 5))) (xSl gSl (xVar 2) (oSome (xOp gAdd (xVar 5) (xC (.int 1)))) oNone)))))))))) sPass) (sRet (xVar 4))))))
def F__law_near : Fd := runP 9 b__law_near
theorem sc__law_near : FnScope ["dice", "wide", "lot", "row", "some", "at", "spot", "line", "one"] ["dice", "wide", "lot"] (defScope (topS 37)) := ⟨rfl, rfl, rfl, by decide +kernel, rfl, by decide +kernel, by decide +kernel⟩
theorem ok__law_near {P : Program} {w : World} {K : PySem.W.Frag} {mg : Str → Option Value} {base : Heap} (T : Txt K mg) {a : Addr} {fd : FuncData} (D : FnP K "_law_near" (topS 37) a fd) : FnG P w K mg base 4 a fd ["dice", "wide", "lot"] (spD K 3 F__law_near) := by
  obtain ⟨a__law_drawn, fd__law_drawn, m__law_drawn, D__law_drawn⟩ := T.d__law_drawn
  have G__law_drawn := ok__law_drawn (P := P) (w := w) (base := base) T D__law_drawn
  have B__law_drawn := D__law_drawn.bindsN (ps := ["dice", "wide"]) fun _ _ _ _ _ _ us hl => match us, hl with | [_, _], _ => rfl
  obtain ⟨a__law_lowest, fd__law_lowest, m__law_lowest, D__law_lowest⟩ := T.d__law_lowest
  have G__law_lowest := ok__law_lowest (P := P) (w := w) (base := base) T D__law_lowest
  have B__law_lowest := D__law_lowest.bindsN (ps := ["row"]) fun _ _ _ _ _ _ us hl => match us, hl with | [_], _ => rfl
  obtain ⟨a__law_roll, fd__law_roll, m__law_roll, D__law_roll⟩ := T.d__law_roll
  have G__law_roll := ok__law_roll (P := P) (w := w) (base := base) T D__law_roll
  have B__law_roll := D__law_roll.bindsN (ps := ["dice", "total"]) fun _ _ _ _ _ _ us hl => match us, hl with | [_, _], _ => rfl
  refine fn_P (fn_D D sc__law_near fun cdv A outer s H E hr hx => ?_)
  exact (db_cons (ds_set (i := 3) hx (de_call G__law_drawn (hr.mono (by decide)) hx m__law_drawn D__law_drawn.kp B__law_drawn (da_cons (de_var 0) (da_cons (de_var 1) da_nil)))) (db_cons (ds_set (i := 4) hx (de_new (da_cons (de_var 2) (da_cons (de_callTy dc_list (by rfl) T.b_list boot_list (da_cons (de_var 2) da_nil)) (da_cons (de_back (de_var 2)) (da_cons (de_op dop_add (de_var 2) (de_sl dsl (de_var 2) do_none (do_some de_int))) (da_cons (de_op dop_add (de_var 2) (de_tup (da_cons (de_var 3) da_nil))) (da_cons (de_tup (da_cons (de_var 3) da_nil)) (da_cons (de_tup da_nil) (da_cons (de_tup (da_cons (de_call G__law_lowest (hr.mono (by decide)) hx m__law_lowest D__law_lowest.kp B__law_lowest (da_cons (de_var 3) da_nil)) da_nil)) (da_cons de_non (da_cons de_int (da_cons (de_tup (da_cons (de_tup da_nil) da_nil)) (da_cons (de_tup (da_cons de_non da_nil)) da_nil)))))))))))))) (db_cons (ds_set (i := 4) hx (de_opN dl_add (de_var 4) (de_lst (da_cons (de_op dop_add (de_var 2) (de_tup (da_cons (de_op dop_mulT (de_tup (da_cons de_int da_nil)) (de_var 1)) da_nil))) (da_cons (de_tup (da_cons (de_op dop_add (de_var 3) (de_tup (da_cons de_int da_nil))) da_nil)) (da_cons (de_callTy dc_tuple (by rfl) T.b_tuple boot_tuple (da_cons (de_lc (own := [("line", 7)]) hx (di_seq (de_var 2)) (blkOk_by (by kernel_rfl)) (fun s H C cl fp hy => (dg_name (i := 7) hy.nd)) (fun s H C cl fp hy => dts_nil) (fun s H C cl fp hy => (de_callTy dc_tuple (by rfl) T.b_tuple boot_tuple (da_cons (de_lc (own := [("one", 8)]) hy (di_seq (de_var 7)) (blkOk_by (by kernel_rfl)) (fun s H C cl fp hy => (dg_name (i := 8) hy.nd)) (fun s H C cl fp hy => dts_nil) (fun s H C cl fp hy => (de_op dop_sub de_int (de_var 8)))) da_nil)))) da_nil)) da_nil)))))) (db_cons (ds_if (dt_cmp (dop_ne hr.hu) (de_var 2) (de_tup da_nil)) (db_cons (ds_set (i := 5) hx (de_call G__law_roll (hr.mono (by decide)) hx m__law_roll D__law_roll.kp B__law_roll (da_cons (de_var 0) (da_cons (de_callB dc_len (by rfl) T.b_len boot_len (da_cons (de_var 2) da_nil)) da_nil)))) (db_cons (ds_par (i := 6) (j := 7) hx (da_cons (de_call G__law_roll (hr.mono (by decide)) hx m__law_roll D__law_roll.kp B__law_roll (da_cons (de_var 0) (da_cons (de_var 1) da_nil))) (da_cons (de_ix dix (de_var 2) (de_var 5)) da_nil))) (db_cons (ds_expr (de_app (de_var 4) (de_op dop_add (de_op dop_add (de_sl dsl (de_var 2) do_none (do_some (de_var 5))) (de_tup (da_cons (de_op dop_add (de_op dop_add (de_sl dsl (de_var 7) do_none (do_some (de_var 6))) (de_tup (da_cons (de_op dop_add (de_ix dix (de_var 7) (de_var 6)) de_int) da_nil))) (de_sl dsl (de_var 7) (do_some (de_op dop_add (de_var 6) de_int)) do_none)) da_nil))) (de_sl dsl (de_var 2) (do_some (de_op dop_add (de_var 5) de_int)) do_none)))) (db_cons (ds_expr (de_app (de_var 4) (de_op dop_add (de_op dop_add (de_sl dsl (de_var 2) do_none (do_some (de_var 5))) (de_tup (da_cons (de_callTy dc_tuple (by rfl) T.b_tuple boot_tuple (da_cons (de_lc (own := [("one", 8)]) hx (di_seq (de_var 7)) (blkOk_by (by kernel_rfl)) (fun s H C cl fp hy => (dg_name (i := 8) hy.nd)) (fun s H C cl fp hy => dts_nil) (fun s H C cl fp hy => (de_op dop_mulT de_int (de_var 8)))) da_nil)) da_nil))) (de_sl dsl (de_var 2) (do_some (de_op dop_add (de_var 5) de_int)) do_none)))) (db_cons (ds_expr (de_app (de_var 4) (de_op dop_add (de_op dop_add (de_sl dsl (de_var 2) do_none (do_some (de_var 5))) (de_tup (da_cons (de_callTy dc_list (by rfl) T.b_list boot_list (da_cons (de_var 7) da_nil)) da_nil))) (de_sl dsl (de_var 2) (do_some (de_op dop_add (de_var 5) de_int)) do_none)))) (db_cons (ds_expr (de_app (de_var 4) (de_op dop_add (de_op dop_add (de_sl dsl (de_var 2) do_none (do_some (de_var 5))) (de_tup (da_cons (de_callTy dc_tuple (by rfl) T.b_tuple boot_tuple (da_cons (de_lc (own := [("one", 8)]) hx (di_seq (de_var 7)) (blkOk_by (by kernel_rfl)) (fun s H C cl fp hy => (dg_name (i := 8) hy.nd)) (fun s H C cl fp hy => dts_nil) (fun s H C cl fp hy => (de_if (dt_cmp dop_in (de_var 8) (de_tup (da_cons de_int (da_cons de_int da_nil)))) (de_cmp (dop_eq hr.hu) (de_var 8) de_int) (de_var 8)))) da_nil)) da_nil))) (de_sl dsl (de_var 2) (do_some (de_op dop_add (de_var 5) de_int)) do_none)))) (db_one (ds_expr (de_app (de_var 4) (de_op dop_add (de_sl dsl (de_var 2) do_none (do_some (de_var 5))) (de_sl dsl (de_var 2) (do_some (de_op dop_add (de_var 5) de_int)) do_none))))))))))) db_nil) (db_one (ds_ret (de_var 4)))))))
def b__law_dot : Fs := (sRet (xCall gSum (aCons (xLc (iSt zpI (aCons (xVar 0) (aCons (xVar 1) aNil))) (gT 2 (gsCons (gN 2) (gsCons (gN 3) gsNil))) tAll (xOp gMulT (xVar 2) (xVar 3)) [2, 3]) aNil)))
def F__law_dot : Fd := runP 4 b__law_dot
theorem sc__law_dot : FnScope ["one", "other", "left", "right"] ["one", "other"] (defScope (topS 32)) := ⟨rfl, rfl, rfl, by decide +kernel, rfl, by decide +kernel, by decide +kernel⟩
theorem ok__law_dot {P : Program} {w : World} {K : PySem.W.Frag} {mg : Str → Option Value} {base : Heap} (T : Txt K mg) {a : Addr} {fd : FuncData} (D : FnP K "_law_dot" (topS 32) a fd) : FnG P w K mg base 1 a fd ["one", "other"] (spD K 2 F__law_dot) := by
  refine fn_P (fn_D D sc__law_dot fun cdv A outer s H E hr hx => ?_)
  exact (db_one (ds_ret (de_callB (dc_sum hx.calm) (by rfl) T.b_sum boot_sum (da_cons (de_lc (own := [("left", 2), ("right", 3)]) hx (di_zp T.b_zip (da_cons (de_var 0) (da_cons (de_var 1) da_nil))) (blkOk_by (by kernel_rfl)) (fun s H C cl fp hy => (dg_tup hy.calm (dgs_cons (dg_name (i := 2) hy.nd) (dgs_cons (dg_name (i := 3) hy.nd) dgs_nil)))) (fun s H C cl fp hy => dts_nil) (fun s H C cl fp hy => (de_op dop_mulT (de_var 2) (de_var 3)))) da_nil))))
def b__law_is_int : Fs := (sRet (xAndF (xCall gIsi (aCons (xVar 0) (aCons (xC (.ty "int")) aNil))) (xNotF (xCall gIsi (aCons (xVar 0) (aCons (xC (.ty "bool")) aNil))))))
def F__law_is_int : Fd := runP 1 b__law_is_int
theorem sc__law_is_int : FnScope ["value"] ["value"] (defScope (topS 33)) := ⟨rfl, rfl, rfl, by decide +kernel, rfl, by decide +kernel, by decide +kernel⟩
theorem ok__law_is_int {P : Program} {w : World} {K : PySem.W.Frag} {mg : Str → Option Value} {base : Heap} (T : Txt K mg) {a : Addr} {fd : FuncData} (D : FnP K "_law_is_int" (topS 33) a fd) : FnG P w K mg base 1 a fd ["value"] (spD K 1 F__law_is_int) := by
  refine fn_P (fn_D D sc__law_is_int fun cdv A outer s H E hr hx => ?_)
  exact (db_one (ds_ret (de_and (de_callB dc_isi (by rfl) T.b_isinstance boot_isinstance (da_cons (de_var 0) (da_cons (de_bty (by rfl) T.b_int boot_int) da_nil))) (de_one (de_not (de_callB dc_isi (by rfl) T.b_isinstance boot_isinstance (da_cons (de_var 0) (da_cons (de_bty (by rfl) T.b_bool boot_bool) da_nil))))))))
def b__law_is_row : Fs := (sSeq (sIf (tOrF (tNotF (tVal (xCall gIsi (aCons (xVar 0) (aCons (xC (.ty "tuple")) aNil))))) (tVal (xOp gNe (xCall gLen (aCons (xVar 0) aNil)) (xVar 1)))) (sRet (xC (.bl false))) sPass) (sRet (xOp gEq (xLc (iOf (xVar 0)) (gN 2) (tNotF (tVal (xApply F__law_is_int (aCons (xVar 2) aNil)))) (xC (.int 1)) [2]) (xLst aNil))))
def F__law_is_row : Fd := runP 3 b__law_is_row
theorem sc__law_is_row : FnScope ["value", "wide", "number"] ["value", "wide"] (defScope (topS 34)) := ⟨rfl, rfl, rfl, by decide +kernel, rfl, by decide +kernel, by decide +kernel⟩
theorem ok__law_is_row {P : Program} {w : World} {K : PySem.W.Frag} {mg : Str → Option Value} {base : Heap} (T : Txt K mg) {a : Addr} {fd : FuncData} (D : FnP K "_law_is_row" (topS 34) a fd) : FnG P w K mg base 2 a fd ["value", "wide"] (spD K 2 F__law_is_row) := by
  obtain ⟨a__law_is_int, fd__law_is_int, m__law_is_int, D__law_is_int⟩ := T.d__law_is_int
  have G__law_is_int := ok__law_is_int (P := P) (w := w) (base := base) T D__law_is_int
  have B__law_is_int := D__law_is_int.bindsN (ps := ["value"]) fun _ _ _ _ _ _ us hl => match us, hl with | [_], _ => rfl
  refine fn_P (fn_D D sc__law_is_row fun cdv A outer s H E hr hx => ?_)
  exact (db_cons (ds_if (DW.dt (dw_or (dt_not (dt_val (de_callB dc_isi (by rfl) T.b_isinstance boot_isinstance (da_cons (de_var 0) (da_cons (de_bty (by rfl) T.b_tuple boot_tuple) da_nil))))) (dw_or1 (dt_cmp (dop_ne hr.hu) (de_callB dc_len (by rfl) T.b_len boot_len (da_cons (de_var 0) da_nil)) (de_var 1))))) (db_one (ds_ret de_bl)) db_nil) (db_one (ds_ret (de_cmp (dop_eq hr.hu) (de_lc (own := [("number", 2)]) hx (di_seq (de_var 0)) (blkOk_by (by kernel_rfl)) (fun s H C cl fp hy => (dg_name (i := 2) hy.nd)) (fun s H C cl fp hy => (dts_one (dt_not (dt_val (de_call G__law_is_int (hr.mono (by decide)) hy m__law_is_int D__law_is_int.kp B__law_is_int (da_cons (de_var 2) da_nil)))))) (fun s H C cl fp hy => de_int)) (de_lst da_nil)))))
def b__law_is_lot : Fs := (sSeq (sIf (tOrF (tNotF (tVal (xCall gIsi (aCons (xVar 0) (aCons (xC (.ty "tuple")) aNil))))) (tVal (xOp gNe (xLc (iOf (xVar 0)) (gN 4) (tNotF (tVal (xApply F__law_is_row (aCons (xVar 4) (aCons (xVar 1) aNil))))) (xC (.int 1)) [4]) (xLst aNil)))) (sRet (xC (.bl false))) sPass) (sSeq (sSet 2 (xLc (iOf (xVar 0)) (gN 4) tAll (xApply F__law_lead (aCons (xVar 4) aNil)) [4])) (sSeq (sIf (tOrF (tVal (xOp gNe (xVar 2) (xSrtSet (xVar 2)))) (tOrF (tVal (xOp gIn (xVar 1) (xVar 2))) (tVal (xOp gNe (xLc (iOf (xVar 0)) (gN 4) (tVal (xOp gNe (xApply F__law_lowest (aCons (xVar 4) aNil)) (xVar 4))) (xC (.int 1)) [4]) (xLst aNil))))) (sRet (xC (.bl false))) sPass) (sSeq (sFor (iOf (xVar 2)) (gN 3) (sIf (tVal (xOp gNe (xCall gLen (aCons (xLc (iOf (xVar 0)) (gN 4) (tVal (xOp gNe (xOp gIx (xVar 4) (xVar 3)) (xC (.int 0)))) (xC (.int 1)) [4]) aNil)) (xC (.int 1)))) (sRet (xC (.bl false))) sPass)) (sRet (xC (.bl true)))))))
def F__law_is_lot : Fd := runP 5 b__law_is_lot
theorem sc__law_is_lot : FnScope ["value", "wide", "leads", "lead", "row"] ["value", "wide"] (defScope (topS 35)) := ⟨rfl, rfl, rfl, by decide +kernel, rfl, by decide +kernel, by decide +kernel⟩
theorem ok__law_is_lot {P : Program} {w : World} {K : PySem.W.Frag} {mg : Str → Option Value} {base : Heap} (T : Txt K mg) {a : Addr} {fd : FuncData} (D : FnP K "_law_is_lot" (topS 35) a fd) : FnG P w K mg base 3 a fd ["value", "wide"] (spD K 2 F__law_is_lot) := by
  obtain ⟨a__law_is_row, fd__law_is_row, m__law_is_row, D__law_is_row⟩ := T.d__law_is_row
  have G__law_is_row := ok__law_is_row (P := P) (w := w) (base := base) T D__law_is_row
  have B__law_is_row := D__law_is_row.bindsN (ps := ["value", "wide"]) fun _ _ _ _ _ _ us hl => match us, hl with | [_, _], _ => rfl
  obtain ⟨a__law_lead, fd__law_lead, m__law_lead, D__law_lead⟩ := T.d__law_lead
  have G__law_lead := ok__law_lead (P := P) (w := w) (base := base) T D__law_lead
  have B__law_lead := D__law_lead.bindsN (ps := ["row"]) fun _ _ _ _ _ _ us hl => match us, hl with | [_], _ => rfl
  obtain ⟨a__law_lowest, fd__law_lowest, m__law_lowest, D__law_lowest⟩ := T.d__law_lowest
  have G__law_lowest := ok__law_lowest (P := P) (w := w) (base := base) T D__law_lowest
  have B__law_lowest := D__law_lowest.bindsN (ps := ["row"]) fun _ _ _ _ _ _ us hl => match us, hl with | [_], _ => rfl
  refine fn_P (fn_D D sc__law_is_lot fun cdv A outer s H E hr hx => ?_)
  exact (db_cons (ds_if (DW.dt (dw_or (dt_not (dt_val (de_callB dc_isi (by rfl) T.b_isinstance boot_isinstance (da_cons (de_var 0) (da_cons (de_bty (by rfl) T.b_tuple boot_tuple) da_nil))))) (dw_or1 (dt_cmp (dop_ne hr.hu) (de_lc (own := [("row", 4)]) hx (di_seq (de_var 0)) (blkOk_by (by kernel_rfl)) (fun s H C cl fp hy => (dg_name (i := 4) hy.nd)) (fun s H C cl fp hy => (dts_one (dt_not (dt_val (de_call G__law_is_row (hr.mono (by decide)) hy m__law_is_row D__law_is_row.kp B__law_is_row (da_cons (de_var 4) (da_cons (de_var 1) da_nil))))))) (fun s H C cl fp hy => de_int)) (de_lst da_nil))))) (db_one (ds_ret de_bl)) db_nil) (db_cons (ds_setLc (own := [("row", 4)]) hx (di_seq (de_var 0)) (blkOk_by (by kernel_rfl)) (fun s H C cl fp hy => (dg_name (i := 4) hy.nd)) (fun s H C cl fp hy => dts_nil) (fun s H C cl fp hy => (de_call G__law_lead (hr.mono (by decide)) hy m__law_lead D__law_lead.kp B__law_lead (da_cons (de_var 4) da_nil)))) (db_cons (ds_if (DW.dt (dw_or (dt_cmp (dop_ne hr.hu) (de_var 2) (de_srtSet hx.calm T.b_sorted T.b_set (de_var 2))) (dw_or (dt_cmp dop_in (de_var 1) (de_var 2)) (dw_or1 (dt_cmp (dop_ne hr.hu) (de_lc (own := [("row", 4)]) hx (di_seq (de_var 0)) (blkOk_by (by kernel_rfl)) (fun s H C cl fp hy => (dg_name (i := 4) hy.nd)) (fun s H C cl fp hy => (dts_one (dt_cmp (dop_ne hr.hu) (de_call G__law_lowest (hr.mono (by decide)) hy m__law_lowest D__law_lowest.kp B__law_lowest (da_cons (de_var 4) da_nil)) (de_var 4)))) (fun s H C cl fp hy => de_int)) (de_lst da_nil)))))) (db_one (ds_ret de_bl)) db_nil) (db_cons (ds_for hx (passes_of rfl) (di_seq (de_var 2)) (dg_name (i := 3) hx.nd) (db_one (ds_if (dt_cmp (dop_ne hr.hu) (de_callB dc_len (by rfl) T.b_len boot_len (da_cons (de_lc (own := [("row", 4)]) hx (di_seq (de_var 0)) (blkOk_by (by kernel_rfl)) (fun s H C cl fp hy => (dg_name (i := 4) hy.nd)) (fun s H C cl fp hy => (dts_one (dt_cmp (dop_ne hr.hu) (de_ix dix (de_var 4) (de_var 3)) de_int))) (fun s H C cl fp hy => de_int)) da_nil)) de_int) (db_one (ds_ret de_bl)) db_nil))) (db_one (ds_ret de_bl))))))
def b_is_row : Fs := (sSeq (sDrop (xApply F_require_width (aCons (xVar 0) aNil))) (sRet (xApply F_is_plain_row (aCons (xVar 0) (aCons (xVar 1) aNil)))))
def F_is_row : Fd := runP 2 b_is_row
theorem sc_is_row : FnScope ["width", "value"] ["width", "value"] (defScope (topS 18)) := ⟨rfl, rfl, rfl, by decide +kernel, rfl, by decide +kernel, by decide +kernel⟩
theorem ok_is_row {P : Program} {w : World} {K : PySem.W.Frag} {mg : Str → Option Value} {base : Heap} (T : Txt K mg) {a : Addr} {fd : FuncData} (D : FnP K "is_row" (topS 18) a fd) : FnG P w K mg base 3 a fd ["width", "value"] (spD K 2 F_is_row) := by
  obtain ⟨a_require_width, fd_require_width, m_require_width, D_require_width⟩ := T.d_require_width
  have G_require_width := ok_require_width (P := P) (w := w) (base := base) T D_require_width
  have B_require_width := D_require_width.bindsN (ps := ["width"]) fun _ _ _ _ _ _ us hl => match us, hl with | [_], _ => rfl
  obtain ⟨a_is_plain_row, fd_is_plain_row, m_is_plain_row, D_is_plain_row⟩ := T.d_is_plain_row
  have G_is_plain_row := ok_is_plain_row (P := P) (w := w) (base := base) T D_is_plain_row
  have B_is_plain_row := D_is_plain_row.bindsN (ps := ["width", "value"]) fun _ _ _ _ _ _ us hl => match us, hl with | [_, _], _ => rfl
  refine fn_P (fn_D D sc_is_row fun cdv A outer s H E hr hx => ?_)
  exact (db_cons (ds_expr (de_call G_require_width (hr.mono (by decide)) hx m_require_width D_require_width.kp B_require_width (da_cons (de_var 0) da_nil))) (db_one (ds_ret (de_call G_is_plain_row (hr.mono (by decide)) hx m_is_plain_row D_is_plain_row.kp B_is_plain_row (da_cons (de_var 0) (da_cons (de_var 1) da_nil))))))
def b__law_right : Fs := (sSeq (sPar 5 6 (aCons (xApply F__law_drawn (aCons (xVar 0) (aCons (xVar 1) aNil))) (aCons (xApply F__law_drawn (aCons (xVar 0) (aCons (xVar 1) aNil))) aNil))) (sSeq (sIf (tVal (xOp gNe (xCall gRepr (aCons (xLst (aCons (xApply F_product (aCons (xVar 1) (aCons (xVar 5) (aCons (xVar 6) aNil)))) (aCons (xApply F_lowest (aCons (xVar 1) (aCons (xVar 5) aNil))) aNil))) aNil)) (xCall gRepr (aCons (xLst (aCons (xApply F__law_dot (aCons (xVar 5) (aCons (xVar 6) aNil))) (aCons (xApply F__law_lowest (aCons (xVar 5) aNil)) aNil))) aNil)))) (sRet (xC (.bl false))) sPass) (sSeq (sIf (tVal (xOp gNe (xApply F_lowest (aCons (xVar 1) (aCons (xCall gTupleOf (aCons (xLc (iOf (xVar 5)) (gN 8) tAll (xOp gMulT (xUn gNeg (xC (.int 7))) (xVar 8)) [8]) aNil)) aNil))) (xApply F__law_lowest (aCons (xVar 5) aNil)))) (sRet (xC (.bl false))) sPass) (sSeq (sIf (tVal (xOp gNe (xApply F_product (aCons (xVar 1) (aCons (xVar 6) (aCons (xVar 5) aNil)))) (xApply F__law_dot (aCons (xVar 5) (aCons (xVar 6) aNil))))) (sRet (xC (.bl false))) sPass) (sSeq (sSet 2 (xApply F_lot_of (aCons (xVar 1) (aCons (xCall gTupleOf (aCons (xLc (iRng rng1 (aCons (xApply F__law_roll (aCons (xVar 0) (aCons (xC (.int 4)) aNil))) aNil)) (gN 7) tAll (xApply F__law_drawn (aCons (xVar 0) (aCons (xVar 1) aNil))) [7]) aNil)) aNil)))) (sSeq (sFor (iOf (xApply F__law_near (aCons (xVar 0) (aCons (xVar 1) (aCons (xVar 2) aNil))))) (gN 3) (sIf (tVal (xOp gNe (xCall gRepr (aCons (xApply F_is_lot (aCons (xVar 1) (aCons (xVar 3) aNil))) aNil)) (xCall gRepr (aCons (xApply F__law_is_lot (aCons (xVar 3) (aCons (xVar 1) aNil))) aNil)))) (sRet (xC (.bl false))) sPass)) (sSeq (sSet 4 (xNew (aCons (xVar 5) (aCons (xCall gListOf (aCons (xVar 5) aNil)) (aCons (xOp gAdd (xVar 5) (xTup (aCons (xC (.int 0)) aNil))) (aCons (xSl gSl (xVar 5) (oSome (xC (.int 1))) oNone) (aCons (xOp gMulT (xTup (aCons (xC .non) aNil)) (xVar 1)) (aCons (xOp gMulT (xTup (aCons (xC (.bl true)) aNil)) (xVar 1)) (aCons (xC .non) (aCons (xTup aNil) (aCons (xOp gMulT (xTup (aCons (xC (.str "1")) aNil)) (xVar 1)) (aCons (xC (.int 0)) (aCons xDic0 aNil))))))))))))) (sSeq (sDrop (xApp (xVar 4) (xOp gAdd (xSl gSl (xVar 5) oNone (oSome (xUn gNeg (xC (.int 1))))) (xTup (aCons (xOp gEq (xOp gIx (xVar 5) (xUn gNeg (xC (.int 1)))) (xC (.int 1))) aNil))))) (sRet (xOp gEq (xLc (iOf (xVar 4)) (gN 3) (tVal (xOp gNe (xCall gRepr (aCons (xApply F_is_row (aCons (xVar 1) (aCons (xVar 3) aNil))) aNil)) (xCall gRepr (aCons (xApply F__law_is_row (aCons (xVar 3) (aCons (xVar 1) aNil))) aNil)))) (xVar 3) [3]) (xLst aNil)))))))))))
def F__law_right : Fd := runP 9 b__law_right
theorem sc__law_right : FnScope ["dice", "wide", "lot", "value", "rows", "one", "other", "turn", "number"] ["dice", "wide"] (defScope (topS 38)) := ⟨rfl, rfl, rfl, by decide +kernel, rfl, by decide +kernel, by decide +kernel⟩
theorem ok__law_right {P : Program} {w : World} {K : PySem.W.Frag} {mg : Str → Option Value} {base : Heap} (T : Txt K mg) {a : Addr} {fd : FuncData} (D : FnP K "_law_right" (topS 38) a fd) : FnG P w K mg base 7 a fd ["dice", "wide"] (spD K 2 F__law_right) := by
  obtain ⟨a__law_drawn, fd__law_drawn, m__law_drawn, D__law_drawn⟩ := T.d__law_drawn
  have G__law_drawn := ok__law_drawn (P := P) (w := w) (base := base) T D__law_drawn
  have B__law_drawn := D__law_drawn.bindsN (ps := ["dice", "wide"]) fun _ _ _ _ _ _ us hl => match us, hl with | [_, _], _ => rfl
  obtain ⟨a_product, fd_product, m_product, D_product⟩ := T.d_product
  have G_product := ok_product (P := P) (w := w) (base := base) T D_product
  have B_product := D_product.bindsN (ps := ["width", "one", "other"]) fun _ _ _ _ _ _ us hl => match us, hl with | [_, _, _], _ => rfl
  obtain ⟨a_lowest, fd_lowest, m_lowest, D_lowest⟩ := T.d_lowest
  have G_lowest := ok_lowest (P := P) (w := w) (base := base) T D_lowest
  have B_lowest := D_lowest.bindsN (ps := ["width", "row"]) fun _ _ _ _ _ _ us hl => match us, hl with | [_, _], _ => rfl
  obtain ⟨a__law_dot, fd__law_dot, m__law_dot, D__law_dot⟩ := T.d__law_dot
  have G__law_dot := ok__law_dot (P := P) (w := w) (base := base) T D__law_dot
  have B__law_dot := D__law_dot.bindsN (ps := ["one", "other"]) fun _ _ _ _ _ _ us hl => match us, hl with | [_, _], _ => rfl
  obtain ⟨a__law_lowest, fd__law_lowest, m__law_lowest, D__law_lowest⟩ := T.d__law_lowest
  have G__law_lowest := ok__law_lowest (P := P) (w := w) (base := base) T D__law_lowest
  have B__law_lowest := D__law_lowest.bindsN (ps := ["row"]) fun _ _ _ _ _ _ us hl => match us, hl with | [_], _ => rfl
  obtain ⟨a_lot_of, fd_lot_of, m_lot_of, D_lot_of⟩ := T.d_lot_of
  have G_lot_of := ok_lot_of (P := P) (w := w) (base := base) T D_lot_of
  have B_lot_of := D_lot_of.bindsN (ps := ["width", "rows"]) fun _ _ _ _ _ _ us hl => match us, hl with | [_, _], _ => rfl
  obtain ⟨a__law_roll, fd__law_roll, m__law_roll, D__law_roll⟩ := T.d__law_roll
  have G__law_roll := ok__law_roll (P := P) (w := w) (base := base) T D__law_roll
  have B__law_roll := D__law_roll.bindsN (ps := ["dice", "total"]) fun _ _ _ _ _ _ us hl => match us, hl with | [_, _], _ => rfl
  obtain ⟨a__law_near, fd__law_near, m__law_near, D__law_near⟩ := T.d__law_near
  have G__law_near := ok__law_near (P := P) (w := w) (base := base) T D__law_near
  have B__law_near := D__law_near.bindsN (ps := ["dice", "wide", "lot"]) fun _ _ _ _ _ _ us hl => match us, hl with | [_, _, _], _ => rfl
  obtain ⟨a_is_lot, fd_is_lot, m_is_lot, D_is_lot⟩ := T.d_is_lot
  have G_is_lot := ok_is_lot (P := P) (w := w) (base := base) T D_is_lot
  have B_is_lot := D_is_lot.bindsN (ps := ["width", "value"]) fun _ _ _ _ _ _ us hl => match us, hl with | [_, _], _ => rfl
  obtain ⟨a__law_is_lot, fd__law_is_lot, m__law_is_lot, D__law_is_lot⟩ := T.d__law_is_lot
  have G__law_is_lot := ok__law_is_lot (P := P) (w := w) (base := base) T D__law_is_lot
  have B__law_is_lot := D__law_is_lot.bindsN (ps := ["value", "wide"]) fun _ _ _ _ _ _ us hl => match us, hl with | [_, _], _ => rfl
  obtain ⟨a_is_row, fd_is_row, m_is_row, D_is_row⟩ := T.d_is_row
  have G_is_row := ok_is_row (P := P) (w := w) (base := base) T D_is_row
  have B_is_row := D_is_row.bindsN (ps := ["width", "value"]) fun _ _ _ _ _ _ us hl => match us, hl with | [_, _], _ => rfl
  obtain ⟨a__law_is_row, fd__law_is_row, m__law_is_row, D__law_is_row⟩ := T.d__law_is_row
  have G__law_is_row := ok__law_is_row (P := P) (w := w) (base := base) T D__law_is_row
  have B__law_is_row := D__law_is_row.bindsN (ps := ["value", "wide"]) fun _ _ _ _ _ _ us hl => match us, hl with | [_, _], _ => rfl
  refine fn_P (fn_D D sc__law_right fun cdv A outer s H E hr hx => ?_)
  exact (db_cons (ds_par (i := 5) (j := 6) hx (da_cons (de_call G__law_drawn (hr.mono (by decide)) hx m__law_drawn D__law_drawn.kp B__law_drawn (da_cons (de_var 0) (da_cons (de_var 1) da_nil))) (da_cons (de_call G__law_drawn (hr.mono (by decide)) hx m__law_drawn D__law_drawn.kp B__law_drawn (da_cons (de_var 0) (da_cons (de_var 1) da_nil))) da_nil))) (db_cons (ds_if (dt_cmp (dop_ne hr.hu) (de_callB (dc_repr hx.gd hr.hu) (by rfl) T.b_repr boot_repr (da_cons (de_lst (da_cons (de_call G_product (hr.mono (by decide)) hx m_product D_product.kp B_product (da_cons (de_var 1) (da_cons (de_var 5) (da_cons (de_var 6) da_nil)))) (da_cons (de_call G_lowest (hr.mono (by decide)) hx m_lowest D_lowest.kp B_lowest (da_cons (de_var 1) (da_cons (de_var 5) da_nil))) da_nil))) da_nil)) (de_callB (dc_repr hx.gd hr.hu) (by rfl) T.b_repr boot_repr (da_cons (de_lst (da_cons (de_call G__law_dot (hr.mono (by decide)) hx m__law_dot D__law_dot.kp B__law_dot (da_cons (de_var 5) (da_cons (de_var 6) da_nil))) (da_cons (de_call G__law_lowest (hr.mono (by decide)) hx m__law_lowest D__law_lowest.kp B__law_lowest (da_cons (de_var 5) da_nil)) da_nil))) da_nil))) (db_one (ds_ret de_bl)) db_nil) (db_cons (ds_if (dt_cmp (dop_ne hr.hu) (de_call G_lowest (hr.mono (by decide)) hx m_lowest D_lowest.kp B_lowest (da_cons (de_var 1) (da_cons (de_callTy dc_tuple (by rfl) T.b_tuple boot_tuple (da_cons (de_lc (own := [("number", 8)]) hx (di_seq (de_var 5)) (blkOk_by (by kernel_rfl)) (fun s H C cl fp hy => (dg_name (i := 8) hy.nd)) (fun s H C cl fp hy => dts_nil) (fun s H C cl fp hy => (de_op dop_mulT (de_un dun_neg de_int) (de_var 8)))) da_nil)) da_nil))) (de_call G__law_lowest (hr.mono (by decide)) hx m__law_lowest D__law_lowest.kp B__law_lowest (da_cons (de_var 5) da_nil))) (db_one (ds_ret de_bl)) db_nil) (db_cons (ds_if (dt_cmp (dop_ne hr.hu) (de_call G_product (hr.mono (by decide)) hx m_product D_product.kp B_product (da_cons (de_var 1) (da_cons (de_var 6) (da_cons (de_var 5) da_nil)))) (de_call G__law_dot (hr.mono (by decide)) hx m__law_dot D__law_dot.kp B__law_dot (da_cons (de_var 5) (da_cons (de_var 6) da_nil)))) (db_one (ds_ret de_bl)) db_nil) (db_cons (ds_set (i := 2) hx (de_call G_lot_of (hr.mono (by decide)) hx m_lot_of D_lot_of.kp B_lot_of (da_cons (de_var 1) (da_cons (de_callTy dc_tuple (by rfl) T.b_tuple boot_tuple (da_cons (de_lc (own := [("turn", 7)]) hx (di_rng1 T.b_range (da_cons (de_call G__law_roll (hr.mono (by decide)) hx m__law_roll D__law_roll.kp B__law_roll (da_cons (de_var 0) (da_cons de_int da_nil))) da_nil)) (blkOk_by (by kernel_rfl)) (fun s H C cl fp hy => (dg_name (i := 7) hy.nd)) (fun s H C cl fp hy => dts_nil) (fun s H C cl fp hy => (de_call G__law_drawn (hr.mono (by decide)) hy m__law_drawn D__law_drawn.kp B__law_drawn (da_cons (de_var 0) (da_cons (de_var 1) da_nil))))) da_nil)) da_nil)))) (db_cons (ds_for hx (passes_of rfl) (di_seq (de_call G__law_near (hr.mono (by decide)) hx m__law_near D__law_near.kp B__law_near (da_cons (de_var 0) (da_cons (de_var 1) (da_cons (de_var 2) da_nil))))) (dg_name (i := 3) hx.nd) (db_one (ds_if (dt_cmp (dop_ne hr.hu) (de_callB (dc_repr hx.gd hr.hu) (by rfl) T.b_repr boot_repr (da_cons (de_call G_is_lot (hr.mono (by decide)) hx m_is_lot D_is_lot.kp B_is_lot (da_cons (de_var 1) (da_cons (de_var 3) da_nil))) da_nil)) (de_callB (dc_repr hx.gd hr.hu) (by rfl) T.b_repr boot_repr (da_cons (de_call G__law_is_lot (hr.mono (by decide)) hx m__law_is_lot D__law_is_lot.kp B__law_is_lot (da_cons (de_var 3) (da_cons (de_var 1) da_nil))) da_nil))) (db_one (ds_ret de_bl)) db_nil))) (db_cons (ds_set (i := 4) hx (de_new (da_cons (de_var 5) (da_cons (de_callTy dc_list (by rfl) T.b_list boot_list (da_cons (de_var 5) da_nil)) (da_cons (de_op dop_add (de_var 5) (de_tup (da_cons de_int da_nil))) (da_cons (de_sl dsl (de_var 5) (do_some de_int) do_none) (da_cons (de_op dop_mulT (de_tup (da_cons de_non da_nil)) (de_var 1)) (da_cons (de_op dop_mulT (de_tup (da_cons de_bl da_nil)) (de_var 1)) (da_cons de_non (da_cons (de_tup da_nil) (da_cons (de_op dop_mulT (de_tup (da_cons de_str da_nil)) (de_var 1)) (da_cons de_int (da_cons de_dic0 da_nil))))))))))))) (db_cons (ds_expr (de_app (de_var 4) (de_op dop_add (de_sl dsl (de_var 5) do_none (do_some (de_un dun_neg de_int))) (de_tup (da_cons (de_cmp (dop_eq hr.hu) (de_ix dix (de_var 5) (de_un dun_neg de_int)) de_int) da_nil))))) (db_one (ds_ret (de_cmp (dop_eq hr.hu) (de_lc (own := [("value", 3)]) hx (di_seq (de_var 4)) (blkOk_by (by kernel_rfl)) (fun s H C cl fp hy => (dg_name (i := 3) hy.nd)) (fun s H C cl fp hy => (dts_one (dt_cmp (dop_ne hr.hu) (de_callB (dc_repr hy.gd hr.hu) (by rfl) T.b_repr boot_repr (da_cons (de_call G_is_row (hr.mono (by decide)) hy m_is_row D_is_row.kp B_is_row (da_cons (de_var 1) (da_cons (de_var 3) da_nil))) da_nil)) (de_callB (dc_repr hy.gd hr.hu) (by rfl) T.b_repr boot_repr (da_cons (de_call G__law_is_row (hr.mono (by decide)) hy m__law_is_row D__law_is_row.kp B__law_is_row (da_cons (de_var 3) (da_cons (de_var 1) da_nil))) da_nil))))) (fun s H C cl fp hy => (de_var 3))) (de_lst da_nil))))))))))))
def b_law : Fs := (sSeq (sFor (iRng rng1 (aCons (xCall gMax (aCons (xC (.int 1)) (aCons (xCall gMin (aCons (xC (.int 6)) (aCons (xCall gLen (aCons (xVar 0) aNil)) aNil))) aNil))) aNil)) (gN 1) (sSeq (sSet 3 (xApply F__law_dice (aCons (xVar 0) (aCons (xVar 1) aNil)))) (sFor (iRng rng1 (aCons (xC (.int 4)) aNil)) (gN 4) (sIf (tNotF (tVal (xApply F__law_right (aCons (xVar 3) (aCons (xOp gAdd (xC (.int 1)) (xApply F__law_roll (aCons (xVar 3) (aCons (xC (.int 7)) aNil)))) aNil))))) (sRet (xC (.bl false))) sPass)))) (sSeq (sSet 2 (xNew (aCons (xApply F_lowest (aCons (xC (.int 3)) (aCons (xTup (aCons (xC (.int 0)) (aCons (xUn gNeg (xC (.int 6))) (aCons (xC (.int 4)) aNil)))) aNil))) (aCons (xApply F_lowest (aCons (xC (.int 2)) (aCons (xTup (aCons (xC (.int 0)) (aCons (xC (.int 0)) aNil))) aNil))) (aCons (xApply F_product (aCons (xC (.int 2)) (aCons (xTup (aCons (xC (.int 2)) (aCons (xUn gNeg (xC (.int 1))) aNil))) (aCons (xTup (aCons (xC (.int 3)) (aCons (xC (.int 4)) aNil))) aNil)))) (aCons (xApply F_is_lot (aCons (xC (.int 2)) (aCons (xTup (aCons (xTup (aCons (xC (.int 2)) (aCons (xC (.int 4)) aNil))) aNil)) aNil))) aNil)))))) (sSeq (sDrop (xApp (xVar 2) (xApply F_is_lot (aCons (xC (.int 200)) (aCons (xTup aNil) aNil))))) (sRet (xOp gEq (xCall gRepr (aCons (xVar 2) aNil)) (xCall gRepr (aCons (xLst (aCons (xTup (aCons (xC (.int 0)) (aCons (xC (.int 3)) (aCons (xUn gNeg (xC (.int 2))) aNil)))) (aCons (xTup (aCons (xC (.int 0)) (aCons (xC (.int 0)) aNil))) (aCons (xC (.int 2)) (aCons (xC (.bl false)) (aCons (xC (.bl true)) aNil)))))) aNil)))))))
def F_law : Fd := runP 5 b_law
theorem sc_law : FnScope ["script", "spot", "told", "dice", "turn"] ["script"] (defScope (topS 39)) := ⟨rfl, rfl, rfl, by decide +kernel, rfl, by decide +kernel, by decide +kernel⟩
theorem ok_law {P : Program} {w : World} {K : PySem.W.Frag} {mg : Str → Option Value} {base : Heap} (T : Txt K mg) {a : Addr} {fd : FuncData} (D : FnP K "law" (topS 39) a fd) : FnG P w K mg base 8 a fd ["script"] (spD K 1 F_law) := by
  obtain ⟨a__law_dice, fd__law_dice, m__law_dice, D__law_dice⟩ := T.d__law_dice
  have G__law_dice := ok__law_dice (P := P) (w := w) (base := base) T D__law_dice
  have B__law_dice := D__law_dice.bindsN (ps := ["script", "spot"]) fun _ _ _ _ _ _ us hl => match us, hl with | [_, _], _ => rfl
  obtain ⟨a__law_right, fd__law_right, m__law_right, D__law_right⟩ := T.d__law_right
  have G__law_right := ok__law_right (P := P) (w := w) (base := base) T D__law_right
  have B__law_right := D__law_right.bindsN (ps := ["dice", "wide"]) fun _ _ _ _ _ _ us hl => match us, hl with | [_, _], _ => rfl
  obtain ⟨a__law_roll, fd__law_roll, m__law_roll, D__law_roll⟩ := T.d__law_roll
  have G__law_roll := ok__law_roll (P := P) (w := w) (base := base) T D__law_roll
  have B__law_roll := D__law_roll.bindsN (ps := ["dice", "total"]) fun _ _ _ _ _ _ us hl => match us, hl with | [_, _], _ => rfl
  obtain ⟨a_lowest, fd_lowest, m_lowest, D_lowest⟩ := T.d_lowest
  have G_lowest := ok_lowest (P := P) (w := w) (base := base) T D_lowest
  have B_lowest := D_lowest.bindsN (ps := ["width", "row"]) fun _ _ _ _ _ _ us hl => match us, hl with | [_, _], _ => rfl
  obtain ⟨a_product, fd_product, m_product, D_product⟩ := T.d_product
  have G_product := ok_product (P := P) (w := w) (base := base) T D_product
  have B_product := D_product.bindsN (ps := ["width", "one", "other"]) fun _ _ _ _ _ _ us hl => match us, hl with | [_, _, _], _ => rfl
  obtain ⟨a_is_lot, fd_is_lot, m_is_lot, D_is_lot⟩ := T.d_is_lot
  have G_is_lot := ok_is_lot (P := P) (w := w) (base := base) T D_is_lot
  have B_is_lot := D_is_lot.bindsN (ps := ["width", "value"]) fun _ _ _ _ _ _ us hl => match us, hl with | [_, _], _ => rfl
  refine fn_P (fn_D D sc_law fun cdv A outer s H E hr hx => ?_)
  exact (db_cons (ds_for hx (passes_of rfl) (di_rng1 T.b_range (da_cons (de_callB (dc_max hx.calm) (by rfl) T.b_max boot_max (da_cons de_int (da_cons (de_callB (dc_min hx.calm) (by rfl) T.b_min boot_min (da_cons de_int (da_cons (de_callB dc_len (by rfl) T.b_len boot_len (da_cons (de_var 0) da_nil)) da_nil))) da_nil))) da_nil)) (dg_name (i := 1) hx.nd) (db_cons (ds_set (i := 3) hx (de_call G__law_dice (hr.mono (by decide)) hx m__law_dice D__law_dice.kp B__law_dice (da_cons (de_var 0) (da_cons (de_var 1) da_nil)))) (db_one (ds_for hx (passes_of rfl) (di_rng1 T.b_range (da_cons de_int da_nil)) (dg_name (i := 4) hx.nd) (db_one (ds_if (dt_not (dt_val (de_call G__law_right (hr.mono (by decide)) hx m__law_right D__law_right.kp B__law_right (da_cons (de_var 3) (da_cons (de_op dop_add de_int (de_call G__law_roll (hr.mono (by decide)) hx m__law_roll D__law_roll.kp B__law_roll (da_cons (de_var 3) (da_cons de_int da_nil)))) da_nil))))) (db_one (ds_ret de_bl)) db_nil)))))) (db_cons (ds_set (i := 2) hx (de_new (da_cons (de_call G_lowest (hr.mono (by decide)) hx m_lowest D_lowest.kp B_lowest (da_cons de_int (da_cons (de_tup (da_cons de_int (da_cons (de_un dun_neg de_int) (da_cons de_int da_nil)))) da_nil))) (da_cons (de_call G_lowest (hr.mono (by decide)) hx m_lowest D_lowest.kp B_lowest (da_cons de_int (da_cons (de_tup (da_cons de_int (da_cons de_int da_nil))) da_nil))) (da_cons (de_call G_product (hr.mono (by decide)) hx m_product D_product.kp B_product (da_cons de_int (da_cons (de_tup (da_cons de_int (da_cons (de_un dun_neg de_int) da_nil))) (da_cons (de_tup (da_cons de_int (da_cons de_int da_nil))) da_nil)))) (da_cons (de_call G_is_lot (hr.mono (by decide)) hx m_is_lot D_is_lot.kp B_is_lot (da_cons de_int (da_cons (de_tup (da_cons (de_tup (da_cons de_int (da_cons de_int da_nil))) da_nil)) da_nil))) da_nil)))))) (db_cons (ds_expr (de_app (de_var 2) (de_call G_is_lot (hr.mono (by decide)) hx m_is_lot D_is_lot.kp B_is_lot (da_cons de_int (da_cons (de_tup da_nil) da_nil))))) (db_one (ds_ret (de_cmp (dop_eq hr.hu) (de_callB (dc_repr hx.gd hr.hu) (by rfl) T.b_repr boot_repr (da_cons (de_var 2) da_nil)) (de_callB (dc_repr hx.gd hr.hu) (by rfl) T.b_repr boot_repr (da_cons (de_lst (da_cons (de_tup (da_cons de_int (da_cons de_int (da_cons (de_un dun_neg de_int) da_nil)))) (da_cons (de_tup (da_cons de_int (da_cons de_int da_nil))) (da_cons de_int (da_cons de_bl (da_cons de_bl da_nil)))))) da_nil))))))))
def fns : List He.DefD := [⟨("_law_dice", none), "_law_dice", "_law_dice", defArgs (topS 26), defBody (topS 26), defScope (topS 26), [], []⟩, ⟨("is_integer", none), "is_integer", "is_integer", defArgs (topS 6), defBody (topS 6), defScope (topS 6), [], []⟩, ⟨("require_width", none), "require_width", "require_width", defArgs (topS 7), defBody (topS 7), defScope (topS 7), [], []⟩, ⟨("is_plain_row", none), "is_plain_row", "is_plain_row", defArgs (topS 8), defBody (topS 8), defScope (topS 8), [], []⟩, ⟨("require_row", none), "require_row", "require_row", defArgs (topS 20), defBody (topS 20), defScope (topS 20), [], []⟩, ⟨("common_share", none), "common_share", "common_share", defArgs (topS 10), defBody (topS 10), defScope (topS 10), [], []⟩, ⟨("lead_in", none), "lead_in", "lead_in", defArgs (topS 9), defBody (topS 9), defScope (topS 9), [], []⟩, ⟨("lowest_row", none), "lowest_row", "lowest_row", defArgs (topS 11), defBody (topS 11), defScope (topS 11), [], []⟩, ⟨("lowest", none), "lowest", "lowest", defArgs (topS 23), defBody (topS 23), defScope (topS 23), [], []⟩, ⟨("dot", none), "dot", "dot", defArgs (topS 13), defBody (topS 13), defScope (topS 13), [], []⟩, ⟨("product", none), "product", "product", defArgs (topS 22), defBody (topS 22), defScope (topS 22), [], []⟩, ⟨("is_plain_lot", none), "is_plain_lot", "is_plain_lot", defArgs (topS 12), defBody (topS 12), defScope (topS 12), [], []⟩, ⟨("is_lot", none), "is_lot", "is_lot", defArgs (topS 19), defBody (topS 19), defScope (topS 19), [], []⟩, ⟨("require_rows", none), "require_rows", "require_rows", defArgs (topS 21), defBody (topS 21), defScope (topS 21), [], []⟩, ⟨("less_by", none), "less_by", "less_by", defArgs (topS 14), defBody (topS 14), defScope (topS 14), [], []⟩, ⟨("rest_by", none), "rest_by", "rest_by", defArgs (topS 15), defBody (topS 15), defScope (topS 15), [], []⟩, ⟨("with_row", none), "with_row", "with_row", defArgs (topS 16), defBody (topS 16), defScope (topS 16), [], []⟩, ⟨("lot_in", none), "lot_in", "lot_in", defArgs (topS 17), defBody (topS 17), defScope (topS 17), [], []⟩, ⟨("lot_of", none), "lot_of", "lot_of", defArgs (topS 24), defBody (topS 24), defScope (topS 24), [], []⟩, ⟨("_law_roll", none), "_law_roll", "_law_roll", defArgs (topS 27), defBody (topS 27), defScope (topS 27), [], []⟩, ⟨("_law_pick", none), "_law_pick", "_law_pick", defArgs (topS 28), defBody (topS 28), defScope (topS 28), [], []⟩, ⟨("_law_drawn", none), "_law_drawn", "_law_drawn", defArgs (topS 36), defBody (topS 36), defScope (topS 36), [], []⟩, ⟨("_law_gcd", none), "_law_gcd", "_law_gcd", defArgs (topS 29), defBody (topS 29), defScope (topS 29), [], []⟩, ⟨("_law_lead", none), "_law_lead", "_law_lead", defArgs (topS 30), defBody (topS 30), defScope (topS 30), [], []⟩, ⟨("_law_lowest", none), "_law_lowest", "_law_lowest", defArgs (topS 31), defBody (topS 31), defScope (topS 31), [], []⟩, ⟨("_law_near", none), "_law_near", "_law_near", defArgs (topS 37), defBody (topS 37), defScope (topS 37), [], []⟩, ⟨("_law_dot", none), "_law_dot", "_law_dot", defArgs (topS 32), defBody (topS 32), defScope (topS 32), [], []⟩, ⟨("_law_is_int", none), "_law_is_int", "_law_is_int", defArgs (topS 33), defBody (topS 33), defScope (topS 33), [], []⟩, ⟨("_law_is_row", none), "_law_is_row", "_law_is_row", defArgs (topS 34), defBody (topS 34), defScope (topS 34), [], []⟩, ⟨("_law_is_lot", none), "_law_is_lot", "_law_is_lot", defArgs (topS 35), defBody (topS 35), defScope (topS 35), [], []⟩, ⟨("is_row", none), "is_row", "is_row", defArgs (topS 18), defBody (topS 18), defScope (topS 18), [], []⟩, ⟨("_law_right", none), "_law_right", "_law_right", defArgs (topS 38), defBody (topS 38), defScope (topS 38), [], []⟩, ⟨("law", none), "law", "law", defArgs (topS 39), defBody (topS 39), defScope (topS 39), [], []⟩]
def fas : List He.Fa := [.glo "_law_dice", .glo "is_integer", .glo "require_width", .glo "is_plain_row", .glo "require_row", .glo "common_share", .glo "lead_in", .glo "lowest_row", .glo "lowest", .glo "dot", .glo "product", .glo "is_plain_lot", .glo "is_lot", .glo "require_rows", .glo "less_by", .glo "rest_by", .glo "with_row", .glo "lot_in", .glo "lot_of", .glo "_law_roll", .glo "_law_pick", .glo "_law_drawn", .glo "_law_gcd", .glo "_law_lead", .glo "_law_lowest", .glo "_law_near", .glo "_law_dot", .glo "_law_is_int", .glo "_law_is_row", .glo "_law_is_lot", .glo "is_row", .glo "_law_right", .glo "law", .free "len", .free "int", .free "abs", .free "max", .free "isinstance", .free "bool", .free "tuple", .free "all", .free "enumerate", .free "zip", .free "sum", .free "any", .free "sorted", .free "range", .free "min", .free "list", .free "set", .free "repr", .int "MAX_WIDTH" 200]
theorem txt_of {K : PySem.W.Frag} {h : Heap} {mg : Str → Option Value} (X : K.In h) (G : h.Ns mainGlobals mg) (c : He.SaysD fas fns K) : Txt K mg where
  d__law_dice := by
    obtain ⟨fd, F⟩ := c.def_ 0 rfl
    exact ⟨_, fd, He.glo_ok X G (c.fact 0 (f := .glo "_law_dice") rfl), F⟩
  d_is_integer := by
    obtain ⟨fd, F⟩ := c.def_ 1 rfl
    exact ⟨_, fd, He.glo_ok X G (c.fact 1 (f := .glo "is_integer") rfl), F⟩
  d_require_width := by
    obtain ⟨fd, F⟩ := c.def_ 2 rfl
    exact ⟨_, fd, He.glo_ok X G (c.fact 2 (f := .glo "require_width") rfl), F⟩
  d_is_plain_row := by
    obtain ⟨fd, F⟩ := c.def_ 3 rfl
    exact ⟨_, fd, He.glo_ok X G (c.fact 3 (f := .glo "is_plain_row") rfl), F⟩
  d_require_row := by
    obtain ⟨fd, F⟩ := c.def_ 4 rfl
    exact ⟨_, fd, He.glo_ok X G (c.fact 4 (f := .glo "require_row") rfl), F⟩
  d_common_share := by
    obtain ⟨fd, F⟩ := c.def_ 5 rfl
    exact ⟨_, fd, He.glo_ok X G (c.fact 5 (f := .glo "common_share") rfl), F⟩
  d_lead_in := by
    obtain ⟨fd, F⟩ := c.def_ 6 rfl
    exact ⟨_, fd, He.glo_ok X G (c.fact 6 (f := .glo "lead_in") rfl), F⟩
  d_lowest_row := by
    obtain ⟨fd, F⟩ := c.def_ 7 rfl
    exact ⟨_, fd, He.glo_ok X G (c.fact 7 (f := .glo "lowest_row") rfl), F⟩
  d_lowest := by
    obtain ⟨fd, F⟩ := c.def_ 8 rfl
    exact ⟨_, fd, He.glo_ok X G (c.fact 8 (f := .glo "lowest") rfl), F⟩
  d_dot := by
    obtain ⟨fd, F⟩ := c.def_ 9 rfl
    exact ⟨_, fd, He.glo_ok X G (c.fact 9 (f := .glo "dot") rfl), F⟩
  d_product := by
    obtain ⟨fd, F⟩ := c.def_ 10 rfl
    exact ⟨_, fd, He.glo_ok X G (c.fact 10 (f := .glo "product") rfl), F⟩
  d_is_plain_lot := by
    obtain ⟨fd, F⟩ := c.def_ 11 rfl
    exact ⟨_, fd, He.glo_ok X G (c.fact 11 (f := .glo "is_plain_lot") rfl), F⟩
  d_is_lot := by
    obtain ⟨fd, F⟩ := c.def_ 12 rfl
    exact ⟨_, fd, He.glo_ok X G (c.fact 12 (f := .glo "is_lot") rfl), F⟩
  d_require_rows := by
    obtain ⟨fd, F⟩ := c.def_ 13 rfl
    exact ⟨_, fd, He.glo_ok X G (c.fact 13 (f := .glo "require_rows") rfl), F⟩
  d_less_by := by
    obtain ⟨fd, F⟩ := c.def_ 14 rfl
    exact ⟨_, fd, He.glo_ok X G (c.fact 14 (f := .glo "less_by") rfl), F⟩
  d_rest_by := by
    obtain ⟨fd, F⟩ := c.def_ 15 rfl
    exact ⟨_, fd, He.glo_ok X G (c.fact 15 (f := .glo "rest_by") rfl), F⟩
  d_with_row := by
    obtain ⟨fd, F⟩ := c.def_ 16 rfl
    exact ⟨_, fd, He.glo_ok X G (c.fact 16 (f := .glo "with_row") rfl), F⟩
  d_lot_in := by
    obtain ⟨fd, F⟩ := c.def_ 17 rfl
    exact ⟨_, fd, He.glo_ok X G (c.fact 17 (f := .glo "lot_in") rfl), F⟩
  d_lot_of := by
    obtain ⟨fd, F⟩ := c.def_ 18 rfl
    exact ⟨_, fd, He.glo_ok X G (c.fact 18 (f := .glo "lot_of") rfl), F⟩
  d__law_roll := by
    obtain ⟨fd, F⟩ := c.def_ 19 rfl
    exact ⟨_, fd, He.glo_ok X G (c.fact 19 (f := .glo "_law_roll") rfl), F⟩
  d__law_pick := by
    obtain ⟨fd, F⟩ := c.def_ 20 rfl
    exact ⟨_, fd, He.glo_ok X G (c.fact 20 (f := .glo "_law_pick") rfl), F⟩
  d__law_drawn := by
    obtain ⟨fd, F⟩ := c.def_ 21 rfl
    exact ⟨_, fd, He.glo_ok X G (c.fact 21 (f := .glo "_law_drawn") rfl), F⟩
  d__law_gcd := by
    obtain ⟨fd, F⟩ := c.def_ 22 rfl
    exact ⟨_, fd, He.glo_ok X G (c.fact 22 (f := .glo "_law_gcd") rfl), F⟩
  d__law_lead := by
    obtain ⟨fd, F⟩ := c.def_ 23 rfl
    exact ⟨_, fd, He.glo_ok X G (c.fact 23 (f := .glo "_law_lead") rfl), F⟩
  d__law_lowest := by
    obtain ⟨fd, F⟩ := c.def_ 24 rfl
    exact ⟨_, fd, He.glo_ok X G (c.fact 24 (f := .glo "_law_lowest") rfl), F⟩
  d__law_near := by
    obtain ⟨fd, F⟩ := c.def_ 25 rfl
    exact ⟨_, fd, He.glo_ok X G (c.fact 25 (f := .glo "_law_near") rfl), F⟩
  d__law_dot := by
    obtain ⟨fd, F⟩ := c.def_ 26 rfl
    exact ⟨_, fd, He.glo_ok X G (c.fact 26 (f := .glo "_law_dot") rfl), F⟩
  d__law_is_int := by
    obtain ⟨fd, F⟩ := c.def_ 27 rfl
    exact ⟨_, fd, He.glo_ok X G (c.fact 27 (f := .glo "_law_is_int") rfl), F⟩
  d__law_is_row := by
    obtain ⟨fd, F⟩ := c.def_ 28 rfl
    exact ⟨_, fd, He.glo_ok X G (c.fact 28 (f := .glo "_law_is_row") rfl), F⟩
  d__law_is_lot := by
    obtain ⟨fd, F⟩ := c.def_ 29 rfl
    exact ⟨_, fd, He.glo_ok X G (c.fact 29 (f := .glo "_law_is_lot") rfl), F⟩
  d_is_row := by
    obtain ⟨fd, F⟩ := c.def_ 30 rfl
    exact ⟨_, fd, He.glo_ok X G (c.fact 30 (f := .glo "is_row") rfl), F⟩
  d__law_right := by
    obtain ⟨fd, F⟩ := c.def_ 31 rfl
    exact ⟨_, fd, He.glo_ok X G (c.fact 31 (f := .glo "_law_right") rfl), F⟩
  d_law := by
    obtain ⟨fd, F⟩ := c.def_ 32 rfl
    exact ⟨_, fd, He.glo_ok X G (c.fact 32 (f := .glo "law") rfl), F⟩
  b_len := He.free_ok X G (c.fact 33 (f := .free "len") rfl)
  b_int := He.free_ok X G (c.fact 34 (f := .free "int") rfl)
  b_abs := He.free_ok X G (c.fact 35 (f := .free "abs") rfl)
  b_max := He.free_ok X G (c.fact 36 (f := .free "max") rfl)
  b_isinstance := He.free_ok X G (c.fact 37 (f := .free "isinstance") rfl)
  b_bool := He.free_ok X G (c.fact 38 (f := .free "bool") rfl)
  b_tuple := He.free_ok X G (c.fact 39 (f := .free "tuple") rfl)
  b_all := He.free_ok X G (c.fact 40 (f := .free "all") rfl)
  b_enumerate := He.free_ok X G (c.fact 41 (f := .free "enumerate") rfl)
  b_zip := He.free_ok X G (c.fact 42 (f := .free "zip") rfl)
  b_sum := He.free_ok X G (c.fact 43 (f := .free "sum") rfl)
  b_any := He.free_ok X G (c.fact 44 (f := .free "any") rfl)
  b_sorted := He.free_ok X G (c.fact 45 (f := .free "sorted") rfl)
  b_range := He.free_ok X G (c.fact 46 (f := .free "range") rfl)
  b_min := He.free_ok X G (c.fact 47 (f := .free "min") rfl)
  b_list := He.free_ok X G (c.fact 48 (f := .free "list") rfl)
  b_set := He.free_ok X G (c.fact 49 (f := .free "set") rfl)
  b_repr := He.free_ok X G (c.fact 50 (f := .free "repr") rfl)
  c_MAX_WIDTH := He.int_ok X G (c.fact 51 (f := .int "MAX_WIDTH" 200) rfl)
end K12
set_option maxHeartbeats 4000000
namespace K12
open PySem PySem.Spec PyProof.Rows L2 DL
abbrev rw (xs : List Int) : D := .tup (xs.map D.int)
def isI : D → Bool
  | .int _ => true
  | _ => false
def known (st : Store) (d : D) : Bool := (tyN st d).isSome
def isB : D → Bool
  | .bl _ => true
  | _ => false
def isTp : D → Bool
  | .tup _ => true
  | _ => false
theorem isi_int {st : Store} {d : D} (h : known st d = true) : gIsi st [d, .ty "int"] = some (.bl (isI d || isB d)) ∧ gIsi st [d, .ty "bool"] = some (.bl (isB d)) ∧ gIsi st [d, .ty "tuple"] = some (.bl (isTp d)) := by
  cases d with
  | loc l =>
    unfold known at h
    simp only [tyN] at h
    simp only [gIsi, tyN]
    cases e : st[l]? with
    | none => rw [e] at h; cases h
    | some c =>
      rw [e] at h
      cases c with
      | lst _ => simp [isT, isI, isB, isTp]
      | dic _ => simp [isT, isI, isB, isTp]
      | ins _ _ => cases h
  | ty _ => cases h
  | ob _ => cases h
  | _ => simp [gIsi, tyN, isT, isI, isB, isTp]
theorem int_ok {st : Store} {d : D} (h : known st d = true) : F_is_integer [d] st = .ok (.bl (isI d)) st := by
  obtain ⟨h1, h2, _⟩ := isi_int h
  refine runP_ok ?_ (by simp)
  simp only [b_is_integer, DL.start]
  simp [h1, h2]
  cases d <;> simp [isI, isB]
theorem lint_ok {st : Store} {d : D} (h : known st d = true) : F__law_is_int [d] st = .ok (.bl (isI d)) st := by
  obtain ⟨h1, h2, _⟩ := isi_int h
  refine runP_ok ?_ (by simp)
  simp only [b__law_is_int, DL.start]
  simp [h1, h2]
  cases d <;> simp [isI, isB]
def fine (st : Store) : D → Bool
  | .tup ds => ds.all (known st) && decide (ds.length ≤ 1000)
  | d => known st d
theorem fine_known {st : Store} {d : D} (h : fine st d = true) : known st d = true := by
  cases d <;> first | exact h | rfl
def isRow (w : Int) : D → Bool
  | .tup ds => ((ds.length : Int) == w) && ds.all isI
  | _ => false
theorem small_len {n : Nat} (h : n ≤ 1000) : n ≤ sizeLine := by rw [sizeLine_eq]; omega
theorem prow_ok {st : Store} {d : D} (w : Int) (h : fine st d = true) : F_is_plain_row [.int w, d] st = .ok (.bl (isRow w d)) st := by
  obtain ⟨_, _, h3⟩ := isi_int (fine_known h)
  refine runP_ok ?_ (by simp)
  simp only [b_is_plain_row, DL.start]
  simp [h3]
  cases d with
  | tup ds =>
    simp only [fine, Bool.and_eq_true, List.all_eq_true, decide_eq_true_eq] at h
    simp only [isRow, isTp, gLen_tup]
    by_cases hw : (ds.length : Int) = w
    · have key := lcD_all (g := gN 2) (f := xApply F_is_integer (aCons (xVar 2) aNil)) (ws := []) (st := st) (ρ := wipeD [some (D.int w), some (.tup ds), none] [2]) (fun d => .bl (isI d)) rfl ds fun d hd => ⟨_, rfl, by
        simp [wipeD, int_ok (h.1 d hd)]⟩
      simp [hw, key, small_len h.2]
    · have hb : ((ds.length : Int) == w) = false := by simpa using hw
      simp [hb]
  | _ => simp [isRow, isTp]
theorem lrow_ok {st : Store} {d : D} (w : Int) (h : fine st d = true) : F__law_is_row [d, .int w] st = .ok (.bl (isRow w d)) st := by
  obtain ⟨_, _, h3⟩ := isi_int (fine_known h)
  refine runP_ok ?_ (by simp)
  simp only [b__law_is_row, DL.start]
  simp [h3]
  cases d with
  | tup ds =>
    simp only [fine, Bool.and_eq_true, List.all_eq_true, decide_eq_true_eq] at h
    simp only [isRow, isTp, gLen_tup]
    by_cases hw : (ds.length : Int) = w
    · have key := lcD_map (g := gN 2) (t := tNotF (tVal (xApply F__law_is_int (aCons (xVar 2) aNil)))) (f := xC (.int 1)) (ws := []) (st := st) (ρ := wipeD [some (.tup ds), some (D.int w), none] [2]) (fun d => !isI d) (fun _ => .int 1) rfl ds fun d hd => ⟨_, rfl, by
        simp [wipeD, lint_ok (h.1 d hd)], fun _ => rfl⟩
      simp [hw, key, small_len h.2]
      rw [Bool.eq_iff_iff]
      simp
    · have hb : ((ds.length : Int) == w) = false := by simpa using hw
      simp [hb]
  | _ => simp [isRow, isTp]
/-- the first place that is not 0 -/
def lead : List Int → Nat
  | [] => 0
  | x :: xs => if x = 0 then lead xs + 1 else 0
theorem lead_le : ∀ xs : List Int, lead xs ≤ xs.length
  | [] => Nat.le_refl _
  | x :: xs => by
    unfold lead
    split
    · have := lead_le xs; simp; omega
    · simp
def leadD (xs : List Int) : D := if lead xs < xs.length then .int (lead xs : Nat) else .non
theorem lead_aux {st : Store} : ∀ (xs : List Int) (n : Nat) (a b c : Option D),
    forD (gT 2 (gsCons (gN 1) (gsCons (gN 2) gsNil))) (sIf (tVal (xOp gNe (xVar 2) (xC (.int 0)))) (sRet (xVar 1)) sPass) [] st (enum0 n (xs.map D.int)) [a, b, c] st =
      if lead xs < xs.length then .ret (.int (n + lead xs : Nat)) st else .nx [a, (if xs = [] then b else some (.int (n + xs.length - 1 : Nat))), (if xs = [] then c else some (.int 0))] st
  | [], n, a, b, c => by simp [enum0, forD, lead]
  | x :: xs, n, a, b, c => by
    simp only [List.map_cons, enum0]
    by_cases hx : x = 0
    · subst hx
      rw [forD_cons_nx (ρ1 := [a, some (.int (n : Nat)), some (.int 0)]) (ρ2 := [a, some (.int (n : Nat)), some (.int 0)]) (s2 := st) (by simp) (by simp) rfl, lead_aux xs (n + 1)]
      have e : lead (0 :: xs) = lead xs + 1 := by simp [lead]
      rw [e]
      by_cases hl : lead xs < xs.length
      · have h2 : lead xs + 1 < ((0 : Int) :: xs).length := by simp only [List.length_cons]; omega
        rw [if_pos hl, if_pos h2]
        congr 2
        omega
      · have h2 : ¬ (lead xs + 1 < ((0 : Int) :: xs).length) := by simp only [List.length_cons]; omega
        rw [if_neg hl, if_neg h2]
        cases xs with
        | nil => simp
        | cons y ys =>
          have e2 : n + 1 + (y :: ys).length - 1 = n + (0 :: y :: ys).length - 1 := by simp only [List.length_cons]; omega
          simp only [reduceCtorEq, if_false]
          rw [e2]
    · rw [forD_cons_ret (ρ1 := [a, some (.int (n : Nat)), some (.int x)]) (x := .int (n : Nat)) (s2 := st) (by simp) (by simp [hx])]
      simp [lead, hx]
theorem lead_ok {st : Store} (xs : List Int) : F_lead_in [rw xs] st = .ok (leadD xs) st := by
  refine runP_ok ?_ (by unfold leadD; split <;> simp)
  simp only [b_lead_in, DL.start]
  simp [lead_aux]
  unfold leadD
  split
  · simp
  · simp
end K12
namespace K12
open PySem PySem.Spec PyProof.Rows L2 DL
theorem gcd_step (a b : Int) : Int.gcd b (a.fmod b) = Int.gcd a b := by
  rw [Int.fmod_def, Int.sub_eq_add_neg, ← Int.mul_neg, Int.gcd_add_mul_left_right, Int.gcd_comm]
theorem fmod_less (a : Int) {b : Int} (h : b ≠ 0) : (a.fmod b).natAbs < b.natAbs := by
  rcases Int.lt_or_gt_of_ne h with h1 | h1
  · have e : a.fmod b = -((-a).fmod (-b)) := by rw [Int.neg_fmod_neg]; omega
    have h2 := Int.fmod_nonneg_of_pos (-a) (b := -b) (by omega)
    have h3 := Int.fmod_lt_of_pos (-a) (b := -b) (by omega)
    omega
  · have h2 := Int.fmod_nonneg_of_pos a h1
    have h3 := Int.fmod_lt_of_pos a h1
    omega
theorem gcd_while {st : Store} : ∀ (n : Nat) (a b : Int), b.natAbs < n → ∃ c : Int, c.natAbs = Int.gcd a b ∧
    whileD (tVal (xOp gNe (xVar 1) (xC (.int 0)))) (sPar 0 1 (aCons (xVar 1) (aCons (xOp gMod (xVar 0) (xVar 1)) aNil))) n [some (.int a), some (.int b)] st = .nx [some (.int c), some (.int 0)] st
  | 0, _, _, h => by omega
  | n + 1, a, b, h => by
    by_cases hb : b = 0
    · subst hb
      refine ⟨a, by simp, ?_⟩
      unfold whileD
      simp
    · obtain ⟨c, h1, h2⟩ := gcd_while (st := st) n b (a.fmod b) (by have := fmod_less a hb; omega)
      refine ⟨c, by rw [h1, gcd_step], ?_⟩
      unfold whileD
      simp [hb, gMod_int, h2]
theorem share_ok {st : Store} (a b : Int) : F_common_share [.int a, .int b] st = .ok (.int (Int.gcd a b : Nat)) st := by
  obtain ⟨c, h1, h2⟩ := gcd_while (st := st) (b.natAbs + 1) a b (Nat.lt_succ_self _)
  refine runP_ok ?_ (by simp)
  simp only [b_common_share, DL.start]
  simp [gcdFuel, h2, h1]
theorem lgcd_ok {st : Store} (a b : Int) : F__law_gcd [.int a, .int b] st = .ok (.int (Int.gcd a b : Nat)) st := share_ok a b
def gcdL (xs : List Int) : Nat := xs.foldl (fun g x => Int.gcd (g : Nat) x) 0
theorem gcdL_dvd_aux : ∀ (xs : List Int) (g : Nat), (xs.foldl (fun g x => Int.gcd (g : Nat) x) g) ∣ g ∧ ∀ x ∈ xs, ((xs.foldl (fun g x => Int.gcd (g : Nat) x) g : Nat) : Int) ∣ x
  | [], g => ⟨Nat.dvd_refl _, fun x hx => by simp at hx⟩
  | y :: ys, g => by
    obtain ⟨h1, h2⟩ := gcdL_dvd_aux ys (Int.gcd (g : Nat) y)
    refine ⟨Nat.dvd_trans h1 ?_, fun x hx => ?_⟩
    · have := Int.gcd_dvd_left (g : Int) y
      exact Int.natCast_dvd_natCast.mp this
    · rcases List.mem_cons.mp hx with e | hx
      · subst e
        exact Int.dvd_trans (Int.natCast_dvd_natCast.mpr h1) (Int.gcd_dvd_right _ _)
      · exact h2 x hx
theorem gcdL_dvd {xs : List Int} {x : Int} (h : x ∈ xs) : ((gcdL xs : Nat) : Int) ∣ x := (gcdL_dvd_aux xs 0).2 x h
theorem gcdL_zero {xs : List Int} (h : gcdL xs = 0) : ∀ x ∈ xs, x = 0 := fun x hx => by
  have := gcdL_dvd hx
  rw [h] at this
  exact Int.zero_dvd.mp this
theorem gcdL_all0 : ∀ {xs : List Int}, (∀ x ∈ xs, x = 0) → gcdL xs = 0 := fun {xs} h => by
  unfold gcdL
  induction xs with
  | nil => rfl
  | cons x xs ih =>
    have hx := h x (by simp)
    subst hx
    simpa using ih fun y hy => h y (by simp [hy])
/-- numbers of less than n bits -/
def Sm (n : Nat) (xs : List Int) : Prop := ∀ x ∈ xs, x.natAbs < 2 ^ n
theorem log_lt {x n : Nat} (h : x < 2 ^ n) (hn : 0 < n) : x.log2 < n := by
  by_cases e : x = 0
  · subst e; simpa using hn
  · exact (Nat.log2_lt e).mpr h
theorem gcdL_small {xs : List Int} {n : Nat} (h : Sm n xs) : gcdL xs < 2 ^ n := by
  by_cases e : gcdL xs = 0
  · rw [e]; exact Nat.two_pow_pos n
  · by_cases h0 : ∀ x ∈ xs, x = 0
    · exact absurd (gcdL_all0 h0) e
    · have : ∃ x, x ∈ xs ∧ x ≠ 0 := Classical.byContradiction fun hc => h0 fun x hx => Classical.byContradiction fun hn => hc ⟨x, hx, hn⟩
      obtain ⟨x, hx, hn⟩ := this
      have hd := Int.natAbs_dvd_natAbs.mpr (gcdL_dvd hx)
      have := Nat.le_of_dvd (by omega) hd
      have h2 := h x hx
      simp only [Int.natAbs_natCast] at this
      omega
theorem share_loop {st : Store} {A : Option D} {F : Fd} (hF : ∀ (a b : Int), F [.int a, .int b] st = .ok (.int (Int.gcd a b : Nat)) st) (r : List (Option D)) : ∀ (xs : List Int) (g : Nat) (c : Option D),
    ∃ c', forD (gN 2) (sSet 1 (xApply F (aCons (xVar 1) (aCons (xVar 2) aNil)))) [] st (xs.map D.int) (A :: some (.int g) :: c :: r) st = .nx (A :: some (.int ((xs.foldl (fun g x => Int.gcd (g : Nat) x) g : Nat))) :: c' :: r) st
  | [], g, c => ⟨c, rfl⟩
  | x :: xs, g, c => by
    obtain ⟨c', h⟩ := share_loop hF r xs (Int.gcd (g : Nat) x) (some (.int x))
    refine ⟨c', ?_⟩
    rw [List.map_cons, forD_cons_nx (ρ1 := A :: some (.int g) :: some (.int x) :: r) (ρ2 := A :: some (.int (Int.gcd (g : Nat) x : Nat)) :: some (.int x) :: r) (s2 := st) (by simp) (by simp [hF]) rfl, h]
    rfl
def low (xs : List Int) : List Int := if gcdL xs = 0 then xs else xs.map fun x => x.fdiv (if xs.getD (lead xs) 0 < 0 then -(gcdL xs : Int) else gcdL xs)
theorem lead_lt {xs : List Int} (h : gcdL xs ≠ 0) : lead xs < xs.length := by
  have key : ∀ xs : List Int, lead xs = xs.length → ∀ x ∈ xs, x = 0 := by
    intro xs
    induction xs with
    | nil => intro _ x hx; simp at hx
    | cons y ys ih =>
      intro h x hx
      unfold lead at h
      split at h
      · rename_i hy
        simp only [List.length_cons, Nat.add_right_cancel_iff] at h
        rcases List.mem_cons.mp hx with e | hx
        · rw [e, hy]
        · exact ih h x hx
      · simp at h
  rcases Nat.lt_or_eq_of_le (lead_le xs) with h1 | h1
  · exact h1
  · exact absurd (gcdL_all0 (key xs h1)) h
theorem lead_nz : ∀ {xs : List Int}, lead xs < xs.length → xs.getD (lead xs) 0 ≠ 0
  | [], h => by simp at h
  | x :: xs, h => by
    unfold lead at h ⊢
    split
    · rename_i hx
      rw [if_pos hx] at h
      simpa using lead_nz (xs := xs) (by simpa using h)
    · rename_i hx
      simpa using hx
theorem getD_map {xs : List Int} {i : Nat} (h : i < xs.length) : (xs.map D.int)[i]? = some (.int (xs.getD i 0)) := by
  simp [h]
theorem low_ok {st : Store} {xs : List Int} (hs : Sm 9000 xs) (hz : xs.length ≤ 1000) : F_lowest_row [rw xs] st = .ok (rw (low xs)) st := by
  obtain ⟨c', h1⟩ := share_loop (st := st) (A := some (rw xs)) (F := F_common_share) share_ok [] xs 0 none
  refine runP_ok ?_ (by simp)
  simp only [b_lowest_row, DL.start]
  simp only [List.map_cons, List.map_nil, List.length_cons, List.length_nil]
  have e0 : List.replicate (3 - (0 + 1)) (none : Option D) = [none, none] := rfl
  rw [e0]
  have h1' : forD (gN 2) (sSet 1 (xApply F_common_share (aCons (xVar 1) (aCons (xVar 2) aNil)))) [] st (xs.map D.int) [some (rw xs), some (.int 0), none] st = .nx [some (rw xs), some (.int (gcdL xs : Nat)), c'] st := h1
  simp [h1']
  unfold low
  by_cases hg : gcdL xs = 0
  · simp [hg]
  · have hl := lead_lt hg
    have hix : gIx st (rw xs) (leadD xs) = some (.int (xs.getD (lead xs) 0)) := by
      unfold leadD
      rw [if_pos hl]
      exact gIx_tup _ (getD_map hl)
    have gl : (gcdL xs : Int).natAbs.log2 < 9000 := by simpa using log_lt (gcdL_small hs) (by decide)
    have hgi : ((gcdL xs : Nat) : Int) ≠ 0 := by omega
    have key : ∀ (s : Int), s ≠ 0 → s.natAbs.log2 < 9000 → lcD (gN 2) tAll (xOp gFdiv (xVar 2) (xVar 1)) [] st (wipeD [some (rw xs), some (.int s), c'] [2]) (xs.map D.int) st = .ok ((xs.map fun x => x.fdiv s).map D.int) st := fun s h0 h9 => by
      have e := lcD_all (g := gN 2) (f := xOp gFdiv (xVar 2) (xVar 1)) (ws := []) (st := st) (ρ := wipeD [some (rw xs), some (.int s), c'] [2]) (fun d => match d with | .int x => .int (x.fdiv s) | d => d) rfl (xs.map D.int) fun d hd => by
        obtain ⟨x, hx, rfl⟩ := List.mem_map.mp hd
        exact ⟨_, rfl, by simp [wipeD, gFdiv_int h0 h9]⟩
      rw [e, List.map_map, List.map_map]
      rfl
    simp [hg, lead_ok, hix, hgi]
    by_cases hn : xs.getD (lead xs) 0 < 0
    · have k := key (-(gcdL xs : Int)) (by omega) (by simpa using gl)
      have hn' : xs[lead xs]?.getD 0 < 0 := by simpa using hn
      simp [hn', k, small_len hz]
    · have k := key (gcdL xs) hgi gl
      have hn' : ¬ xs[lead xs]?.getD 0 < 0 := by simpa using hn
      simp [hn', k, small_len hz]
def nz : Nat → List Int → List Int
  | _, [] => []
  | n, x :: xs => if x = 0 then nz (n + 1) xs else (n : Nat) :: nz (n + 1) xs
theorem nz_filter (p : D → Bool) (hp : ∀ (i x : Int), p (.tup [.int i, .int x]) = !(x == 0)) (h : D → D) (hh : ∀ (i x : Int), h (.tup [.int i, .int x]) = .int i) : ∀ (n : Nat) (xs : List Int), ((enum0 n (xs.map D.int)).filter p).map h = (nz n xs).map D.int
  | _, [] => rfl
  | n, x :: xs => by
    simp only [List.map_cons, enum0, List.filter_cons, hp]
    unfold nz
    by_cases hx : x = 0
    · simp [hx, nz_filter p hp h hh]
    · simp [hx, hh, nz_filter p hp h hh]
theorem nz_len : ∀ (n : Nat) (xs : List Int), (nz n xs).length ≤ xs.length
  | _, [] => Nat.le_refl _
  | n, x :: xs => by
    unfold nz
    have := nz_len (n + 1) xs
    split <;> simp <;> omega
theorem nz_lead : ∀ (n : Nat) (xs : List Int), (∀ j ∈ nz n xs, ((n + lead xs : Nat) : Int) ≤ j) ∧ (lead xs < xs.length → ((n + lead xs : Nat) : Int) ∈ nz n xs)
  | _, [] => ⟨fun j hj => by simp [nz] at hj, fun h => by simp at h⟩
  | n, x :: xs => by
    obtain ⟨h1, h2⟩ := nz_lead (n + 1) xs
    unfold nz lead
    by_cases hx : x = 0
    · simp only [hx, if_true]
      have e : n + 1 + lead xs = n + (lead xs + 1) := by omega
      rw [e] at h1 h2
      exact ⟨h1, fun h => h2 (by simpa using h)⟩
    · simp only [hx, if_false]
      refine ⟨fun j hj => ?_, fun _ => by simp⟩
      rcases List.mem_cons.mp hj with e | hj
      · omega
      · have := h1 j hj
        omega
theorem minI_lead (xs : List Int) : minI (nz 0 xs ++ [(xs.length : Int)]) = (lead xs : Nat) := by
  obtain ⟨h1, h2⟩ := nz_lead 0 xs
  have hne : nz 0 xs ++ [(xs.length : Int)] ≠ [] := by simp
  have spec : ∀ l : List Int, l ≠ [] → minI l ∈ l ∧ ∀ y ∈ l, minI l ≤ y := fun l hl => by
    cases l with
    | nil => exact absurd rfl hl
    | cons n ns =>
      obtain ⟨a, b, c⟩ := foldl_min_spec ns n
      refine ⟨?_, fun y hy => ?_⟩
      · rcases c with c | c
        · show ns.foldl min n ∈ _
          rw [c]; simp
        · exact List.mem_cons_of_mem _ c
      · rcases List.mem_cons.mp hy with e | hy
        · rw [e]; exact a
        · exact b y hy
  obtain ⟨m1, m2⟩ := spec _ hne
  have hle := lead_le xs
  refine Int.le_antisymm ?_ ?_
  · by_cases hl : lead xs < xs.length
    · have := m2 _ (List.mem_append_left _ (h2 hl))
      simpa using this
    · have := m2 (xs.length : Int) (by simp)
      omega
  · rcases List.mem_append.mp m1 with h | h
    · have := h1 _ h
      simpa using this
    · rw [List.mem_singleton.mp h]; omega
@[simp] theorem gAdd_lst {st : Store} (a b : List D) (h : a.length + b.length ≤ sizeLine) : gAdd st (.lst a) (.lst b) = some (.lst (a ++ b)) := by
  show ((lstM st (.lst a)).bind fun x => (lstM st (.lst b)).bind fun y => if x.length + y.length ≤ sizeLine then some (D.lst (x ++ y)) else none) = _
  simp [lstM, h]
theorem gMin_ints {st : Store} (ns : List Int) (h : 0 < ns.length) : gMin st [.lst (ns.map D.int)] = some (.int (minI ns)) := by
  show ((lstV st (.lst (ns.map D.int))).bind fun xs => (dInts xs).bind fun ns => if 0 < ns.length then some (D.int (minI ns)) else none) = _
  simp [lstV, dInts_map, h]
theorem llead_ok {st : Store} {xs : List Int} (hz : xs.length ≤ 1000) : F__law_lead [rw xs] st = .ok (.int (lead xs : Nat)) st := by
  refine runP_ok ?_ (by simp)
  simp only [b__law_lead, DL.start]
  have e0 : List.replicate (3 - (0 + 1)) (none : Option D) = [none, none] := rfl
  have key := lcD_map (g := gT 2 (gsCons (gN 1) (gsCons (gN 2) gsNil))) (t := tVal (xOp gNe (xVar 2) (xC (.int 0)))) (f := xVar 1) (ws := []) (st := st) (ρ := wipeD [some (rw xs), none, none] [1, 2])
    (fun d => match d with | .tup [_, .int x] => !(x == 0) | _ => false) (fun d => match d with | .tup [i, _] => i | d => d) rfl (enum0 0 (xs.map D.int)) fun d hd => by
      obtain ⟨i, hi⟩ := List.mem_iff_getElem?.mp hd
      rw [enum0_get] at hi
      obtain ⟨x, hx, rfl⟩ := Option.map_eq_some_iff.mp hi
      obtain ⟨n, hn, rfl⟩ := List.mem_map.mp (List.mem_of_getElem? hx)
      exact ⟨_, rfl, by simp [wipeD], fun _ => by simp [wipeD]⟩
  rw [nz_filter _ (fun _ _ => rfl) _ (fun _ _ => rfl)] at key
  have hn := nz_len 0 xs
  have hs : xs.length ≤ sizeLine := small_len hz
  have hs2 : (nz 0 xs).length + 1 ≤ sizeLine := by rw [sizeLine_eq]; omega
  have e1 : (nz 0 xs).map D.int ++ [D.int (xs.length : Nat)] = (nz 0 xs ++ [(xs.length : Int)]).map D.int := by simp
  have gm := gMin_ints (st := st) (nz 0 xs ++ [(xs.length : Int)]) (by simp)
  rw [minI_lead] at gm
  rw [← e1] at gm
  simp only [List.map_cons, List.map_nil, List.length_cons, List.length_nil, e0]
  simp [key, enum0_length, hs, hs2, gm]
/-- the law's own lowest rows are the program's -/
theorem llow_ok {st : Store} {xs : List Int} (hs : Sm 9000 xs) (hz : xs.length ≤ 1000) : F__law_lowest [rw xs] st = .ok (rw (low xs)) st := by
  obtain ⟨c', h1⟩ := share_loop (st := st) (A := some (rw xs)) (F := F__law_gcd) lgcd_ok [none] xs 0 none
  refine runP_ok ?_ (by simp)
  simp only [b__law_lowest, DL.start]
  simp only [List.map_cons, List.map_nil, List.length_cons, List.length_nil]
  have e0 : List.replicate (4 - (0 + 1)) (none : Option D) = [none, none, none] := rfl
  rw [e0]
  have h1' : forD (gN 2) (sSet 1 (xApply F__law_gcd (aCons (xVar 1) (aCons (xVar 2) aNil)))) [] st (xs.map D.int) [some (rw xs), some (.int 0), none, none] st = .nx [some (rw xs), some (.int (gcdL xs : Nat)), c', none] st := h1
  simp [h1']
  unfold low
  by_cases hg : gcdL xs = 0
  · simp [hg]
  · have hl := lead_lt hg
    have hix : gIx st (rw xs) (.int (lead xs : Nat)) = some (.int (xs.getD (lead xs) 0)) := gIx_tup _ (getD_map hl)
    have gl : (gcdL xs : Int).natAbs.log2 < 9000 := by simpa using log_lt (gcdL_small hs) (by decide)
    have hgi : ((gcdL xs : Nat) : Int) ≠ 0 := by omega
    have hnz := lead_nz hl
    have key : ∀ (s : Int), s.natAbs = 1 → lcD (gN 2) tAll (xOp gMulT (xVar 3) (xOp gFdiv (xVar 2) (xVar 1))) [] st (wipeD [some (rw xs), some (.int (gcdL xs : Nat)), c', some (.int s)] [2]) (xs.map D.int) st = .ok ((xs.map fun x => x.fdiv (s * gcdL xs)).map D.int) st := fun s h1 => by
      have e := lcD_all (g := gN 2) (f := xOp gMulT (xVar 3) (xOp gFdiv (xVar 2) (xVar 1))) (ws := []) (st := st) (ρ := wipeD [some (rw xs), some (.int (gcdL xs : Nat)), c', some (.int s)] [2]) (fun d => match d with | .int x => .int (x.fdiv (s * gcdL xs)) | d => d) rfl (xs.map D.int) fun d hd => by
        obtain ⟨x, hx, rfl⟩ := List.mem_map.mp hd
        refine ⟨_, rfl, ?_⟩
        have hd := gcdL_dvd hx
        have es : s * x.fdiv (gcdL xs) = x.fdiv (s * gcdL xs) := by
          obtain ⟨q, hq⟩ := hd
          have e1 : x.fdiv (gcdL xs) = q := by rw [hq]; exact Int.mul_fdiv_cancel_left _ hgi
          rw [e1]
          rcases Int.natAbs_eq s with hs1 | hs1
          · have : s = 1 := by omega
            rw [this, Int.one_mul, Int.one_mul]; exact e1.symm
          · have : s = -1 := by omega
            rw [this]
            have e2 : (-1 : Int) * (gcdL xs : Nat) = -(gcdL xs : Nat) := by omega
            have e3 : x = (-(gcdL xs : Nat) : Int) * (-q) := by rw [Int.neg_mul_neg]; exact hq
            rw [e2, e3, Int.mul_fdiv_cancel_left _ (by omega)]
            omega
        have hb : s.natAbs.log2 + (x.fdiv (gcdL xs)).natAbs.log2 < 1000000 := by
          obtain ⟨q, hq⟩ := hd
          have e1 : x.fdiv (gcdL xs) = q := by rw [hq]; exact Int.mul_fdiv_cancel_left _ hgi
          have hx9 := hs x hx
          rw [e1, h1]
          have h3 : q.natAbs ≤ x.natAbs := by
            rw [hq, Int.natAbs_mul]
            exact Nat.le_mul_of_pos_left _ (by omega)
          have h4 := log_lt (n := 9000) (x := q.natAbs) (by omega) (by decide)
          have h5 : Nat.log2 1 = 0 := by decide
          omega
        simp [wipeD, gFdiv_int hgi gl, gMul_int hb, es]
      rw [e, List.map_map, List.map_map]
      rfl
    simp [hg, llead_ok hz, hix, hgi]
    by_cases hn : xs.getD (lead xs) 0 < 0
    · have k := key (-1) rfl
      have e2 : (-1 : Int) * (gcdL xs : Nat) = -(gcdL xs : Nat) := by omega
      rw [e2] at k
      have hn' : xs[lead xs]?.getD 0 < 0 := by simpa using hn
      have hn2 : ¬ 0 < xs[lead xs]?.getD 0 := by omega
      simp [hn', hn2, gNeg, k, small_len hz]
    · have k := key 1 rfl
      rw [Int.one_mul] at k
      have hn' : ¬ xs[lead xs]?.getD 0 < 0 := by simpa using hn
      have hn2 : 0 < xs[lead xs]?.getD 0 := by
        have : xs[lead xs]?.getD 0 ≠ 0 := by simpa using hnz
        omega
      simp [hn', hn2, k, small_len hz]
end K12
namespace K12
open PySem PySem.Spec PyProof.Rows L2 DL
abbrev ad (xs : List Int) (i : Nat) : Int := xs.getD i 0
theorem lead_zero : ∀ {xs : List Int} {k : Nat}, k < lead xs → ad xs k = 0
  | [], k, h => by simp [lead] at h
  | x :: xs, 0, h => by
    unfold lead at h
    split at h
    · rename_i hx; simpa [ad] using hx
    · omega
  | x :: xs, k + 1, h => by
    unfold lead at h
    split at h
    · have := lead_zero (xs := xs) (k := k) (by omega)
      simpa [ad] using this
    · omega
theorem ad_len {xs : List Int} {i : Nat} (h : ad xs i ≠ 0) : i < xs.length := by
  refine Classical.byContradiction fun hc => h ?_
  simp [ad, List.getD_eq_getElem?_getD, List.getElem?_eq_none (Nat.le_of_not_lt hc)]
theorem lead_is {xs : List Int} {i : Nat} (h : ad xs i ≠ 0) (hk : ∀ k, k < i → ad xs k = 0) : lead xs = i := by
  have hi := ad_len h
  rcases Nat.lt_trichotomy (lead xs) i with h1 | h1 | h1
  · have h2 : lead xs < xs.length := by omega
    exact absurd (hk _ h1) (lead_nz h2)
  · exact h1
  · exact absurd (lead_zero h1) h
theorem low_len (xs : List Int) : (low xs).length = xs.length := by unfold low; split <;> simp
theorem low_ad (xs : List Int) (i : Nat) : ad (low xs) i = 0 ↔ ad xs i = 0 := by
  unfold low
  split
  · rfl
  · rename_i hg
    by_cases hi : i < xs.length
    · have hm : xs[i] ∈ xs := List.getElem_mem hi
      obtain ⟨q, hq⟩ := gcdL_dvd hm
      have hgi : ((gcdL xs : Nat) : Int) ≠ 0 := by omega
      have e1 : ad (xs.map fun x => x.fdiv (if xs.getD (lead xs) 0 < 0 then -(gcdL xs : Int) else gcdL xs)) i = xs[i].fdiv (if xs.getD (lead xs) 0 < 0 then -(gcdL xs : Int) else gcdL xs) := by
        simp [ad, hi]
      have e2 : ad xs i = xs[i] := by simp [ad, hi]
      rw [e1, e2]
      have key : ∀ s : Int, s ≠ 0 → (∃ q, xs[i] = s * q) → (xs[i].fdiv s = 0 ↔ xs[i] = 0) := fun s hs ⟨q, hq⟩ => by
        rw [hq, Int.mul_fdiv_cancel_left _ hs]
        constructor
        · intro h; rw [h]; simp
        · intro h; rcases Int.mul_eq_zero.mp h with z | z
          · exact absurd z hs
          · exact z
      split
      · exact key _ (by omega) ⟨-q, by rw [Int.neg_mul_neg]; exact hq⟩
      · exact key _ hgi ⟨q, hq⟩
    · have e1 : ad xs i = 0 := Classical.byContradiction fun hc => hi (ad_len hc)
      refine ⟨fun _ => e1, fun _ => Classical.byContradiction fun hc => hi ?_⟩
      have := ad_len hc
      simpa using this
theorem low_lead (xs : List Int) : lead (low xs) = lead xs := by
  by_cases h : lead xs < xs.length
  · refine lead_is (fun hc => lead_nz h ((low_ad xs _).mp hc)) fun k hk => (low_ad xs k).mpr (lead_zero hk)
  · have h1 := lead_le xs
    have h2 := lead_le (low xs)
    rw [low_len] at h2
    rcases Nat.lt_or_ge (lead (low xs)) xs.length with h3 | h3
    · have h4 := lead_nz (xs := low xs) (by rw [low_len]; exact h3)
      exact absurd ((low_ad xs _).mpr (lead_zero (by omega))) h4
    · omega
theorem low_small {xs : List Int} {n : Nat} (h : Sm n xs) : Sm n (low xs) := by
  unfold low
  split
  · exact h
  · rename_i hg
    intro y hy
    obtain ⟨x, hx, rfl⟩ := List.mem_map.mp hy
    have h1 := h x hx
    obtain ⟨q, hq⟩ := gcdL_dvd hx
    have hgi : ((gcdL xs : Nat) : Int) ≠ 0 := by omega
    have key : ∀ s : Int, s ≠ 0 → (∃ q, x = s * q) → (x.fdiv s).natAbs ≤ x.natAbs := fun s hs ⟨q, hq⟩ => by
      have e : x.fdiv s = q := by rw [hq]; exact Int.mul_fdiv_cancel_left _ hs
      rw [e, hq, Int.natAbs_mul]
      exact Nat.le_mul_of_pos_left _ (by omega)
    refine Nat.lt_of_le_of_lt ?_ h1
    split
    · exact key _ (by omega) ⟨-q, by rw [Int.neg_mul_neg]; exact hq⟩
    · exact key _ hgi ⟨q, hq⟩
def lessB (row other : List Int) : List Int := if ad row (lead other) = 0 then row else List.zipWith (fun a b => ad other (lead other) * a - ad row (lead other) * b) row other
theorem less_len {row other : List Int} (h : row.length = other.length) : (lessB row other).length = row.length := by
  unfold lessB; split <;> simp [h]
theorem less_ad {row other : List Int} (h : row.length = other.length) (hn : ad row (lead other) ≠ 0) (i : Nat) : ad (lessB row other) i = ad other (lead other) * ad row i - ad row (lead other) * ad other i := by
  unfold lessB
  rw [if_neg hn]
  by_cases hi : i < row.length
  · have hi2 : i < other.length := by omega
    simp [ad, hi, hi2, List.getElem?_zipWith]
  · have e1 : ad row i = 0 := Classical.byContradiction fun hc => hi (ad_len hc)
    have e2 : ad other i = 0 := Classical.byContradiction fun hc => hi (by have := ad_len hc; omega)
    rw [e1, e2, Int.mul_zero, Int.mul_zero]
    refine Classical.byContradiction fun hc => hi ?_
    have := ad_len hc
    simp at this
    omega
theorem less_keep {row other : List Int} (h : row.length = other.length) {i : Nat} (h1 : ad row i = 0) (h2 : ad other i = 0) : ad (lessB row other) i = 0 := by
  by_cases hn : ad row (lead other) = 0
  · unfold lessB; rw [if_pos hn]; exact h1
  · rw [less_ad h hn, h1, h2]; simp
theorem less_lead {row other : List Int} (h : row.length = other.length) : ad (lessB row other) (lead other) = 0 := by
  by_cases hn : ad row (lead other) = 0
  · unfold lessB; rw [if_pos hn]; exact hn
  · rw [less_ad h hn, Int.mul_comm]; omega
theorem two_pow_le {m n : Nat} (h : m ≤ n) : 2 ^ m ≤ 2 ^ n := Nat.pow_le_pow_right (by decide) h
theorem ad_small {xs : List Int} {n i : Nat} (h : Sm n xs) : (ad xs i).natAbs < 2 ^ n := by
  by_cases hi : i < xs.length
  · have : ad xs i = xs[i] := by simp [ad, hi]
    rw [this]; exact h _ (List.getElem_mem hi)
  · have : ad xs i = 0 := Classical.byContradiction fun hc => hi (ad_len hc)
    rw [this]; simpa using Nat.two_pow_pos n
theorem less_small {row other : List Int} {m n : Nat} (hr : Sm m row) (ho : Sm n other) : Sm (m + n + 1) (lessB row other) := by
  unfold lessB
  split
  · intro x hx
    exact Nat.lt_of_lt_of_le (hr x hx) (two_pow_le (by omega))
  · intro x hx
    obtain ⟨i, hi⟩ := List.mem_iff_getElem?.mp hx
    rw [List.getElem?_zipWith] at hi
    split at hi
    · rename_i a b ha hb
      cases hi
      have h1 := hr a (List.mem_of_getElem? ha)
      have h2 := ho b (List.mem_of_getElem? hb)
      have h3 := ad_small (i := lead other) ho
      have h4 := ad_small (i := lead other) hr
      have e : ∀ x y : Nat, x < 2 ^ n → y < 2 ^ m → x * y < 2 ^ (m + n) := fun x y hx hy => by
        rw [Nat.pow_add, Nat.mul_comm (2 ^ m)]
        exact Nat.mul_lt_mul'' hx hy
      have e1 := e _ _ h3 h1
      have e2 := e _ _ h2 h4
      have e3 : (ad other (lead other) * a - ad row (lead other) * b).natAbs ≤ (ad other (lead other)).natAbs * a.natAbs + b.natAbs * (ad row (lead other)).natAbs := by
        have := Int.natAbs_sub_le (ad other (lead other) * a) (ad row (lead other) * b)
        rw [Int.natAbs_mul, Int.natAbs_mul, Nat.mul_comm (ad row (lead other)).natAbs] at this
        exact this
      have e4 : 2 ^ (m + n + 1) = 2 ^ (m + n) + 2 ^ (m + n) := by rw [Nat.pow_succ]; omega
      omega
    · cases hi
theorem zip_map (h : D → D) (f : Int → Int → Int) (hh : ∀ a b, h (.tup [.int a, .int b]) = .int (f a b)) : ∀ xs ys : List Int, (zip2 (xs.map D.int) (ys.map D.int)).map h = (List.zipWith f xs ys).map D.int
  | [], _ => by simp [zip2]
  | _ :: _, [] => by simp [zip2]
  | x :: xs, y :: ys => by simp [zip2, hh, zip_map h f hh xs ys]
theorem zip_mem {xs ys : List Int} {d : D} (h : d ∈ zip2 (xs.map D.int) (ys.map D.int)) : ∃ a b, a ∈ xs ∧ b ∈ ys ∧ d = .tup [.int a, .int b] := by
  obtain ⟨i, hi⟩ := List.mem_iff_getElem?.mp h
  obtain ⟨a, b, ha, hb, rfl⟩ := zip2_get _ _ _ _ hi
  obtain ⟨x, hx, rfl⟩ := List.mem_map.mp (List.mem_of_getElem? ha)
  obtain ⟨y, hy, rfl⟩ := List.mem_map.mp (List.mem_of_getElem? hb)
  exact ⟨x, y, hx, hy, rfl⟩
theorem mul_room {a b : Int} {m n : Nat} (ha : a.natAbs < 2 ^ m) (hb : b.natAbs < 2 ^ n) (hm : 0 < m) (hn : 0 < n) (h : m + n < 1000000) : a.natAbs.log2 + b.natAbs.log2 < 1000000 := by
  have h1 := log_lt ha hm
  have h2 := log_lt hb hn
  omega
theorem less_ok {st : Store} {row other : List Int} {m n : Nat} (hr : Sm m row) (ho : Sm n other) (hm : 0 < m) (hn : 0 < n) (hmn : m + n < 1000000) (hl : row.length = other.length) (hlead : lead other < other.length) (hz : row.length ≤ 1000) :
    F_less_by [rw row, rw other] st = .ok (rw (lessB row other)) st := by
  refine runP_ok ?_ (by simp)
  simp only [b_less_by, DL.start]
  have e0 : List.replicate (5 - (0 + 1 + 1)) (none : Option D) = [none, none, none] := rfl
  have i1 : gIx st (rw row) (.int (lead other : Nat)) = some (.int (ad row (lead other))) := gIx_tup _ (getD_map (by omega))
  have i2 : gIx st (rw other) (.int (lead other : Nat)) = some (.int (ad other (lead other))) := gIx_tup _ (getD_map hlead)
  have ld : leadD other = .int (lead other : Nat) := by unfold leadD; rw [if_pos hlead]
  simp only [List.map_cons, List.map_nil, List.length_cons, List.length_nil, e0]
  unfold lessB
  by_cases h0 : ad row (lead other) = 0
  · simp [lead_ok, ld, i1, h0]
    have h0' : row[lead other]?.getD 0 = 0 := by simpa [ad] using h0
    simp [h0']
  · have key := lcD_all (g := gT 2 (gsCons (gN 3) (gsCons (gN 4) gsNil))) (f := xOp gSub (xOp gMulT (xOp gIx (xVar 1) (xVar 2)) (xVar 3)) (xOp gMulT (xOp gIx (xVar 0) (xVar 2)) (xVar 4))) (ws := []) (st := st)
      (ρ := wipeD [some (rw row), some (rw other), some (.int (lead other : Nat)), none, none] [3, 4]) (fun d => match d with | .tup [.int a, .int b] => .int (ad other (lead other) * a - ad row (lead other) * b) | d => d) rfl (zip2 (row.map D.int) (other.map D.int)) fun d hd => by
        obtain ⟨a, b, ha, hb, rfl⟩ := zip_mem hd
        refine ⟨_, rfl, ?_⟩
        have m1 := gMul_int (st := st) (mul_room (ad_small (i := lead other) ho) (hr a ha) hn hm (by omega))
        have m2 := gMul_int (st := st) (mul_room (ad_small (i := lead other) hr) (ho b hb) hm hn (by omega))
        simp only [ad, List.getD_eq_getElem?_getD] at m1 m2
        simp [wipeD, i1, i2, m1, m2]
    rw [zip_map _ (fun a b => ad other (lead other) * a - ad row (lead other) * b) (fun _ _ => rfl)] at key
    have hlz : (zip2 (row.map D.int) (other.map D.int)).length ≤ sizeLine := by rw [zip2_length]; simp; exact Nat.le_trans (Nat.min_le_left _ _) (small_len hz)
    have h0' : ¬ row[lead other]?.getD 0 = 0 := by simpa [ad] using h0
    simp only [h0, if_false]
    simp [lead_ok, ld, i1, h0', key, hlz]
end K12
namespace K12
open PySem PySem.Spec PyProof.Rows L2 DL
def RedR (r s : List Int) : Prop := ad s (lead r) = 0 ∧ ad r (lead s) = 0
structure LotOk (w n : Nat) (lot : List (List Int)) : Prop where
  len : ∀ r ∈ lot, r.length = w
  sm : ∀ r ∈ lot, Sm n r
  nz : ∀ r ∈ lot, lead r < w
  red : lot.Pairwise RedR
def restB (lot : List (List Int)) (row : List Int) : List Int := lot.foldl lessB row
theorem rest_len {w : Nat} : ∀ {lot : List (List Int)} {row : List Int}, (∀ r ∈ lot, r.length = w) → row.length = w → (restB lot row).length = w
  | [], _, _, h => h
  | o :: lot, row, hl, h => rest_len (lot := lot) (fun r hr => hl r (by simp [hr])) (by rw [less_len (by rw [h, hl o (by simp)])]; exact h)
theorem rest_keep {w : Nat} {i : Nat} : ∀ {lot : List (List Int)} {row : List Int}, (∀ r ∈ lot, r.length = w) → row.length = w → ad row i = 0 → (∀ r ∈ lot, ad r i = 0) → ad (restB lot row) i = 0
  | [], _, _, _, h, _ => h
  | o :: lot, row, hl, h, h0, ha => by
    have ho := hl o (by simp)
    exact rest_keep (lot := lot) (fun r hr => hl r (by simp [hr])) (by rw [less_len (by rw [h, ho])]; exact h) (less_keep (by rw [h, ho]) h0 (ha o (by simp))) fun r hr => ha r (by simp [hr])
theorem rest_zero {w : Nat} : ∀ {lot : List (List Int)} {row : List Int}, (∀ r ∈ lot, r.length = w) → row.length = w → lot.Pairwise RedR → ∀ r ∈ lot, ad (restB lot row) (lead r) = 0
  | [], _, _, _, _, r, hr => by simp at hr
  | o :: lot, row, hl, h, hp, r, hr => by
    obtain ⟨h1, h2⟩ := List.pairwise_cons.mp hp
    have ho := hl o (by simp)
    have hlen : (lessB row o).length = w := by rw [less_len (by rw [h, ho])]; exact h
    have hl' : ∀ r ∈ lot, r.length = w := fun r hr => hl r (by simp [hr])
    rcases List.mem_cons.mp hr with e | hr
    · subst e
      exact rest_keep (lot := lot) hl' hlen (less_lead (by rw [h, ho])) fun s hs => (h1 s hs).1
    · exact rest_zero (lot := lot) hl' hlen h2 r hr
theorem rest_small {n : Nat} : ∀ {lot : List (List Int)} {row : List Int} {m : Nat}, (∀ r ∈ lot, Sm n r) → Sm m row → Sm (m + lot.length * (n + 1)) (restB lot row)
  | [], row, m, _, h => by simpa [restB] using h
  | o :: lot, row, m, hs, h => by
    have h1 := rest_small (lot := lot) (row := lessB row o) (m := m + n + 1) (fun r hr => hs r (by simp [hr])) (less_small h (hs o (by simp)))
    have e : m + n + 1 + lot.length * (n + 1) = m + (o :: lot).length * (n + 1) := by rw [List.length_cons, Nat.add_mul]; omega
    rw [e] at h1
    exact h1
theorem rest_ok {st : Store} {w n : Nat} (hn : 0 < n) (hz : w ≤ 1000) : ∀ (lot : List (List Int)) (row : List Int) (m : Nat) (A c : Option D), (∀ r ∈ lot, r.length = w) → (∀ r ∈ lot, Sm n r) → (∀ r ∈ lot, lead r < w) → row.length = w → Sm m row → 0 < m → m + lot.length * (n + 1) + n < 900000 →
    ∃ c', forD (gN 2) (sSet 1 (xApply F_less_by (aCons (xVar 1) (aCons (xVar 2) aNil)))) [] st (lot.map rw) [A, some (rw row), c] st = .nx [A, some (rw (restB lot row)), c'] st
  | [], row, m, A, c, _, _, _, _, _, _, _ => ⟨c, rfl⟩
  | o :: lot, row, m, A, c, hl, hs, hd, h, hr, hm, hb => by
    have ho := hl o (by simp)
    have hso := hs o (by simp)
    have e : (o :: lot).length * (n + 1) = lot.length * (n + 1) + (n + 1) := by rw [List.length_cons, Nat.add_mul]; omega
    rw [e] at hb
    have ok := less_ok (st := st) hr hso hm hn (by omega) (by rw [h, ho]) (by rw [ho]; exact hd o (by simp)) (by omega)
    obtain ⟨c', hc⟩ := rest_ok hn hz lot (lessB row o) (m + n + 1) A (some (rw o)) (fun r hr => hl r (by simp [hr])) (fun r hr => hs r (by simp [hr])) (fun r hr => hd r (by simp [hr])) (by rw [less_len (by rw [h, ho])]; exact h) (less_small hr hso) (by omega) (by omega)
    refine ⟨c', ?_⟩
    rw [List.map_cons, forD_cons_nx (ρ1 := [A, some (rw row), some (rw o)]) (ρ2 := [A, some (rw (lessB row o)), some (rw o)]) (s2 := st) (by simp) (by simp [ok]) rfl, hc]
    rfl
theorem und_rows (n : Nat) (lot : List (List Int)) : D.undL n (lot.map rw) = true := undL_all.mpr fun d hd => by
  obtain ⟨r, _, rfl⟩ := List.mem_map.mp hd
  simp
theorem restby_ok {st : Store} {w n m : Nat} (hn : 0 < n) (hz : w ≤ 1000) {lot : List (List Int)} {row : List Int} (L : LotOk w n lot) (h : row.length = w) (hr : Sm m row) (hm : 0 < m) (hb : m + lot.length * (n + 1) + n < 900000) :
    F_rest_by [.tup (lot.map rw), rw row] st = .ok (rw (restB lot row)) st := by
  obtain ⟨c', hc⟩ := rest_ok (st := st) hn hz lot row m (some (.tup (lot.map rw))) none L.len L.sm L.nz h hr hm hb
  refine runP_ok ?_ (by simp)
  simp only [b_rest_by, DL.start]
  have e0 : List.replicate (3 - (0 + 1 + 1)) (none : Option D) = [none] := rfl
  simp only [List.map_cons, List.map_nil, List.length_cons, List.length_nil, e0]
  simp [hc]
def nextR (lot : List (List Int)) (left : List Int) : List (List Int) := lot.map (fun o => low (lessB o left)) ++ [left]
theorem next_lead {w : Nat} {o left : List Int} (h1 : o.length = w) (h2 : left.length = w) (ho : lead o < w) (hl : lead left < w) (hz : ad left (lead o) = 0) : lead (lessB o left) = lead o := by
  have nl : ad left (lead left) ≠ 0 := lead_nz (by rw [h2]; exact hl)
  have no : ad o (lead o) ≠ 0 := lead_nz (by rw [h1]; exact ho)
  by_cases hn : ad o (lead left) = 0
  · unfold lessB; rw [if_pos hn]
  · have hne : lead o ≠ lead left := fun e => nl (by rw [← e]; exact hz)
    have hlt : lead o < lead left := by
      rcases Nat.lt_trichotomy (lead left) (lead o) with z | z | z
      · exact absurd (lead_zero z) hn
      · exact absurd z.symm hne
      · exact z
    refine lead_is ?_ fun k hk => ?_
    · rw [less_ad (by rw [h1, h2]) hn, hz, Int.mul_zero, Int.sub_zero]
      exact Int.mul_ne_zero nl no
    · rw [less_ad (by rw [h1, h2]) hn, lead_zero hk, lead_zero (Nat.lt_trans hk hlt)]
      simp
theorem next_ok {w n m : Nat} {lot : List (List Int)} {left : List Int} (L : LotOk w n lot) (hl : left.length = w) (hs : Sm m left) (hd : lead left < w) (hz : ∀ r ∈ lot, ad left (lead r) = 0) : LotOk w (n + m + 1) (nextR lot left) := by
  have ld : ∀ o ∈ lot, lead (low (lessB o left)) = lead o := fun o ho => by rw [low_lead, next_lead (L.len o ho) hl (L.nz o ho) hd (hz o ho)]
  refine ⟨fun r hr => ?_, fun r hr => ?_, fun r hr => ?_, ?_⟩
  · rcases List.mem_append.mp hr with h | h
    · obtain ⟨o, ho, rfl⟩ := List.mem_map.mp h
      rw [low_len, less_len (by rw [L.len o ho, hl]), L.len o ho]
    · rw [List.mem_singleton.mp h, hl]
  · rcases List.mem_append.mp hr with h | h
    · obtain ⟨o, ho, rfl⟩ := List.mem_map.mp h
      exact low_small (less_small (L.sm o ho) hs)
    · rw [List.mem_singleton.mp h]
      exact fun x hx => Nat.lt_of_lt_of_le (hs x hx) (two_pow_le (by omega))
  · rcases List.mem_append.mp hr with h | h
    · obtain ⟨o, ho, rfl⟩ := List.mem_map.mp h
      rw [ld o ho]; exact L.nz o ho
    · rw [List.mem_singleton.mp h]; exact hd
  · refine List.pairwise_append.mpr ⟨List.pairwise_map.mpr ?_, by simp, fun r hr s hs' => ?_⟩
    · refine List.Pairwise.imp_of_mem (fun {a b} ha hb h => ?_) L.red
      refine ⟨(low_ad _ _).mpr ?_, (low_ad _ _).mpr ?_⟩
      · rw [ld a ha]; exact less_keep (by rw [L.len b hb, hl]) h.1 (hz a ha)
      · rw [ld b hb]; exact less_keep (by rw [L.len a ha, hl]) h.2 (hz b hb)
    · obtain ⟨o, ho, rfl⟩ := List.mem_map.mp hr
      rw [List.mem_singleton.mp hs']
      refine ⟨?_, (low_ad _ _).mpr (less_lead (by rw [L.len o ho, hl]))⟩
      rw [ld o ho]; exact hz o ho
theorem lot_perm {w n : Nat} {a b : List (List Int)} (p : a.Perm b) (L : LotOk w n b) : LotOk w n a :=
  ⟨fun r hr => L.len r (p.mem_iff.mp hr), fun r hr => L.sm r (p.mem_iff.mp hr), fun r hr => L.nz r (p.mem_iff.mp hr), (p.symm.pairwise_iff (fun {x y} h => ⟨h.2, h.1⟩)).mp L.red⟩
theorem leads_nodup {w n : Nat} {lot : List (List Int)} (L : LotOk w n lot) : (lot.map fun r => ((lead r : Nat) : Int)).Nodup := by
  refine List.pairwise_map.mpr (List.Pairwise.imp_of_mem (fun {a b} ha hb h e => ?_) L.red)
  have hb2 : ad b (lead b) ≠ 0 := lead_nz (by rw [L.len b hb]; exact L.nz b hb)
  have e2 : lead a = lead b := by omega
  exact hb2 (by rw [← e2]; exact h.1)
theorem keys_rows {st : Store} : ∀ {rows : List (List Int)}, (∀ r ∈ rows, lead r < r.length) → keysF F_lead_in st (rows.map rw) = some (rows.map fun r => ((lead r : Nat) : Int))
  | [], _ => rfl
  | r :: rows, h => by
    have h1 := keys_rows (st := st) (rows := rows) fun s hs => h s (by simp [hs])
    have h2 : keyF F_lead_in st (rw r) = some ((lead r : Nat) : Int) := by
      unfold keyF
      rw [lead_ok]
      unfold leadD
      rw [if_pos (h r (by simp))]
      simp [Store.beq_refl]
    simp only [List.map_cons, keysF, h2, h1]
    rfl
theorem sortBy_map {α β : Type} (f : α → β) (ks : List Int) (xs : List α) : sortBy ks (xs.map f) = (sortBy ks xs).map f := by
  have h : Paired (fun (a : α) (b : β) => b = f a) xs (xs.map f) := by
    induction xs with
    | nil => exact .nil
    | cons x xs ih => exact .cons rfl ih
  have h2 := f2_snd (srtK_rel _ (f2_zip (ks := ks) h))
  have : ∀ {l : List α} {l' : List β}, Paired (fun a b => b = f a) l l' → l' = l.map f := by
    intro l l' h
    induction h with
    | nil => rfl
    | cons h t ih => rw [h, ih]; rfl
  exact this h2
theorem sortBy_perm {α : Type} (ks : List Int) (xs : List α) (h : ks.length = xs.length) : (sortBy ks xs).Perm xs := by
  have h1 := (srtK_perm (ks.zip xs)).map Prod.snd
  rw [List.map_snd_zip (by omega)] at h1
  exact h1
theorem with_ok {st : Store} {w n m : Nat} (hn : 0 < n) (hz : w ≤ 1000) {lot : List (List Int)} {row : List Int} (L : LotOk w n lot) (h : row.length = w) (hr : Sm m row) (hm : 0 < m) (hk : lot.length < 60) (hb : m + lot.length * (n + 1) + n < 8000) :
    ∃ lot', F_with_row [.tup (lot.map rw), rw row] st = .ok (.tup (lot'.map rw)) st ∧ LotOk w (n + (m + lot.length * (n + 1)) + 1) lot' ∧ lot'.length ≤ lot.length + 1 := by
  have r1 := restby_ok (st := st) hn hz L h hr hm (by omega)
  have rl := rest_len L.len h
  have rs := rest_small (lot := lot) L.sm hr
  have l1 := low_ok (st := st) (xs := restB lot row) (fun x hx => Nat.lt_of_lt_of_le (rs x hx) (two_pow_le (by omega))) (by omega)
  have hleft : (low (restB lot row)).length = w := by rw [low_len, rl]
  have e0 : List.replicate (5 - (0 + 1 + 1)) (none : Option D) = [none, none, none] := rfl
  by_cases hd : lead (low (restB lot row)) < w
  · have L2 := next_ok L hleft (low_small rs) hd fun r hr => (low_ad _ _).mpr (rest_zero L.len h L.red r hr)
    have hlen2 : (nextR lot (low (restB lot row))).length = lot.length + 1 := by simp [nextR]
    have ks := keys_rows (st := st) (rows := nextR lot (low (restB lot row))) fun r hr => by rw [L2.len r hr]; exact L2.nz r hr
    refine ⟨sortBy ((nextR lot (low (restB lot row))).map fun r => ((lead r : Nat) : Int)) (nextR lot (low (restB lot row))), runP_ok ?_ (by simp [und_rows]), lot_perm (sortBy_perm _ _ (by simp)) L2, ?_⟩
    · have ld : leadD (low (restB lot row)) = .int (lead (low (restB lot row)) : Nat) := by unfold leadD; rw [if_pos (by rw [hleft]; exact hd)]
      have key := lcD_all (g := gN 4) (f := xApply F_lowest_row (aCons (xApply F_less_by (aCons (xVar 4) (aCons (xVar 2) aNil))) aNil)) (ws := []) (st := st) (ρ := wipeD [some (.tup (lot.map rw)), some (rw row), some (rw (low (restB lot row))), none, none] [4])
        (fun d => match d with | .tup ds => rw (low (lessB ((dInts ds).getD []) (low (restB lot row)))) | d => d) rfl (lot.map rw) fun d hd' => by
          obtain ⟨o, ho, rfl⟩ := List.mem_map.mp hd'
          have q1 := less_ok (st := st) (L.sm o ho) (low_small rs) hn (by omega) (by omega) (by rw [L.len o ho, hleft]) (by rw [hleft]; exact hd) (by rw [L.len o ho]; exact hz)
          have q2 := less_small (L.sm o ho) (low_small rs)
          have q3 := low_ok (st := st) (xs := lessB o (low (restB lot row))) (fun x hx => Nat.lt_of_lt_of_le (q2 x hx) (two_pow_le (by omega))) (by rw [less_len (by rw [L.len o ho, hleft]), L.len o ho]; exact hz)
          exact ⟨_, rfl, by simp [wipeD, q1, q3, dInts_map]⟩
      have e2 : (lot.map rw).map (fun d => match d with | .tup ds => rw (low (lessB ((dInts ds).getD []) (low (restB lot row)))) | d => d) = (lot.map fun o => low (lessB o (low (restB lot row)))).map rw := by
        rw [List.map_map, List.map_map]
        refine List.map_congr_left fun o _ => ?_
        simp [dInts_map]
      rw [e2] at key
      have hz1 : lot.length ≤ sizeLine := small_len (by omega)
      have hz2 : lot.length + 1 ≤ sizeLine := small_len (by omega)
      have e3 : (lot.map fun o => low (lessB o (low (restB lot row)))).map rw ++ [rw (low (restB lot row))] = (nextR lot (low (restB lot row))).map rw := by simp [nextR]
      have gs : gSortKey F_lead_in st (.lst ((nextR lot (low (restB lot row))).map rw)) = some (.lst ((sortBy ((nextR lot (low (restB lot row))).map fun r => ((lead r : Nat) : Int)) (nextR lot (low (restB lot row)))).map rw)) := by
        unfold gSortKey
        have nd := leads_nodup L2
        have hc : ((nextR lot (low (restB lot row))).map rw).length < 64 ∧ ((nextR lot (low (restB lot row))).map fun r => ((lead r : Nat) : Int)).Nodup := ⟨by rw [List.length_map, hlen2]; omega, nd⟩
        simp only [lstV, Option.bind_some, ks]
        rw [if_pos hc, sortBy_map]
      simp only [b_with_row, DL.start]
      simp only [List.map_cons, List.map_nil, List.length_cons, List.length_nil, e0]
      have ad2 : gAdd st (.lst ((lot.map fun o => low (lessB o (low (restB lot row)))).map rw)) (.lst [rw (low (restB lot row))]) = some (.lst ((nextR lot (low (restB lot row))).map rw)) := by
        rw [gAdd_lst _ _ (by simpa using hz2), e3]
      have nn : gIsN st (.int (lead (low (restB lot row)) : Nat)) .non = some (.bl false) := rfl
      simp only [List.cons_append, List.nil_append, ev_sSeq, ev_sSet, ev_xApply, ev_aCons, ev_aNil, ev_xVar, List.getElem?_cons_zero, List.getElem?_cons_succ, Res.bind_ok, r1, l1, Res.thenS_ok, List.set_cons_zero, List.set_cons_succ, seq_nx, ev_sIf, ev_tVal, ev_xOp, lead_ok, ld, ev_xC, nn, lift_some, ev_tB, liftB_some, Bool.false_eq_true, if_false, ev_sPass, ev_xLc, ev_iOf, sq_tup, liftI_some, sameAt_nil, List.length_map, hz1, and_self, if_true, key, ev_xLst, ad2, ev_sRet, ev_xCall, ev_xSortKey, gs, gTupleOf_lst, ofS_ret]
    · rw [(sortBy_perm _ _ (by simp)).length_eq, hlen2]
      exact Nat.le_refl _
  · have ld : leadD (low (restB lot row)) = .non := by unfold leadD; rw [if_neg (by rw [hleft]; exact hd)]
    refine ⟨lot, runP_ok ?_ (by simp [und_rows]), ⟨L.len, fun r hr x hx => Nat.lt_of_lt_of_le (L.sm r hr x hx) (two_pow_le (by omega)), L.nz, L.red⟩, Nat.le_succ _⟩
    have nn : gIsN st .non .non = some (.bl true) := rfl
    simp only [b_with_row, DL.start]
    simp only [List.map_cons, List.map_nil, List.length_cons, List.length_nil, e0]
    simp only [List.cons_append, List.nil_append, ev_sSeq, ev_sSet, ev_xApply, ev_aCons, ev_aNil, ev_xVar, List.getElem?_cons_zero, List.getElem?_cons_succ, Res.bind_ok, r1, l1, Res.thenS_ok, List.set_cons_zero, List.set_cons_succ, seq_nx, ev_sIf, ev_tVal, ev_xOp, lead_ok, ld, ev_xC, nn, lift_some, ev_tB, liftB_some, if_true, ev_sRet, seq_ret, ofS_ret]
end K12
namespace K12
open PySem PySem.Spec PyProof.Rows L2 DL
def bnd : Nat → Nat
  | 0 => 101
  | k + 1 => bnd k + (101 + k * (bnd k + 1)) + 1
theorem bnd_pos (k : Nat) : 0 < bnd k := by cases k <;> simp [bnd]
theorem lotin_aux {st : Store} {w : Nat} (hz : w ≤ 1000) : ∀ (rows : List (List Int)) (k : Nat) (lot : List (List Int)) (A c : Option D), (∀ r ∈ rows, r.length = w ∧ Sm 101 r) → LotOk w (bnd k) lot → lot.length ≤ k → k + rows.length ≤ 3 →
    ∃ lot' c', forD (gN 2) (sSet 1 (xApply F_with_row (aCons (xVar 1) (aCons (xVar 2) aNil)))) [] st (rows.map rw) [A, some (.tup (lot.map rw)), c] st = .nx [A, some (.tup (lot'.map rw)), c'] st ∧ LotOk w (bnd (k + rows.length)) lot' ∧ lot'.length ≤ k + rows.length
  | [], k, lot, A, c, _, L, hl, _ => ⟨lot, c, rfl, L, hl⟩
  | r :: rows, k, lot, A, c, hr, L, hl, hk => by
    obtain ⟨h1, h2⟩ := hr r (by simp)
    simp only [List.length_cons] at hk
    have hb : bnd k ≤ 509 := by
      have : k = 0 ∨ k = 1 ∨ k = 2 := by omega
      rcases this with e | e | e <;> (rw [e]; decide)
    have hm : lot.length * (bnd k + 1) ≤ k * (bnd k + 1) := Nat.mul_le_mul_right _ hl
    have hm2 : k * (bnd k + 1) ≤ 2 * 510 := Nat.mul_le_mul (by omega) (by omega)
    obtain ⟨lot1, e, L1, l1⟩ := with_ok (st := st) (bnd_pos k) hz L h1 h2 (by decide) (by omega) (by omega)
    have L2 : LotOk w (bnd (k + 1)) lot1 := ⟨L1.len, fun s hs x hx => Nat.lt_of_lt_of_le (L1.sm s hs x hx) (two_pow_le (by show _ ≤ bnd k + (101 + k * (bnd k + 1)) + 1; omega)), L1.nz, L1.red⟩
    obtain ⟨lot', c', e2, L3, l3⟩ := lotin_aux hz rows (k + 1) lot1 A (some (rw r)) (fun s hs => hr s (by simp [hs])) L2 (by omega) (by omega)
    have ek : k + 1 + rows.length = k + (r :: rows).length := by simp only [List.length_cons]; omega
    rw [ek] at L3 l3
    refine ⟨lot', c', ?_, L3, l3⟩
    rw [List.map_cons, forD_cons_nx (ρ1 := [A, some (.tup (lot.map rw)), some (rw r)]) (ρ2 := [A, some (.tup (lot1.map rw)), some (rw r)]) (s2 := st) (by simp) (by simp [e]) rfl, e2]
theorem lotin_ok {st : Store} {w : Nat} (hz : w ≤ 1000) {rows : List (List Int)} (hr : ∀ r ∈ rows, r.length = w ∧ Sm 101 r) (hk : rows.length ≤ 3) :
    ∃ lot, F_lot_in [.tup (rows.map rw)] st = .ok (.tup (lot.map rw)) st ∧ LotOk w 1631 lot ∧ lot.length ≤ 3 := by
  obtain ⟨lot, c', e, L, hl⟩ := lotin_aux (st := st) hz rows 0 [] (some (.tup (rows.map rw))) none hr ⟨fun r h => by simp at h, fun r h => by simp at h, fun r h => by simp at h, .nil⟩ (Nat.le_refl _) (by omega)
  have hb : bnd (0 + rows.length) ≤ 1631 := by
    have : rows.length = 0 ∨ rows.length = 1 ∨ rows.length = 2 ∨ rows.length = 3 := by omega
    rcases this with e | e | e | e <;> (rw [e]; decide)
  refine ⟨lot, runP_ok ?_ (by simp [und_rows]), ⟨L.len, fun s hs x hx => Nat.lt_of_lt_of_le (L.sm s hs x hx) (two_pow_le hb), L.nz, L.red⟩, by omega⟩
  simp only [b_lot_in, DL.start]
  have e0 : List.replicate (3 - (0 + 1)) (none : Option D) = [none, none] := rfl
  have e' : forD (gN 2) (sSet 1 (xApply F_with_row (aCons (xVar 1) (aCons (xVar 2) aNil)))) [] st (rows.map rw) [some (.tup (rows.map rw)), some (.tup []), none] st = .nx [some (.tup (rows.map rw)), some (.tup (lot.map rw)), c'] st := e
  simp only [List.map_cons, List.map_nil, List.length_cons, List.length_nil, e0]
  simp [e']
theorem fine_rw {st : Store} {xs : List Int} (h : xs.length ≤ 1000) : fine st (rw xs) = true := by
  simp [fine, known, tyN, h]
theorem isRow_rw (w : Int) (xs : List Int) : isRow w (rw xs) = ((xs.length : Int) == w) := by
  simp [isRow, isI]
theorem width_ok {st : Store} {w : Int} (h : 1 ≤ w ∧ w ≤ 200) : F_require_width [.int w] st = .ok .non st := by
  refine runP_ok ?_ (by simp)
  have i1 := int_ok (st := st) (d := .int w) rfl
  simp only [b_require_width, DL.start]
  simp [i1, isI, h.1, h.2]
theorem rrow_ok {st : Store} {w : Nat} {xs : List Int} (hz : w ≤ 1000) (h : xs.length = w) : F_require_row [.int (w : Nat), rw xs] st = .ok .non st := by
  refine runP_ok ?_ (by simp)
  have i1 := prow_ok (st := st) (w : Nat) (fine_rw (st := st) (xs := xs) (by omega))
  rw [isRow_rw] at i1
  have e0 : List.replicate (2 - (0 + 1 + 1)) (none : Option D) = [] := rfl
  simp only [b_require_row, DL.start]
  simp only [List.map_cons, List.map_nil, List.length_cons, List.length_nil, e0]
  simp [i1, h]
theorem lowest_ok {st : Store} {w : Nat} {xs : List Int} (hw : 1 ≤ w ∧ w ≤ 200) (h : xs.length = w) (hs : Sm 9000 xs) : F_lowest [.int (w : Nat), rw xs] st = .ok (rw (low xs)) st := by
  refine runP_ok ?_ (by simp)
  have i1 := width_ok (st := st) (w := (w : Nat)) (by omega)
  have i2 := rrow_ok (st := st) (w := w) (xs := xs) (by omega) h
  have i3 := low_ok (st := st) hs (by omega)
  have e0 : List.replicate (2 - (0 + 1 + 1)) (none : Option D) = [] := rfl
  simp only [b_lowest, DL.start]
  simp only [List.map_cons, List.map_nil, List.length_cons, List.length_nil, e0]
  simp [i1, i2, i3]
def dotZ (xs ys : List Int) : Int := (List.zipWith (· * ·) xs ys).sum
theorem dot_ok {st : Store} {xs ys : List Int} {n : Nat} (hx : Sm n xs) (hy : Sm n ys) (hn : 0 < n) (hn2 : n < 400000) (hz : xs.length ≤ 1000) : F_dot [rw xs, rw ys] st = .ok (.int (dotZ xs ys)) st := by
  refine runP_ok ?_ (by simp)
  have e0 : List.replicate (4 - (0 + 1 + 1)) (none : Option D) = [none, none] := rfl
  have key := lcD_all (g := gT 2 (gsCons (gN 2) (gsCons (gN 3) gsNil))) (f := xOp gMulT (xVar 2) (xVar 3)) (ws := []) (st := st) (ρ := wipeD [some (rw xs), some (rw ys), none, none] [2, 3]) (fun d => match d with | .tup [.int a, .int b] => .int (a * b) | d => d) rfl (zip2 (xs.map D.int) (ys.map D.int)) fun d hd => by
    obtain ⟨a, b, ha, hb, rfl⟩ := zip_mem hd
    exact ⟨_, rfl, by simp [wipeD, gMul_int (mul_room (hx a ha) (hy b hb) hn hn (by omega))]⟩
  rw [zip_map _ (fun a b => a * b) (fun _ _ => rfl)] at key
  have hlz : (zip2 (xs.map D.int) (ys.map D.int)).length ≤ sizeLine := by rw [zip2_length]; simp; exact Nat.le_trans (Nat.min_le_left _ _) (small_len hz)
  have gs := gSum_ints (st := st) (List.zipWith (fun a b => a * b) xs ys)
  rw [List.map_zipWith] at gs
  simp only [b_dot, DL.start]
  simp only [List.map_cons, List.map_nil, List.length_cons, List.length_nil, e0]
  simp [key, hlz, dotZ, gs]
theorem ldot_ok {st : Store} {xs ys : List Int} {n : Nat} (hx : Sm n xs) (hy : Sm n ys) (hn : 0 < n) (hn2 : n < 400000) (hz : xs.length ≤ 1000) : F__law_dot [rw xs, rw ys] st = .ok (.int (dotZ xs ys)) st := dot_ok hx hy hn hn2 hz
theorem dotZ_comm : ∀ xs ys : List Int, dotZ xs ys = dotZ ys xs
  | [], ys => by cases ys <;> rfl
  | _ :: _, [] => rfl
  | x :: xs, y :: ys => by
    have h := dotZ_comm xs ys
    simp only [dotZ, List.zipWith_cons_cons, List.sum_cons] at h ⊢
    rw [h, Int.mul_comm]
theorem product_ok {st : Store} {w : Nat} {xs ys : List Int} {n : Nat} (hw : 1 ≤ w ∧ w ≤ 200) (h1 : xs.length = w) (h2 : ys.length = w) (hx : Sm n xs) (hy : Sm n ys) (hn : 0 < n) (hn2 : n < 400000) : F_product [.int (w : Nat), rw xs, rw ys] st = .ok (.int (dotZ xs ys)) st := by
  refine runP_ok ?_ (by simp)
  have i1 := width_ok (st := st) (w := (w : Nat)) (by omega)
  have i2 := rrow_ok (st := st) (w := w) (xs := xs) (by omega) h1
  have i3 := rrow_ok (st := st) (w := w) (xs := ys) (by omega) h2
  have i4 := dot_ok (st := st) hx hy hn hn2 (by omega)
  have e0 : List.replicate (3 - (0 + 1 + 1 + 1)) (none : Option D) = [] := rfl
  simp only [b_product, DL.start]
  simp only [List.map_cons, List.map_nil, List.length_cons, List.length_nil, e0]
  simp [i1, i2, i3, i4]
theorem rrows_ok {st : Store} {w : Nat} {rows : List (List Int)} (hz : w ≤ 1000) (h : ∀ r ∈ rows, r.length = w) (hk : rows.length ≤ 1000) : F_require_rows [.int (w : Nat), .tup (rows.map rw)] st = .ok .non st := by
  refine runP_ok ?_ (by simp)
  have e0 : List.replicate (3 - (0 + 1 + 1)) (none : Option D) = [none] := rfl
  obtain ⟨_, _, h3⟩ := isi_int (st := st) (d := .tup (rows.map rw)) rfl
  have key := lcD_all (g := gN 2) (f := xApply F_is_plain_row (aCons (xVar 0) (aCons (xVar 2) aNil))) (ws := []) (st := st) (ρ := wipeD [some (.int (w : Nat)), some (.tup (rows.map rw)), none] [2]) (fun _ => .bl true) rfl (rows.map rw) fun d hd => by
    obtain ⟨r, hr, rfl⟩ := List.mem_map.mp hd
    have i1 := prow_ok (st := st) (w : Nat) (fine_rw (st := st) (xs := r) (by have := h r hr; omega))
    rw [isRow_rw] at i1
    exact ⟨_, rfl, by simp [wipeD, i1, h r hr]⟩
  have e2 : (rows.map rw).map (fun _ => D.bl true) = (rows.map fun _ => true).map D.bl := by rw [List.map_map, List.map_map]; rfl
  rw [e2] at key
  have hz1 : rows.length ≤ sizeLine := small_len hk
  have ga := gAll_bls (st := st) (rows.map fun _ => true)
  have e3 : ((rows.map fun _ => true).all id) = true := by simp
  rw [e3] at ga
  simp only [b_require_rows, DL.start]
  simp only [List.map_cons, List.map_nil, List.length_cons, List.length_nil, e0]
  simp only [List.cons_append, List.nil_append, ev_sIf, ev_tOrF, ev_tNotF, ev_tVal, ev_xCall, ev_aCons, ev_aNil, ev_xVar, List.getElem?_cons_zero, List.getElem?_cons_succ, Res.bind_ok, ev_xC, h3, lift_some, isTp, ev_tB, liftB_some, Bool.not_true, Bool.false_eq_true, if_false,
    ev_xLc, ev_iOf, sq_tup, liftI_some, sameAt_nil, List.length_map, hz1, and_self, if_true, key, ga, Res.thenS_ok, ev_sPass, ofS_nx]
theorem lotof_ok {st : Store} {w : Nat} (hw : 1 ≤ w ∧ w ≤ 200) {rows : List (List Int)} (hr : ∀ r ∈ rows, r.length = w ∧ Sm 101 r) (hk : rows.length ≤ 3) :
    ∃ lot, F_lot_of [.int (w : Nat), .tup (rows.map rw)] st = .ok (.tup (lot.map rw)) st ∧ LotOk w 1631 lot ∧ lot.length ≤ 3 := by
  obtain ⟨lot, e, L, hl⟩ := lotin_ok (st := st) (w := w) (by omega) hr hk
  refine ⟨lot, runP_ok ?_ (by simp [und_rows]), L, hl⟩
  have i1 := width_ok (st := st) (w := (w : Nat)) (by omega)
  have i2 := rrows_ok (st := st) (w := w) (rows := rows) (by omega) (fun r hr' => (hr r hr').1) (by omega)
  have e0 : List.replicate (2 - (0 + 1 + 1)) (none : Option D) = [] := rfl
  simp only [b_lot_of, DL.start]
  simp only [List.map_cons, List.map_nil, List.length_cons, List.length_nil, e0]
  simp [i1, i2, e]
end K12
namespace K12
open PySem PySem.Spec PyProof.Rows L2 DL
def offB (all : List (List Int)) (p : Nat) (i : Nat) : Bool := ((enum0 0 (all.map rw)).filter fun d => match d with | .tup [.int a, _] => !(a == (p : Int)) | _ => false).any fun d => match d with | .tup [_, .tup es] => !((((dInts es).getD []).getD i 0) == 0) | _ => false
theorem offB_iff {all : List (List Int)} {p i : Nat} : offB all p i = true ↔ ∃ (k : Nat) (o : List Int), all[k]? = some o ∧ k ≠ p ∧ ad o i ≠ 0 := by
  unfold offB
  rw [List.any_eq_true]
  constructor
  · rintro ⟨d, hd, hq⟩
    obtain ⟨hd, hp⟩ := List.mem_filter.mp hd
    obtain ⟨k, hk⟩ := List.mem_iff_getElem?.mp hd
    rw [enum0_get] at hk
    obtain ⟨x, hx, rfl⟩ := Option.map_eq_some_iff.mp hk
    rw [List.getElem?_map] at hx
    obtain ⟨o, ho, rfl⟩ := Option.map_eq_some_iff.mp hx
    refine ⟨k, o, ho, ?_, ?_⟩
    · intro e; simp [e] at hp
    · simpa [dInts_map] using hq
  · rintro ⟨k, o, ho, hp, hn⟩
    refine ⟨.tup [.int (0 + k : Nat), rw o], List.mem_filter.mpr ⟨List.mem_of_getElem? (i := k) (by rw [enum0_get, List.getElem?_map, ho]; rfl), ?_⟩, ?_⟩
    · simp; omega
    · simpa [dInts_map] using hn
def loopB (all : List (List Int)) (w : Nat) : Nat → Int → List (List Int) → Bool
  | _, _, [] => true
  | p, a, r :: rs => decide (lead r < w) && decide (a < (lead r : Nat)) && decide (low r = r) && !offB all p (lead r) && loopB all w (p + 1) (lead r : Nat) rs
theorem low_map_eq {a b : List Int} : (a == b) = decide (a = b) := by
  by_cases h : a = b
  · simp [h]
  · simp [h]
theorem plot_loop {st : Store} {w : Nat} {all : List (List Int)} (hz : w ≤ 1000) (hall : ∀ r ∈ all, r.length = w) (hn : all.length ≤ 1000) : ∀ (rs : List (List Int)) (p : Nat) (a : Int) (x1 x2 x3 x4 x5 : Option D), (∀ r ∈ rs, r.length = w ∧ Sm 9000 r) →
    (loopB all w p a rs = true → ∃ y1 y2 y3 y4 y5 b, forD (gT 2 (gsCons (gN 3) (gsCons (gN 4) gsNil))) (sSeq (sSet 5 (xApply F_lead_in (aCons (xVar 4) aNil))) (sSeq (sIf (tOrF (tVal (xOp gIsN (xVar 5) (xC .non))) (tOrF (tVal (xOp gLe (xVar 5) (xVar 2))) (tVal (xOp gNe (xApply F_lowest_row (aCons (xVar 4) aNil)) (xVar 4))))) (sRet (xC (.bl false))) sPass) (sSeq (sIf (tVal (xCall gAny (aCons (xLc (iSt enI (aCons (xVar 1) aNil)) (gT 2 (gsCons (gN 6) (gsCons (gN 7) gsNil))) (tVal (xOp gNe (xVar 6) (xVar 3))) (xOp gNe (xOp gIx (xVar 7) (xVar 5)) (xC (.int 0))) [6, 7]) aNil))) (sRet (xC (.bl false))) sPass) (sSet 2 (xVar 5))))) [] st (enum0 p (rs.map rw)) [some (.int (w : Nat)), some (.tup (all.map rw)), some (.int a), x1, x2, x3, x4, x5] st = .nx [some (.int (w : Nat)), some (.tup (all.map rw)), some (.int b), y1, y2, y3, y4, y5] st) ∧
    (loopB all w p a rs = false → forD (gT 2 (gsCons (gN 3) (gsCons (gN 4) gsNil))) (sSeq (sSet 5 (xApply F_lead_in (aCons (xVar 4) aNil))) (sSeq (sIf (tOrF (tVal (xOp gIsN (xVar 5) (xC .non))) (tOrF (tVal (xOp gLe (xVar 5) (xVar 2))) (tVal (xOp gNe (xApply F_lowest_row (aCons (xVar 4) aNil)) (xVar 4))))) (sRet (xC (.bl false))) sPass) (sSeq (sIf (tVal (xCall gAny (aCons (xLc (iSt enI (aCons (xVar 1) aNil)) (gT 2 (gsCons (gN 6) (gsCons (gN 7) gsNil))) (tVal (xOp gNe (xVar 6) (xVar 3))) (xOp gNe (xOp gIx (xVar 7) (xVar 5)) (xC (.int 0))) [6, 7]) aNil))) (sRet (xC (.bl false))) sPass) (sSet 2 (xVar 5))))) [] st (enum0 p (rs.map rw)) [some (.int (w : Nat)), some (.tup (all.map rw)), some (.int a), x1, x2, x3, x4, x5] st = .ret (.bl false) st)
  | [], p, a, x1, x2, x3, x4, x5, _ => ⟨fun _ => ⟨x1, x2, x3, x4, x5, a, rfl⟩, fun h => by simp [loopB] at h⟩
  | r :: rs, p, a, x1, x2, x3, x4, x5, hr => by
    obtain ⟨h1, h2⟩ := hr r (by simp)
    have l1 := low_ok (st := st) h2 (by omega)
    have ih := plot_loop (st := st) hz hall hn rs (p + 1) (lead r : Nat) (some (.int (p : Nat))) (some (rw r)) (some (.int (lead r : Nat))) x4 x5 fun s hs => hr s (by simp [hs])
    simp only [List.map_cons, enum0]
    have g1 : gT 2 (gsCons (gN 3) (gsCons (gN 4) gsNil)) (.tup [.int (p : Nat), rw r]) [some (.int (w : Nat)), some (.tup (all.map rw)), some (.int a), x1, x2, x3, x4, x5] = some [some (.int (w : Nat)), some (.tup (all.map rw)), some (.int a), some (.int (p : Nat)), some (rw r), x3, x4, x5] := by simp
    unfold loopB
    by_cases hd : lead r < w
    · have ld : leadD r = .int (lead r : Nat) := by unfold leadD; rw [if_pos (by rw [h1]; exact hd)]
      have nn : gIsN st (.int (lead r : Nat)) .non = some (.bl false) := rfl
      by_cases ha : a < (lead r : Nat)
      · by_cases hl : low r = r
        · have key := lcD_map (g := gT 2 (gsCons (gN 6) (gsCons (gN 7) gsNil))) (t := tVal (xOp gNe (xVar 6) (xVar 3))) (f := xOp gNe (xOp gIx (xVar 7) (xVar 5)) (xC (.int 0))) (ws := []) (st := st)
            (ρ := wipeD [some (.int (w : Nat)), some (.tup (all.map rw)), some (.int a), some (.int (p : Nat)), some (rw r), some (.int (lead r : Nat)), x4, x5] [6, 7]) (fun d => match d with | .tup [.int a, _] => !(a == (p : Int)) | _ => false)
            (fun d => .bl ((fun d => match d with | .tup [_, .tup es] => !((((dInts es).getD []).getD (lead r) 0) == 0) | _ => false) d)) rfl (enum0 0 (all.map rw)) fun d hd' => by
              obtain ⟨k, hk⟩ := List.mem_iff_getElem?.mp hd'
              rw [enum0_get] at hk
              obtain ⟨x, hx, rfl⟩ := Option.map_eq_some_iff.mp hk
              rw [List.getElem?_map] at hx
              obtain ⟨o, ho, rfl⟩ := Option.map_eq_some_iff.mp hx
              have hol := hall o (List.mem_of_getElem? ho)
              have i1 : gIx st (rw o) (.int (lead r : Nat)) = some (.int (ad o (lead r))) := gIx_tup _ (getD_map (by rw [hol]; exact hd))
              refine ⟨_, rfl, by simp [wipeD], fun _ => ?_⟩
              simp only [ad, List.getD_eq_getElem?_getD] at i1
              simp [wipeD, i1, dInts_map]
          have hz1 : all.length ≤ sizeLine := small_len hn
          have ga : gAny st [.lst (((enum0 0 (all.map rw)).filter fun d => match d with | .tup [.int a, _] => !(a == (p : Int)) | _ => false).map fun d => .bl ((fun d => match d with | .tup [_, .tup es] => !((((dInts es).getD []).getD (lead r) 0) == 0) | _ => false) d))] = some (.bl (offB all p (lead r))) := gAny_map _ _
          have hle : decide ((lead r : Nat) ≤ a) = false := decide_eq_false (by omega)
          have ele : gLe st (.int (lead r : Nat)) (.int a) = some (.bl false) := by rw [gLe_int, hle]
          have ene : gNe st (rw (low r)) (rw r) = some (.bl false) := by rw [gNe_tupI, hl]; simp
          have body : ∀ b, offB all p (lead r) = b → sSeq (sSet 5 (xApply F_lead_in (aCons (xVar 4) aNil))) (sSeq (sIf (tOrF (tVal (xOp gIsN (xVar 5) (xC .non))) (tOrF (tVal (xOp gLe (xVar 5) (xVar 2))) (tVal (xOp gNe (xApply F_lowest_row (aCons (xVar 4) aNil)) (xVar 4))))) (sRet (xC (.bl false))) sPass) (sSeq (sIf (tVal (xCall gAny (aCons (xLc (iSt enI (aCons (xVar 1) aNil)) (gT 2 (gsCons (gN 6) (gsCons (gN 7) gsNil))) (tVal (xOp gNe (xVar 6) (xVar 3))) (xOp gNe (xOp gIx (xVar 7) (xVar 5)) (xC (.int 0))) [6, 7]) aNil))) (sRet (xC (.bl false))) sPass) (sSet 2 (xVar 5)))) [some (.int (w : Nat)), some (.tup (all.map rw)), some (.int a), some (.int (p : Nat)), some (rw r), x3, x4, x5] st =
              if b = true then .ret (.bl false) st else .nx [some (.int (w : Nat)), some (.tup (all.map rw)), some (.int (lead r : Nat)), some (.int (p : Nat)), some (rw r), some (.int (lead r : Nat)), x4, x5] st := fun b hb => by
            rw [hb] at ga
            simp only [ev_sSeq, ev_sSet, ev_xApply, ev_aCons, ev_aNil, ev_xVar, List.getElem?_cons_zero, List.getElem?_cons_succ, Res.bind_ok, lead_ok, ld, Res.thenS_ok, List.set_cons_zero, List.set_cons_succ, seq_nx, ev_sIf, ev_tOrF, ev_tVal, ev_xOp, ev_xC, nn, lift_some, ev_tB, liftB_some, Bool.false_eq_true, if_false, ele, l1, ene, ev_sPass, ev_xCall, ev_xLc, ev_iSt, en_one, sq_tup, Option.map_some, liftI_some, sameAt_nil, enum0_length, List.length_map, hz1, and_self, if_true, key, ga]
            cases b with
            | true => simp
            | false => simp
          cases hb : offB all p (lead r) with
          | true =>
            refine ⟨fun h => by simp [hb] at h, fun _ => ?_⟩
            rw [forD_cons_ret (x := .bl false) (s2 := st) g1 (by rw [body true hb]; rfl)]
          | false =>
            simp only [hd, ha, hl, decide_true, Bool.true_and, Bool.not_false]
            rw [forD_cons_nx (s2 := st) g1 (by rw [body false hb]; rfl) rfl]
            exact ih
        · refine ⟨fun h => by simp [hl] at h, fun _ => ?_⟩
          have hle : decide ((lead r : Nat) ≤ a) = false := decide_eq_false (by omega)
          have ele : gLe st (.int (lead r : Nat)) (.int a) = some (.bl false) := by rw [gLe_int, hle]
          have ene : gNe st (rw (low r)) (rw r) = some (.bl true) := by rw [gNe_tupI, low_map_eq, decide_eq_false hl]; rfl
          rw [forD_cons_ret (x := .bl false) (s2 := st) g1 (by
            simp only [ev_sSeq, ev_sSet, ev_xApply, ev_aCons, ev_aNil, ev_xVar, List.getElem?_cons_zero, List.getElem?_cons_succ, Res.bind_ok, lead_ok, ld, Res.thenS_ok, List.set_cons_zero, List.set_cons_succ, seq_nx, ev_sIf, ev_tOrF, ev_tVal, ev_xOp, ev_xC, nn, lift_some, ev_tB, liftB_some, Bool.false_eq_true, if_false, ele, l1, ene, if_true, ev_sRet, seq_ret])]
      · refine ⟨fun h => by simp [ha] at h, fun _ => ?_⟩
        have hle : decide (((lead r : Nat) : Int) ≤ a) = true := decide_eq_true (by omega)
        have ele : gLe st (.int (lead r : Nat)) (.int a) = some (.bl true) := by rw [gLe_int, hle]
        rw [forD_cons_ret (x := .bl false) (s2 := st) g1 (by
          simp only [ev_sSeq, ev_sSet, ev_xApply, ev_aCons, ev_aNil, ev_xVar, List.getElem?_cons_zero, List.getElem?_cons_succ, Res.bind_ok, lead_ok, ld, Res.thenS_ok, List.set_cons_zero, List.set_cons_succ, seq_nx, ev_sIf, ev_tOrF, ev_tVal, ev_xOp, ev_xC, nn, lift_some, ev_tB, liftB_some, Bool.false_eq_true, if_false, ele, if_true, ev_sRet, seq_ret])]
    · refine ⟨fun h => by simp [hd] at h, fun _ => ?_⟩
      have ld : leadD r = .non := by unfold leadD; rw [if_neg (by rw [h1]; exact hd)]
      have nn : gIsN st .non .non = some (.bl true) := rfl
      rw [forD_cons_ret (x := .bl false) (s2 := st) g1 (by
        simp only [ev_sSeq, ev_sSet, ev_xApply, ev_aCons, ev_aNil, ev_xVar, List.getElem?_cons_zero, List.getElem?_cons_succ, Res.bind_ok, lead_ok, ld, Res.thenS_ok, List.set_cons_zero, List.set_cons_succ, seq_nx, ev_sIf, ev_tOrF, ev_tVal, ev_xOp, ev_xC, nn, lift_some, ev_tB, liftB_some, if_true, ev_sRet, seq_ret])]
end K12
namespace K12
open PySem PySem.Spec PyProof.Rows L2 DL
theorem ints_of : ∀ {es : List D}, es.all isI = true → ∃ xs : List Int, es = xs.map D.int
  | [], _ => ⟨[], rfl⟩
  | e :: es, h => by
    simp only [List.all_cons, Bool.and_eq_true] at h
    obtain ⟨xs, rfl⟩ := ints_of h.2
    cases e with
    | int i => exact ⟨i :: xs, rfl⟩
    | _ => exact absurd h.1 (by simp [isI])
theorem rows_of {w : Nat} : ∀ {ds : List D}, ds.all (isRow (w : Nat)) = true → ∃ rows : List (List Int), ds = rows.map rw ∧ ∀ r ∈ rows, r.length = w
  | [], _ => ⟨[], rfl, fun r h => by simp at h⟩
  | d :: ds, h => by
    simp only [List.all_cons, Bool.and_eq_true] at h
    obtain ⟨rows, rfl, hr⟩ := rows_of h.2
    cases d with
    | tup es =>
      have h1 := h.1
      simp only [isRow, Bool.and_eq_true, beq_iff_eq] at h1
      obtain ⟨xs, rfl⟩ := ints_of h1.2
      refine ⟨xs :: rows, rfl, fun r hr' => ?_⟩
      rcases List.mem_cons.mp hr' with e | hr'
      · rw [e]; have := h1.1; simp at this; omega
      · exact hr r hr'
    | _ => exact absurd h.1 (by simp [isRow])
structure FineV (st : Store) (v : D) : Prop where
  kn : known st v = true
  it : ∀ ds, v = .tup ds → ds.length < 60 ∧ (∀ d ∈ ds, fine st d = true) ∧ ∀ r : List Int, rw r ∈ ds → Sm 9000 r
def rowsD (ds : List D) : List (List Int) := ds.map fun d => match d with
  | .tup es => (dInts es).getD []
  | _ => []
theorem rowsD_map (rows : List (List Int)) : rowsD (rows.map rw) = rows := by
  unfold rowsD
  rw [List.map_map]
  conv => rhs; rw [← List.map_id rows]
  refine List.map_congr_left fun r _ => ?_
  simp [dInts_map]
def lotB (w : Nat) : D → Bool
  | .tup ds => ds.all (isRow (w : Nat)) && loopB (rowsD ds) w 0 (-1) (rowsD ds)
  | _ => false
theorem plot_ok {st : Store} {w : Nat} {v : D} (hw : w ≤ 200) (h : FineV st v) : F_is_plain_lot [.int (w : Nat), v] st = .ok (.bl (lotB w v)) st := by
  refine runP_ok ?_ (by simp)
  obtain ⟨_, _, h3⟩ := isi_int h.kn
  have e0 : List.replicate (8 - (0 + 1 + 1)) (none : Option D) = [none, none, none, none, none, none] := rfl
  simp only [b_is_plain_lot, DL.start]
  simp only [List.map_cons, List.map_nil, List.length_cons, List.length_nil, e0]
  cases v with
  | tup ds =>
    obtain ⟨hk, hf, hs⟩ := h.it ds rfl
    have hz1 : ds.length ≤ sizeLine := small_len (by omega)
    have key := lcD_all (g := gN 4) (f := xApply F_is_plain_row (aCons (xVar 0) (aCons (xVar 4) aNil))) (ws := []) (st := st) (ρ := wipeD [some (.int (w : Nat)), some (.tup ds), none, none, none, none, none, none] [4]) (fun d => .bl (isRow (w : Nat) d)) rfl ds fun d hd =>
      ⟨_, rfl, by simp [wipeD, prow_ok (w : Nat) (hf d hd)]⟩
    have ga := gAll_map (st := st) (isRow (w : Nat)) ds
    simp only [lotB]
    cases hall : ds.all (isRow (w : Nat)) with
    | false =>
      rw [hall] at ga
      simp only [List.cons_append, List.nil_append, ev_sSeq, ev_sIf, ev_tOrF, ev_tNotF, ev_tVal, ev_xCall, ev_aCons, ev_aNil, ev_xVar, List.getElem?_cons_zero, List.getElem?_cons_succ, Res.bind_ok, ev_xC, h3, isTp, lift_some, ev_tB, liftB_some, Bool.not_true, Bool.false_eq_true, if_false, ev_xLc, ev_iOf, sq_tup, liftI_some, sameAt_nil, hz1, and_self, if_true, key, ga, Bool.not_false, Res.thenS_ok, ev_sRet, seq_ret, ofS_ret, Bool.false_and]
    | true =>
      rw [hall] at ga
      obtain ⟨rows, rfl, hr⟩ := rows_of hall
      rw [rowsD_map]
      have ng : gNeg st (.int 1) = some (.int (-1)) := rfl
      obtain ⟨l1, l2⟩ := plot_loop (st := st) (w := w) (all := rows) (by omega) hr (by simp at hk; omega) rows 0 (-1) none none none none none fun r hr' => ⟨hr r hr', hs r (List.mem_map.mpr ⟨r, hr', rfl⟩)⟩
      cases hl : loopB rows w 0 (-1) rows with
      | true =>
        obtain ⟨y1, y2, y3, y4, y5, b, e⟩ := l1 hl
        simp only [List.cons_append, List.nil_append, ev_sSeq, ev_sIf, ev_tOrF, ev_tNotF, ev_tVal, ev_xCall, ev_aCons, ev_aNil, ev_xVar, List.getElem?_cons_zero, List.getElem?_cons_succ, Res.bind_ok, ev_xC, h3, isTp, lift_some, ev_tB, liftB_some, Bool.not_true, Bool.false_eq_true, if_false, ev_xLc, ev_iOf, sq_tup, liftI_some, sameAt_nil, hz1, and_self, if_true, key, ga, Res.thenS_ok, ev_sPass, seq_nx, ev_sSet, ev_xUn, ng, List.set_cons_zero, List.set_cons_succ,
          ev_sFor, ev_iSt, en_one, Option.map_some, e, ev_sRet, ofS_ret, Bool.true_and]
      | false =>
        have e := l2 hl
        simp only [List.cons_append, List.nil_append, ev_sSeq, ev_sIf, ev_tOrF, ev_tNotF, ev_tVal, ev_xCall, ev_aCons, ev_aNil, ev_xVar, List.getElem?_cons_zero, List.getElem?_cons_succ, Res.bind_ok, ev_xC, h3, isTp, lift_some, ev_tB, liftB_some, Bool.not_true, Bool.false_eq_true, if_false, ev_xLc, ev_iOf, sq_tup, liftI_some, sameAt_nil, hz1, and_self, if_true, key, ga, Res.thenS_ok, ev_sPass, seq_nx, ev_sSet, ev_xUn, ng, List.set_cons_zero, List.set_cons_succ,
          ev_sFor, ev_iSt, en_one, Option.map_some, e, seq_ret, ofS_ret, Bool.true_and]
  | _ =>
    simp only [List.cons_append, List.nil_append, ev_sSeq, ev_sIf, ev_tOrF, ev_tNotF, ev_tVal, ev_xCall, ev_aCons, ev_aNil, ev_xVar, List.getElem?_cons_zero, List.getElem?_cons_succ, Res.bind_ok, ev_xC, h3, isTp, lift_some, ev_tB, liftB_some, Bool.not_false, if_true, Res.thenS_ok, ev_sRet, seq_ret, ofS_ret, lotB]
def lawB (rows : List (List Int)) (w : Nat) : Bool := (rows.map fun r => ((lead r : Nat) : Int)) == setI (rows.map fun r => ((lead r : Nat) : Int)) && !decide (((w : Nat) : Int) ∈ rows.map fun r => ((lead r : Nat) : Int)) &&
  rows.all (fun r => decide (low r = r)) && rows.all fun r => (rows.filter fun s => !(ad s (lead r) == 0)).length == 1
theorem dVs_ints : ∀ ns : List Int, dVs (ns.map D.int) = some (ns.map V.int)
  | [] => rfl
  | n :: ns => by simp [dVs, dV, dVs_ints ns]
theorem inV_ints (n : Int) : ∀ ns : List Int, inV (.int n) (ns.map V.int) = decide (n ∈ ns)
  | [] => by simp [inV]
  | m :: ns => by
    have ih := inV_ints n ns
    unfold inV at ih ⊢
    rw [List.map_cons, List.any_cons, ih]
    have e : eqV (.int m) (.int n) = decide (m = n) := by
      show (m == n) = _
      rw [Bool.eq_iff_iff]
      simp
    rw [e]
    by_cases h : m = n
    · subst h; simp
    · have h2 : ¬ n = m := fun z => h z.symm
      simp [h, h2]
theorem llot_loop {st : Store} {w : Nat} {rows : List (List Int)} (hr : ∀ r ∈ rows, r.length = w) (hn : rows.length ≤ 1000) (A B C : Option D) : ∀ (ls : List Nat) (x y : Option D), (∀ l ∈ ls, l < w) →
    ∃ x', forD (gN 3) (sIf (tVal (xOp gNe (xCall gLen (aCons (xLc (iOf (xVar 0)) (gN 4) (tVal (xOp gNe (xOp gIx (xVar 4) (xVar 3)) (xC (.int 0)))) (xC (.int 1)) [4]) aNil)) (xC (.int 1)))) (sRet (xC (.bl false))) sPass) [] st (ls.map fun l => .int (l : Nat)) [some (.tup (rows.map rw)), B, C, x, y] st =
      if ls.all (fun l => (rows.filter fun s => !(ad s l == 0)).length == 1) then .nx [some (.tup (rows.map rw)), B, C, x', y] st else .ret (.bl false) st
  | [], x, y, _ => ⟨x, by simp [forD]⟩
  | l :: ls, x, y, hl => by
    obtain ⟨x', ih⟩ := llot_loop (st := st) hr hn A B C ls (some (.int (l : Nat))) y fun k hk => hl k (by simp [hk])
    have hlw := hl l (by simp)
    have key := lcD_map (g := gN 4) (t := tVal (xOp gNe (xOp gIx (xVar 4) (xVar 3)) (xC (.int 0)))) (f := xC (.int 1)) (ws := []) (st := st) (ρ := wipeD [some (.tup (rows.map rw)), B, C, some (.int (l : Nat)), y] [4]) (fun d => match d with | .tup es => !(((dInts es).getD []).getD l 0 == 0) | _ => false) (fun _ => .int 1) rfl (rows.map rw) fun d hd => by
      obtain ⟨r, hr', rfl⟩ := List.mem_map.mp hd
      have i1 : gIx st (rw r) (.int (l : Nat)) = some (.int (ad r l)) := gIx_tup _ (getD_map (by rw [hr r hr']; exact hlw))
      simp only [ad, List.getD_eq_getElem?_getD] at i1
      exact ⟨_, rfl, by simp [wipeD, i1, dInts_map], fun _ => rfl⟩
    have hz1 : rows.length ≤ sizeLine := small_len hn
    have efl : (((rows.map rw).filter fun d => match d with | .tup es => !(((dInts es).getD []).getD l 0 == 0) | _ => false).map fun _ => D.int 1).length = (rows.filter fun s => !(ad s l == 0)).length := by
      rw [List.length_map, List.filter_map, List.length_map]
      congr 1
      refine List.filter_congr fun r _ => ?_
      simp [dInts_map, ad]
    refine ⟨x', ?_⟩
    rw [List.map_cons]
    by_cases hc : (rows.filter fun s => !(ad s l == 0)).length = 1
    · rw [forD_cons_nx (ρ1 := [some (.tup (rows.map rw)), B, C, some (.int (l : Nat)), y]) (ρ2 := [some (.tup (rows.map rw)), B, C, some (.int (l : Nat)), y]) (s2 := st) (by simp) (by
        simp only [ev_sIf, ev_tVal, ev_xOp, ev_xCall, ev_aCons, ev_aNil, ev_xLc, ev_iOf, ev_xVar, List.getElem?_cons_zero, List.getElem?_cons_succ, Res.bind_ok, sq_tup, liftI_some, sameAt_nil, List.length_map, hz1, and_self, if_true, key, gLen_lst, lift_some, ev_xC, gNe_int]
        simp only [List.length_map] at efl
        rw [efl, hc]
        rfl) rfl, ih]
      have hb : ((rows.filter fun s => !(ad s l == 0)).length == 1) = true := beq_iff_eq.mpr hc
      rw [List.all_cons, hb, Bool.true_and]
    · rw [forD_cons_ret (ρ1 := [some (.tup (rows.map rw)), B, C, some (.int (l : Nat)), y]) (x := .bl false) (s2 := st) (by simp) (by
        simp only [ev_sIf, ev_tVal, ev_xOp, ev_xCall, ev_aCons, ev_aNil, ev_xLc, ev_iOf, ev_xVar, List.getElem?_cons_zero, List.getElem?_cons_succ, Res.bind_ok, sq_tup, liftI_some, sameAt_nil, List.length_map, hz1, and_self, if_true, key, gLen_lst, lift_some, ev_xC, gNe_int]
        simp only [List.length_map] at efl
        rw [efl]
        have : ((((rows.filter fun s => !(ad s l == 0)).length : Nat) : Int) == 1) = false := beq_eq_false_iff_ne.mpr fun h => hc (by omega)
        rw [this]
        rfl)]
      have : ((rows.filter fun s => !(ad s l == 0)).length == 1) = false := beq_eq_false_iff_ne.mpr hc
      rw [List.all_cons, this]
      rfl
end K12
namespace K12
open PySem PySem.Spec PyProof.Rows L2 DL
/-- what both looks ask -/
structure IsLot (w : Nat) (rows : List (List Int)) : Prop where
  nz : ∀ r ∈ rows, lead r < w
  lo : ∀ r ∈ rows, low r = r
  up : rows.Pairwise fun r s => lead r < lead s
  al : ∀ (i j : Nat) (r s : List Int), rows[i]? = some r → rows[j]? = some s → i ≠ j → ad s (lead r) = 0
theorem loopB_iff {w : Nat} {all : List (List Int)} : ∀ (rs : List (List Int)) (p : Nat) (a : Int), (∀ i r, rs[i]? = some r → all[p + i]? = some r) →
    (loopB all w p a rs = true ↔ (∀ r ∈ rs, lead r < w ∧ low r = r ∧ a < (lead r : Nat)) ∧ rs.Pairwise (fun r s => lead r < lead s) ∧ ∀ (i : Nat) (r : List Int), rs[i]? = some r → ∀ (k : Nat) (o : List Int), all[k]? = some o → k ≠ p + i → ad o (lead r) = 0)
  | [], p, a, _ => by simp [loopB]
  | r :: rs, p, a, h => by
    have ih := loopB_iff (w := w) (all := all) rs (p + 1) (lead r : Nat) fun i s hs => by
      have := h (i + 1) s (by simpa using hs)
      rw [← this]; congr 1; omega
    unfold loopB
    rw [Bool.and_eq_true, ih]
    simp only [Bool.and_eq_true, decide_eq_true_eq, Bool.not_eq_true']
    have ho : offB all p (lead r) = false ↔ ∀ (k : Nat) (o : List Int), all[k]? = some o → k ≠ p → ad o (lead r) = 0 := by
      constructor
      · intro hf k o ho hk
        refine Classical.byContradiction fun hc => ?_
        rw [offB_iff.mpr ⟨k, o, ho, hk, hc⟩] at hf
        cases hf
      · intro hf
        refine Bool.eq_false_iff.mpr fun hc => ?_
        obtain ⟨k, o, ho, hk, hn⟩ := offB_iff.mp hc
        exact hn (hf k o ho hk)
    rw [ho]
    constructor
    · rintro ⟨⟨⟨⟨h1, h2⟩, h3⟩, h4⟩, h5, h6, h7⟩
      refine ⟨fun s hs => ?_, List.pairwise_cons.mpr ⟨fun s hs => ?_, h6⟩, fun i s hs k o ho hk => ?_⟩
      · rcases List.mem_cons.mp hs with e | hs
        · rw [e]; exact ⟨h1, h3, h2⟩
        · obtain ⟨a1, a2, a3⟩ := h5 s hs
          exact ⟨a1, a2, by omega⟩
      · have := (h5 s hs).2.2; omega
      · cases i with
        | zero =>
          simp at hs
          subst hs
          exact h4 k o ho (by omega)
        | succ i => exact h7 i s (by simpa using hs) k o ho (by omega)
    · rintro ⟨h1, h2, h3⟩
      obtain ⟨p1, p2⟩ := List.pairwise_cons.mp h2
      obtain ⟨a1, a2, a3⟩ := h1 r (by simp)
      refine ⟨⟨⟨⟨a1, a3⟩, a2⟩, fun k o ho hk => h3 0 r rfl k o ho (by omega)⟩, fun s hs => ?_, p2, fun i s hs k o ho hk => h3 (i + 1) s (by simpa using hs) k o ho (by omega)⟩
      obtain ⟨b1, b2, b3⟩ := h1 s (by simp [hs])
      exact ⟨b1, b2, by have := p1 s hs; omega⟩
theorem loopB_lot {w : Nat} {rows : List (List Int)} : loopB rows w 0 (-1) rows = true ↔ IsLot w rows := by
  rw [loopB_iff rows 0 (-1) fun i r h => by simpa using h]
  constructor
  · rintro ⟨h1, h2, h3⟩
    exact ⟨fun r hr => (h1 r hr).1, fun r hr => (h1 r hr).2.1, h2, fun i j r s hi hj hne => h3 i r hi j s hj (by omega)⟩
  · intro L
    exact ⟨fun r hr => ⟨L.nz r hr, L.lo r hr, by omega⟩, L.up, fun i r hi k o ho hk => L.al i k r o hi ho (by omega)⟩
theorem count_one {w : Nat} {rows : List (List Int)} (hl : ∀ r ∈ rows, r.length = w) (hn : ∀ r ∈ rows, lead r < w) : (∀ r ∈ rows, (rows.filter fun s => !(ad s (lead r) == 0)).length = 1) ↔ ∀ (i j : Nat) (r s : List Int), rows[i]? = some r → rows[j]? = some s → i ≠ j → ad s (lead r) = 0 := by
  have own : ∀ r ∈ rows, ad r (lead r) ≠ 0 := fun r hr => lead_nz (by rw [hl r hr]; exact hn r hr)
  have gen : ∀ {α : Type} (q : α → Bool) (l : List α) (i : Nat) (x : α), l[i]? = some x → q x = true → ((l.filter q).length = 1 ↔ ∀ (j : Nat) (y : α), l[j]? = some y → j ≠ i → q y = false) := by
    intro α q l
    induction l with
    | nil => intro i x h; simp at h
    | cons z l ih =>
      intro i x h hq
      cases i with
      | zero =>
        simp at h
        subst h
        rw [List.filter_cons, if_pos hq, List.length_cons]
        constructor
        · intro h j y hj hne
          have h0 : (l.filter q).length = 0 := by omega
          have he : l.filter q = [] := List.eq_nil_of_length_eq_zero h0
          cases j with
          | zero => exact absurd rfl hne
          | succ j =>
            refine Bool.eq_false_iff.mpr fun hc => ?_
            have : y ∈ l.filter q := List.mem_filter.mpr ⟨List.mem_of_getElem? (i := j) (by simpa using hj), hc⟩
            rw [he] at this
            simp at this
        · intro h
          have : l.filter q = [] := List.filter_eq_nil_iff.mpr fun y hy => by
            obtain ⟨j, hj⟩ := List.mem_iff_getElem?.mp hy
            rw [h (j + 1) y (by simpa using hj) (by omega)]
            exact Bool.false_ne_true
          rw [this]; rfl
      | succ i =>
        have h' : l[i]? = some x := by simpa using h
        have hx : x ∈ l.filter q := List.mem_filter.mpr ⟨List.mem_of_getElem? h', hq⟩
        rw [List.filter_cons]
        cases hz : q z with
        | true =>
          rw [if_pos rfl, List.length_cons]
          constructor
          · intro hc
            have : 0 < (l.filter q).length := List.length_pos_of_mem hx
            omega
          · intro hc
            have := hc 0 z rfl (by omega)
            rw [hz] at this
            cases this
        | false =>
          rw [if_neg Bool.false_ne_true, ih i x h' hq]
          constructor
          · intro hc j y hj hne
            cases j with
            | zero => simp at hj; rw [← hj]; exact hz
            | succ j => exact hc j y (by simpa using hj) (by omega)
          · intro hc j y hj hne
            exact hc (j + 1) y (by simpa using hj) (by omega)
  constructor
  · intro h i j r s hi hj hne
    have hr : r ∈ rows := List.mem_of_getElem? hi
    have h1 := (gen (fun s => !(ad s (lead r) == 0)) rows i r hi (by simpa using own r hr)).mp (h r hr) j s hj (by omega)
    simpa using h1
  · intro h r hr
    obtain ⟨i, hi⟩ := List.mem_iff_getElem?.mp hr
    refine (gen (fun s => !(ad s (lead r) == 0)) rows i r hi (by simpa using own r hr)).mpr fun j s hj hne => ?_
    simpa using h i j r s hi hj (by omega)
theorem lawB_lot {w : Nat} {rows : List (List Int)} (hl : ∀ r ∈ rows, r.length = w) : lawB rows w = true ↔ IsLot w rows := by
  unfold lawB
  simp only [Bool.and_eq_true, beq_iff_eq, Bool.not_eq_true', decide_eq_false_iff_not, List.all_eq_true, decide_eq_true_eq]
  have srt : ((rows.map fun r => ((lead r : Nat) : Int)) = setI (rows.map fun r => ((lead r : Nat) : Int))) ↔ rows.Pairwise fun r s => lead r < lead s := by
    constructor
    · intro h
      have := setI_sorted (rows.map fun r => ((lead r : Nat) : Int))
      rw [← h] at this
      exact (List.pairwise_map.mp this).imp fun h => by omega
    · intro h
      exact strict_one (List.pairwise_map.mpr (h.imp fun h => by omega)) (setI_sorted _) fun j => (setI_mem _ j).symm
  rw [srt]
  have lw : ((w : Nat) : Int) ∉ (rows.map fun r => ((lead r : Nat) : Int)) ↔ ∀ r ∈ rows, lead r < w := by
    constructor
    · intro h r hr
      have h1 := lead_le r
      rw [hl r hr] at h1
      rcases Nat.lt_or_eq_of_le h1 with h2 | h2
      · exact h2
      · exact absurd (List.mem_map.mpr ⟨r, hr, by rw [h2]⟩) h
    · intro h hc
      obtain ⟨r, hr, e⟩ := List.mem_map.mp hc
      have := h r hr
      omega
  rw [lw]
  constructor
  · rintro ⟨⟨⟨h1, h2⟩, h3⟩, h4⟩
    exact ⟨h2, h3, h1, (count_one hl h2).mp h4⟩
  · intro L
    exact ⟨⟨⟨L.up, L.nz⟩, L.lo⟩, (count_one hl L.nz).mpr L.al⟩
theorem same_look {w : Nat} {rows : List (List Int)} (hl : ∀ r ∈ rows, r.length = w) : lawB rows w = loopB rows w 0 (-1) rows := by
  rw [Bool.eq_iff_iff, lawB_lot hl, loopB_lot]
theorem llot_ok {st : Store} {w : Nat} {v : D} (hw : w ≤ 200) (h : FineV st v) : F__law_is_lot [v, .int (w : Nat)] st = .ok (.bl (lotB w v)) st := by
  refine runP_ok ?_ (by simp)
  obtain ⟨_, _, h3⟩ := isi_int h.kn
  have e0 : List.replicate (5 - (0 + 1 + 1)) (none : Option D) = [none, none, none] := rfl
  simp only [b__law_is_lot, DL.start]
  simp only [List.map_cons, List.map_nil, List.length_cons, List.length_nil, e0]
  cases v with
  | tup ds =>
    obtain ⟨hk, hf, hs⟩ := h.it ds rfl
    have hz1 : ds.length ≤ sizeLine := small_len (by omega)
    have key := lcD_map (g := gN 4) (t := tNotF (tVal (xApply F__law_is_row (aCons (xVar 4) (aCons (xVar 1) aNil))))) (f := xC (.int 1)) (ws := []) (st := st) (ρ := wipeD [some (.tup ds), some (.int (w : Nat)), none, none, none] [4]) (fun d => !isRow (w : Nat) d) (fun _ => .int 1) rfl ds fun d hd =>
      ⟨_, rfl, by simp [wipeD, lrow_ok (w : Nat) (hf d hd)], fun _ => rfl⟩
    have gn := gNe_ones (st := st) (ds.filter fun d => !isRow (w : Nat) d)
    simp only [lotB]
    cases hall : ds.all (isRow (w : Nat)) with
    | false =>
      have he : (ds.filter fun d => !isRow (w : Nat) d).isEmpty = false := by
        rw [Bool.eq_false_iff]
        intro hc
        rw [List.isEmpty_iff, List.filter_eq_nil_iff] at hc
        rw [Bool.eq_false_iff] at hall
        exact hall (List.all_eq_true.mpr fun d hd => by have := hc d hd; simpa using this)
      rw [he] at gn
      simp only [List.cons_append, List.nil_append, ev_sSeq, ev_sIf, ev_tOrF, ev_tNotF, ev_tVal, ev_xCall, ev_aCons, ev_aNil, ev_xVar, List.getElem?_cons_zero, List.getElem?_cons_succ, Res.bind_ok, ev_xC, h3, isTp, lift_some, ev_tB, liftB_some, Bool.not_true, Bool.false_eq_true, if_false, ev_xOp, ev_xLc, ev_iOf, sq_tup, liftI_some, sameAt_nil, hz1, and_self, if_true, key, ev_xLst, gn, Bool.not_false, Res.thenS_ok, ev_sRet, seq_ret, ofS_ret, Bool.false_and]
    | true =>
      have he : (ds.filter fun d => !isRow (w : Nat) d).isEmpty = true := by
        rw [List.isEmpty_iff, List.filter_eq_nil_iff]
        intro d hd
        have := List.all_eq_true.mp hall d hd
        simp [this]
      rw [he] at gn
      obtain ⟨rows, rfl, hr⟩ := rows_of hall
      rw [rowsD_map, ← same_look hr]
      have hk' : rows.length < 60 := by simpa using hk
      have k2 := lcD_all (g := gN 4) (f := xApply F__law_lead (aCons (xVar 4) aNil)) (ws := []) (st := st) (ρ := wipeD [some (.tup (rows.map rw)), some (.int (w : Nat)), none, none, none] [4]) (fun d => match d with | .tup es => .int (lead ((dInts es).getD []) : Nat) | d => d) rfl (rows.map rw) fun d hd => by
        obtain ⟨r, hr', rfl⟩ := List.mem_map.mp hd
        exact ⟨_, rfl, by simp [wipeD, llead_ok (st := st) (xs := r) (by have := hr r hr'; omega), dInts_map]⟩
      have e2 : (rows.map rw).map (fun d => match d with | .tup es => D.int (lead ((dInts es).getD []) : Nat) | d => d) = (rows.map fun r => ((lead r : Nat) : Int)).map D.int := by
        rw [List.map_map, List.map_map]
        refine List.map_congr_left fun r _ => ?_
        simp [dInts_map]
      rw [e2] at k2
      have gs : gSrtSet st (.lst ((rows.map fun r => ((lead r : Nat) : Int)).map D.int)) = some (.lst ((setI (rows.map fun r => ((lead r : Nat) : Int))).map D.int)) := by
        unfold gSrtSet
        simp only [sq_lst, Option.bind_some, dInts_map]
        rw [if_pos (by simp; omega)]
      have gi : gIn st (.int (w : Nat)) (.lst ((rows.map fun r => ((lead r : Nat) : Int)).map D.int)) = some (.bl (decide (((w : Nat) : Int) ∈ rows.map fun r => ((lead r : Nat) : Int)))) := by
        show ((dV (.int (w : Nat))).bind fun x => (seqV st (.lst ((rows.map fun r => ((lead r : Nat) : Int)).map D.int))).bind fun ds => (dVs ds).map fun xs => D.bl (if false = true then !inV x xs else inV x xs)) = _
        simp only [dV, seqV, lstV, Option.bind_some, dVs_ints, Option.map_some, Bool.false_eq_true, if_false, inV_ints]
      have k3 := lcD_map (g := gN 4) (t := tVal (xOp gNe (xApply F__law_lowest (aCons (xVar 4) aNil)) (xVar 4))) (f := xC (.int 1)) (ws := []) (st := st) (ρ := wipeD [some (.tup (rows.map rw)), some (.int (w : Nat)), some (.lst ((rows.map fun r => ((lead r : Nat) : Int)).map D.int)), none, none] [4])
        (fun d => match d with | .tup es => !(low ((dInts es).getD []) == (dInts es).getD []) | _ => false) (fun _ => .int 1) rfl (rows.map rw) fun d hd => by
          obtain ⟨r, hr', rfl⟩ := List.mem_map.mp hd
          have q := llow_ok (st := st) (xs := r) (hs _ hd) (by have := hr r hr'; omega)
          exact ⟨_, rfl, by simp [wipeD, q, dInts_map], fun _ => rfl⟩
      have gn3 := gNe_ones (st := st) ((rows.map rw).filter fun d => match d with | .tup es => !(low ((dInts es).getD []) == (dInts es).getD []) | _ => false)
      have he3 : ((rows.map rw).filter fun d => match d with | .tup es => !(low ((dInts es).getD []) == (dInts es).getD []) | _ => false).isEmpty = rows.all fun r => decide (low r = r) := by
        rw [Bool.eq_iff_iff, List.isEmpty_iff, List.filter_eq_nil_iff, List.all_eq_true]
        constructor
        · intro hc r hr'
          have := hc (rw r) (List.mem_map.mpr ⟨r, hr', rfl⟩)
          simpa [dInts_map] using this
        · intro hc d hd
          obtain ⟨r, hr', rfl⟩ := List.mem_map.mp hd
          have := hc r hr'
          simp only [decide_eq_true_eq] at this
          simp [dInts_map, this]
      rw [he3] at gn3
      have hz2 : rows.length ≤ sizeLine := small_len (by omega)
      unfold lawB
      by_cases c1 : (rows.map fun r => ((lead r : Nat) : Int)) = setI (rows.map fun r => ((lead r : Nat) : Int))
      · have g1 : gNe st (.lst ((rows.map fun r => ((lead r : Nat) : Int)).map D.int)) (.lst ((setI (rows.map fun r => ((lead r : Nat) : Int))).map D.int)) = some (.bl false) := by rw [gNe_lstI, beq_iff_eq.mpr c1]; rfl
        by_cases c2 : ((w : Nat) : Int) ∈ rows.map fun r => ((lead r : Nat) : Int)
        · rw [decide_eq_true c2] at gi ⊢
          simp only [List.cons_append, List.nil_append, ev_sSeq, ev_sIf, ev_tOrF, ev_tNotF, ev_tVal, ev_xCall, ev_aCons, ev_aNil, ev_xVar, List.getElem?_cons_zero, List.getElem?_cons_succ, Res.bind_ok, ev_xC, h3, isTp, lift_some, ev_tB, liftB_some, Bool.not_true, Bool.false_eq_true, if_false, ev_xOp, ev_xLc, ev_iOf, sq_tup, liftI_some, sameAt_nil, hz1, and_self, if_true, key, ev_xLst, gn, Res.thenS_ok, ev_sPass, seq_nx, ev_sSet, List.set_cons_zero, List.set_cons_succ, k2, ev_xSrtSet, gs, g1, gi, ev_sRet, seq_ret, ofS_ret, Bool.and_false, Bool.false_and]
        · rw [decide_eq_false c2] at gi ⊢
          cases c3 : rows.all fun r => decide (low r = r) with
          | false =>
            rw [c3] at gn3
            simp only [List.cons_append, List.nil_append, ev_sSeq, ev_sIf, ev_tOrF, ev_tNotF, ev_tVal, ev_xCall, ev_aCons, ev_aNil, ev_xVar, List.getElem?_cons_zero, List.getElem?_cons_succ, Res.bind_ok, ev_xC, h3, isTp, lift_some, ev_tB, liftB_some, Bool.not_true, Bool.not_false, Bool.false_eq_true, if_false, ev_xOp, ev_xLc, ev_iOf, sq_tup, liftI_some, sameAt_nil, hz1, and_self, if_true, key, ev_xLst, gn, Res.thenS_ok, ev_sPass, seq_nx, ev_sSet, List.set_cons_zero, List.set_cons_succ, k2, ev_xSrtSet, gs, g1, gi, k3, gn3, ev_sRet, seq_ret, ofS_ret, Bool.and_false, Bool.false_and]
          | true =>
            rw [c3] at gn3
            have hnz : ∀ r ∈ rows, lead r < w := fun r hr' => by
              have h1 := lead_le r
              rw [hr r hr'] at h1
              rcases Nat.lt_or_eq_of_le h1 with h2 | h2
              · exact h2
              · exact absurd (List.mem_map.mpr ⟨r, hr', by rw [h2]⟩) c2
            obtain ⟨x', lp⟩ := llot_loop (st := st) (w := w) (rows := rows) hr (by omega) none (some (.int (w : Nat))) (some (.lst ((rows.map fun r => ((lead r : Nat) : Int)).map D.int))) (rows.map lead) none none fun l hl => by
              obtain ⟨r, hr', rfl⟩ := List.mem_map.mp hl
              exact hnz r hr'
            have e5 : (rows.map lead).map (fun l => D.int (l : Nat)) = (rows.map fun r => ((lead r : Nat) : Int)).map D.int := by rw [List.map_map, List.map_map]; rfl
            rw [e5, List.all_map] at lp
            have e6 : (rows.all ((fun l => (rows.filter fun s => !(ad s l == 0)).length == 1) ∘ lead)) = rows.all fun r => (rows.filter fun s => !(ad s (lead r) == 0)).length == 1 := rfl
            rw [e6] at lp
            cases c4 : rows.all fun r => (rows.filter fun s => !(ad s (lead r) == 0)).length == 1 with
            | true =>
              rw [c4, if_pos rfl] at lp
              simp only [List.cons_append, List.nil_append, ev_sSeq, ev_sIf, ev_tOrF, ev_tNotF, ev_tVal, ev_xCall, ev_aCons, ev_aNil, ev_xVar, List.getElem?_cons_zero, List.getElem?_cons_succ, Res.bind_ok, ev_xC, h3, isTp, lift_some, ev_tB, liftB_some, Bool.not_true, Bool.not_false, Bool.false_eq_true, if_false, ev_xOp, ev_xLc, ev_iOf, sq_tup, sq_lst, liftI_some, sameAt_nil, hz1, and_self, if_true, key, ev_xLst, gn, Res.thenS_ok, ev_sPass, seq_nx, ev_sSet, List.set_cons_zero, List.set_cons_succ, k2, ev_xSrtSet, gs, g1, gi, k3, gn3, ev_sFor, lp, ev_sRet, seq_ret, ofS_ret, Bool.and_true, Bool.and_self]
              rw [beq_iff_eq.mpr c1]; rfl
            | false =>
              rw [c4, if_neg Bool.false_ne_true] at lp
              simp only [List.cons_append, List.nil_append, ev_sSeq, ev_sIf, ev_tOrF, ev_tNotF, ev_tVal, ev_xCall, ev_aCons, ev_aNil, ev_xVar, List.getElem?_cons_zero, List.getElem?_cons_succ, Res.bind_ok, ev_xC, h3, isTp, lift_some, ev_tB, liftB_some, Bool.not_true, Bool.not_false, Bool.false_eq_true, if_false, ev_xOp, ev_xLc, ev_iOf, sq_tup, sq_lst, liftI_some, sameAt_nil, hz1, and_self, if_true, key, ev_xLst, gn, Res.thenS_ok, ev_sPass, seq_nx, ev_sSet, List.set_cons_zero, List.set_cons_succ, k2, ev_xSrtSet, gs, g1, gi, k3, gn3, ev_sFor, lp, ev_sRet, seq_ret, ofS_ret, Bool.and_false]
      · have g1 : gNe st (.lst ((rows.map fun r => ((lead r : Nat) : Int)).map D.int)) (.lst ((setI (rows.map fun r => ((lead r : Nat) : Int))).map D.int)) = some (.bl true) := by rw [gNe_lstI, beq_eq_false_iff_ne.mpr c1]; rfl
        rw [beq_eq_false_iff_ne.mpr c1]
        simp only [List.cons_append, List.nil_append, ev_sSeq, ev_sIf, ev_tOrF, ev_tNotF, ev_tVal, ev_xCall, ev_aCons, ev_aNil, ev_xVar, List.getElem?_cons_zero, List.getElem?_cons_succ, Res.bind_ok, ev_xC, h3, isTp, lift_some, ev_tB, liftB_some, Bool.not_true, Bool.false_eq_true, if_false, ev_xOp, ev_xLc, ev_iOf, sq_tup, liftI_some, sameAt_nil, hz1, and_self, if_true, key, ev_xLst, gn, Res.thenS_ok, ev_sPass, seq_nx, ev_sSet, List.set_cons_zero, List.set_cons_succ, k2, ev_xSrtSet, gs, g1, ev_sRet, seq_ret, ofS_ret, Bool.false_and, Bool.and_false]
  | _ =>
    simp only [List.cons_append, List.nil_append, ev_sSeq, ev_sIf, ev_tOrF, ev_tNotF, ev_tVal, ev_xCall, ev_aCons, ev_aNil, ev_xVar, List.getElem?_cons_zero, List.getElem?_cons_succ, Res.bind_ok, ev_xC, h3, isTp, lift_some, ev_tB, liftB_some, Bool.not_false, if_true, Res.thenS_ok, ev_sRet, seq_ret, ofS_ret, lotB]
end K12
namespace K12
open PySem PySem.Spec PyProof.Rows L2 DL
abbrev Tri := Int × Int × Int
def Dc (t : Tri) : Cell := .lst [.int t.1, .int t.2.1, .int t.2.2]
structure Gd (n : Nat) (t : Tri) : Prop where
  g0 : 0 ≤ t.1
  g1 : t.1 < 2 ^ 1100
  s0 : 0 ≤ t.2.1
  s1 : t.2.1 < 2 ^ 200
  c0 : 0 ≤ t.2.2
  c1 : t.2.2 ≤ n
theorem Gd.mono {m n : Nat} {t : Tri} (h : Gd m t) (hmn : m ≤ n) : Gd n t := ⟨h.g0, h.g1, h.s0, h.s1, h.c0, Int.le_trans h.c1 (by omega)⟩
/-- a store with a place for dice -/
structure Dst (st : Store) (l : Nat) : Prop where
  lt : l < st.length
  be : ∀ t m, Store.below m (st.set l (Dc t)) = true
theorem nat_lt {i : Int} {n : Nat} (h0 : 0 ≤ i) (h : i < 2 ^ n) : i.natAbs < 2 ^ n := by
  have e : ((2 ^ n : Nat) : Int) = 2 ^ n := by simp
  omega
theorem fmod_pos {a k : Int} (hk : 0 < k) : 0 ≤ a.fmod k ∧ a.fmod k < k := ⟨Int.fmod_nonneg_of_pos a hk, Int.fmod_lt_of_pos a hk⟩
theorem fdiv_bd {a k : Int} (ha : 0 ≤ a) (hk : 0 < k) : 0 ≤ a.fdiv k ∧ a.fdiv k ≤ a := by
  rw [Int.fdiv_eq_ediv_of_nonneg _ (by omega)]
  exact ⟨Int.ediv_nonneg ha (by omega), Int.ediv_le_self _ ha⟩
theorem roll_ok {st : Store} {l n : Nat} {t : Tri} {k : Int} (S : Dst st l) (G : Gd n t) (hn : n < 2 ^ 60) (hk : 0 < k) (hk2 : k < 2 ^ 60) :
    ∃ v t', F__law_roll [.loc l, .int k] (st.set l (Dc t)) = .ok (.int v) (st.set l (Dc t')) ∧ 0 ≤ v ∧ v < k ∧ Gd (n + 1) t' := by
  obtain ⟨g, s, c⟩ := t
  have hg0 : (0 : Int) ≤ g := G.g0
  have hs0 : (0 : Int) ≤ s := G.s0
  have hc0 : (0 : Int) ≤ c := G.c0
  have hc1 : c ≤ n := G.c1
  have hs1 : s < 2 ^ 200 := G.s1
  have hl : ∀ d : Cell, (st.set l d)[l]? = some d := fun d => by simp [S.lt]
  have ix : ∀ (d : Tri) (i : Nat) (x : D), ([D.int d.1, .int d.2.1, .int d.2.2])[i]? = some x → gIx (st.set l (Dc d)) (.loc l) (.int (i : Nat)) = some x := fun d i x h => gIx_loc (hl _) h
  have x0 : gIx (st.set l (Dc (g, s, c))) (.loc l) (.int 0) = some (.int g) := ix (g, s, c) 0 _ rfl
  have x2 : gIx (st.set l (Dc (g, s, c))) (.loc l) (.int 2) = some (.int c) := ix (g, s, c) 2 _ rfl
  have hk9 : k.natAbs.log2 < 9000 := log_lt (Nat.lt_trans (nat_lt (by omega) hk2) (by decide)) (by decide)
  have e0 : List.replicate (5 - (0 + 1 + 1)) (none : Option D) = [none, none, none] := rfl
  have put : ∀ (d d' : Tri) (i : Nat) (x : D), ([D.int d.1, .int d.2.1, .int d.2.2]).set i x = [.int d'.1, .int d'.2.1, .int d'.2.2] → i < 3 → putL (st.set l (Dc d)) (.loc l) (.int (i : Nat)) x = some (st.set l (Dc d')) := fun d d' i x h hi => by
    unfold putL
    simp only [hl, Dc]
    have e : ixN ([D.int d.1, .int d.2.1, .int d.2.2]).length (i : Nat) = some i := by
      unfold ixN
      rw [if_pos (by omega), if_pos (by simp; omega)]
      simp
    rw [e, Option.map_some, h, List.set_set]
  by_cases hg : g > 0
  · refine ⟨g.fmod k, (g.fdiv k, s, c), runP_below (s2 := []) ?_ (by simp) (by rw [List.length_set]; exact S.be _ _) (by simp), (fmod_pos hk).1, (fmod_pos hk).2, ?_⟩
    · have p1 : putL (st.set l (Dc (g, s, c))) (.loc l) (.int 0) (.int (g.fdiv k)) = some (st.set l (Dc (g.fdiv k, s, c))) := put (g, s, c) (g.fdiv k, s, c) 0 _ rfl (by decide)
      have m1 : gMod (st.set l (Dc (g, s, c))) (.int g) (.int k) = some (.int (g.fmod k)) := gMod_int (by omega)
      have m2 : gFdiv (st.set l (Dc (g, s, c))) (.int g) (.int k) = some (.int (g.fdiv k)) := gFdiv_int (by omega) hk9
      have dg : decide (g > 0) = true := decide_eq_true hg
      simp only [b__law_roll, DL.start]
      simp only [List.map_cons, List.map_nil, List.length_cons, List.length_nil, e0]
      simp only [List.cons_append, List.nil_append, ev_sSeq, ev_sIf, ev_tVal, ev_xOp, ev_xVar, List.getElem?_cons_zero, List.getElem?_cons_succ, Res.bind_ok, ev_xC, x0, lift_some, gGt_int, dg, ev_tB, liftB_some, Res.thenS_ok, if_true, ev_sSet, m1, List.set_cons_zero, List.set_cons_succ, seq_nx, ev_sPut, m2, p1, ev_sRet, ev_xCall, ev_aCons, ev_aNil, gInt_int, seq_ret, ofS_ret, List.append_nil]
    · obtain ⟨f0, f1⟩ := fdiv_bd hg0 hk
      exact ⟨f0, Int.lt_of_le_of_lt f1 G.g1, G.s0, G.s1, G.c0, by show c ≤ ((n + 1 : Nat) : Int); omega⟩
  · have dg : decide (g > 0) = false := decide_eq_false hg
    have x1 : gIx (st.set l (Dc (g, s, c + 1))) (.loc l) (.int 1) = some (.int s) := ix (g, s, c + 1) 1 _ rfl
    have x2' : gIx (st.set l (Dc (g, s, c + 1))) (.loc l) (.int 2) = some (.int (c + 1)) := ix (g, s, c + 1) 2 _ rfl
    have p1 : putL (st.set l (Dc (g, s, c))) (.loc l) (.int 2) (.int (c + 1)) = some (st.set l (Dc (g, s, c + 1))) := put (g, s, c) (g, s, c + 1) 2 _ rfl (by decide)
    have hcb : (c + 1).natAbs < 2 ^ 61 := by
      have : (2 : Int) ^ 60 = 1152921504606846976 := by decide
      have : (2 : Nat) ^ 60 = 1152921504606846976 := by decide
      have : (2 : Nat) ^ 61 = 2305843009213693952 := by decide
      omega
    have a1 : gMulT (st.set l (Dc (g, s, c + 1))) (.int 49979687) (.int (c + 1)) = some (.int (49979687 * (c + 1))) := gMul_int (mul_room (m := 64) (by decide) hcb (by decide) (by decide) (by decide))
    have a2 : gMod (st.set l (Dc (g, s, c + 1))) (.int (s + 49979687 * (c + 1))) (.int 2305843009213693951) = some (.int ((s + 49979687 * (c + 1)).fmod 2305843009213693951)) := gMod_int (by decide)
    generalize hone : (s + 49979687 * (c + 1)).fmod 2305843009213693951 = one at a2
    have ho := fmod_pos (a := s + 49979687 * (c + 1)) (k := 2305843009213693951) (by decide)
    rw [hone] at ho
    have hob : one.natAbs < 2 ^ 61 := by
      have : (2 : Nat) ^ 61 = 2305843009213693952 := by decide
      omega
    have a3 : gMulT (st.set l (Dc (g, s, c + 1))) (.int one) (.int one) = some (.int (one * one)) := gMul_int (mul_room hob hob (by decide) (by decide) (by decide))
    have a4 : gMulT (st.set l (Dc (g, s, c + 1))) (.int 131) (.int (c + 1)) = some (.int (131 * (c + 1))) := gMul_int (mul_room (m := 64) (by decide) hcb (by decide) (by decide) (by decide))
    have a5 : gMod (st.set l (Dc (g, s, c + 1))) (.int (one * one + 131 * (c + 1))) (.int 2305843009213693921) = some (.int ((one * one + 131 * (c + 1)).fmod 2305843009213693921)) := gMod_int (by decide)
    generalize htwo : (one * one + 131 * (c + 1)).fmod 2305843009213693921 = two at a5
    have ht := fmod_pos (a := one * one + 131 * (c + 1)) (k := 2305843009213693921) (by decide)
    rw [htwo] at ht
    have htb : two.natAbs < 2 ^ 61 := by
      have : (2 : Nat) ^ 61 = 2305843009213693952 := by decide
      omega
    have a6 : gMulT (st.set l (Dc (g, s, c + 1))) (.int two) (.int 32452843) = some (.int (two * 32452843)) := gMul_int (mul_room (n := 64) htb (by decide) (by decide) (by decide) (by decide))
    have a7 : gFdiv (st.set l (Dc (g, s, c + 1))) (.int (two * 32452843 + one)) (.int 65587) = some (.int ((two * 32452843 + one).fdiv 65587)) := gFdiv_int (by decide) (by decide)
    have a8 : gMod (st.set l (Dc (g, s, c + 1))) (.int ((two * 32452843 + one).fdiv 65587)) (.int k) = some (.int (((two * 32452843 + one).fdiv 65587).fmod k)) := gMod_int (by omega)
    refine ⟨((two * 32452843 + one).fdiv 65587).fmod k, (g, s, c + 1), runP_below (s2 := []) ?_ (by simp) (by rw [List.length_set]; exact S.be _ _) (by simp), (fmod_pos hk).1, (fmod_pos hk).2, ?_⟩
    · simp only [b__law_roll, DL.start]
      simp only [List.map_cons, List.map_nil, List.length_cons, List.length_nil, e0]
      simp only [List.cons_append, List.nil_append, ev_sSeq, ev_sIf, ev_tVal, ev_xOp, ev_xVar, List.getElem?_cons_zero, List.getElem?_cons_succ, Res.bind_ok, ev_xC, x0, lift_some, gGt_int, dg, ev_tB, liftB_some, Res.thenS_ok, Bool.false_eq_true, if_false, ev_sPass, seq_nx, ev_sPut, x2, gAdd_int, p1, ev_sSet, x1, x2', a1, a2, List.set_cons_zero, List.set_cons_succ, a3, a4, a5, a6, a7, a8,
        ev_sRet, ev_xCall, ev_aCons, ev_aNil, gInt_int, ofS_ret, List.append_nil]
    · exact ⟨G.g0, G.g1, G.s0, G.s1, by show 0 ≤ c + 1; omega, by show c + 1 ≤ ((n + 1 : Nat) : Int); omega⟩
theorem pick_ok {st : Store} {l n : Nat} {t : Tri} {items : List D} (S : Dst st l) (G : Gd n t) (hn : n < 2 ^ 60) (h0 : 0 < items.length) (h1 : items.length < 1000) (hu : ∀ x ∈ items, D.und st.length x = true) :
    ∃ x t', F__law_pick [.loc l, .lst items] (st.set l (Dc t)) = .ok x (st.set l (Dc t')) ∧ x ∈ items ∧ Gd (n + 1) t' := by
  obtain ⟨v, t', e, v0, v1, G'⟩ := roll_ok (k := (items.length : Nat)) S G hn (by omega) (by
    have : (2 : Int) ^ 60 = 1152921504606846976 := by decide
    omega)
  have hv : v.toNat < items.length := by omega
  have hx : items[v.toNat]? = some items[v.toNat] := List.getElem?_eq_getElem hv
  refine ⟨items[v.toNat], t', runP_below (s2 := []) ?_ (by simp) (by rw [List.length_set]; exact S.be _ _) (by rw [List.length_set]; exact hu _ (List.getElem_mem hv)), List.getElem_mem hv, G'⟩
  have ix : gIx (st.set l (Dc t')) (.lst items) (.int v) = some items[v.toNat] := by
    have := gIx_lst (st := st.set l (Dc t')) items hx
    rwa [Int.toNat_of_nonneg v0] at this
  have e0 : List.replicate (2 - (0 + 1 + 1)) (none : Option D) = [] := rfl
  simp only [b__law_pick, DL.start]
  simp only [List.map_cons, List.map_nil, List.length_cons, List.length_nil, e0]
  simp only [List.append_nil, ev_sRet, ev_xOp, ev_xVar, List.getElem?_cons_zero, List.getElem?_cons_succ, Res.bind_ok, ev_xApply, ev_aCons, ev_xCall, ev_aNil, gLen_lst, lift_some, e, ix, Res.thenS_ok, ofS_ret]
theorem pow_ev {i : Int} {j : Nat} (s : Store) (h : ((Builtin.Int.intBits i : Int) * (j : Nat) ≤ 2 ^ 27)) : gPow s (.int i) (.int (j : Nat)) = some (.int (i ^ j)) := by
  unfold gPow gII
  simp only
  rw [if_pos (by simpa using h)]
  rfl
theorem op_fe (g : G2) (a b : D) (ρ : DEnv) (s : Store) (d : D) (h : g s a b = some d) : xOp g (xC a) (xC b) ρ s = .ok d s := by
  rw [ev_xOp, ev_xC, Res.bind_ok, ev_xC, Res.bind_ok, h, lift_some]
theorem room30 : ((Builtin.Int.intBits 10 : Int) * (30 : Nat) ≤ 2 ^ 27) := by decide +kernel
set_option maxRecDepth 512 in
theorem pow30 (s : Store) : gPow s (.int 10) (.int 30) = some (.int (10 ^ 30)) := pow_ev (i := 10) (j := 30) _ room30
set_option maxRecDepth 512 in
theorem pow_fe (ρ : DEnv) (s : Store) : xOp gPow (xC (.int 10)) (xC (.int 30)) ρ s = .ok (.int (10 ^ 30)) s := op_fe gPow _ _ ρ s _ (pow30 s)
theorem fi_rng {g : List D → Option (List D × List Nat)} {fa : Fa} {ρ : DEnv} {s s' : Store} {ds : List D} {p : List D × List Nat} (h : fa ρ s = .ok ds s') (hr : g ds = some p) : iRng g fa ρ s = .ok p s' := by
  rw [ev_iRng, h, Res.bind_ok, hr, liftI_some]
theorem drawn_body {s0 s1 : Store} {w l : Nat} {ys items : List D} {G : Int} {fp f : Fe} {fi : Fi} (hfp : ∀ ρ s, fp ρ s = .ok (.int G) s) (hr : fi [some (.loc l), some (.int (w : Nat)), some (.int G), none] s0 = .ok (items, []) s0) (hz : items.length ≤ sizeLine)
    (hlc : lcD (gN 3) tAll f [] s0 (wipeD [some (.loc l), some (.int (w : Nat)), some (.int G), none] [3]) items s0 = .ok ys s1) :
    ofS (sSeq (sSet 2 fp) (sRet (xCall gTupleOf (aCons (xLc fi (gN 3) tAll f [3]) aNil))) [some (.loc l), some (.int (w : Nat)), none, none] s0) = .ok (.tup ys) s1 := by
  simp only [ev_sSeq, ev_sSet, hfp, Res.thenS_ok, List.set_cons_zero, List.set_cons_succ, seq_nx, ev_sRet, ev_xCall, ev_aCons, ev_aNil, ev_xLc, Res.bind_ok, lift_some, hr, sameAt_nil, hz, and_self, if_true, hlc, gTupleOf_lst, ofS_ret]
theorem drawn_ok {st : Store} {l n w : Nat} {t : Tri} (S : Dst st l) (G : Gd n t) (hn : n + w < 2 ^ 60) (hw : w ≤ 200) :
    ∃ xs t', F__law_drawn [.loc l, .int (w : Nat)] (st.set l (Dc t)) = .ok (rw xs) (st.set l (Dc t')) ∧ xs.length = w ∧ Sm 101 xs ∧ Gd (n + w) t' := by
  have e0 : List.replicate (4 - (0 + 1 + 1)) (none : Option D) = [none, none] := rfl
  have hr : rng1 [.int (w : Nat)] = some (rngI 0 w, []) := by
    unfold rng1
    simp only
    rw [if_pos (by
      have : (2 : Int) ^ 62 = 4611686018427387904 := by decide
      omega)]
    simp
  have hrl : (rngI 0 w).length = w := by simp [rngI]
  obtain ⟨ys, s', hlc, hlen, ⟨t', rfl, G'⟩, hP⟩ := lcD_inv (g := gN 3) (ws := []) (s0 := st.set l (Dc t)) (ρ := wipeD [some (.loc l), some (.int (w : Nat)), some (.int (10 ^ 30)), none] [3])
    (f := xApply F__law_pick (aCons (xVar 0) (aCons (xLst (aCons (xC (.int 0)) (aCons (xC (.int 0)) (aCons (xC (.int 1)) (aCons (xUn gNeg (xC (.int 1))) (aCons (xC (.int 6)) (aCons (xUn gNeg (xC (.int 4))) (aCons (xC (.int 12)) (aCons (xOp gAdd (xVar 2) (xC (.int 1))) (aCons (xOp gSub (xC (.int 0)) (xVar 2)) aNil)))))))))) aNil)))
    (fun j s => ∃ t', s = st.set l (Dc t') ∧ Gd (n + j) t') (fun x => ∃ i : Int, x = .int i ∧ i.natAbs < 2 ^ 101) (rngI 0 w) 0 (st.set l (Dc t)) ⟨t, rfl, G⟩ (by
      rintro j d s hd ⟨t1, rfl, G1⟩
      have hjw : j < w := by
        have := (List.getElem?_eq_some_iff.mp hd).1
        rwa [hrl] at this
      obtain ⟨x, t2, e, hx, G2⟩ := pick_ok (items := [.int 0, .int 0, .int 1, .int (-1), .int 6, .int (-4), .int 12, .int (10 ^ 30 + 1), .int (0 - 10 ^ 30)]) S (n := n + j) (t := t1) (by simpa using G1) (by omega) (by simp) (by simp) (by simp)
      refine ⟨_, x, st.set l (Dc t2), rfl, ?_, rfl, ⟨t2, rfl, by simpa [Nat.add_assoc] using G2⟩, ?_⟩
      · have n1 : ∀ s, gNeg s (.int 1) = some (.int (-1)) := fun _ => rfl
        have n4 : ∀ s, gNeg s (.int 4) = some (.int (-4)) := fun _ => rfl
        simp only [wipeD, ev_xApply, ev_aCons, ev_aNil, ev_xVar, ev_xLst, ev_xC, ev_xUn, ev_xOp, n1, n4, gAdd_int, gSub_int, lift_some, Res.bind_ok, List.set_cons_zero, List.set_cons_succ, List.getElem?_cons_zero, List.getElem?_cons_succ, e]
      · simp only [List.mem_cons, List.not_mem_nil, or_false] at hx
        rcases hx with rfl | rfl | rfl | rfl | rfl | rfl | rfl | rfl | rfl <;> exact ⟨_, rfl, by decide +kernel⟩)
  have hxsI : ∃ xs : List Int, ys = xs.map D.int ∧ Sm 101 xs := by
    clear hlc hlen
    induction ys with
    | nil => exact ⟨[], rfl, fun x hx => by simp at hx⟩
    | cons y ys ih =>
      obtain ⟨i, rfl, hi⟩ := hP y (by simp)
      obtain ⟨xs, rfl, hxs⟩ := ih fun z hz => hP z (by simp [hz])
      refine ⟨i :: xs, rfl, fun x hx => ?_⟩
      rcases List.mem_cons.mp hx with e | hx
      · rw [e]; exact hi
      · exact hxs x hx
  obtain ⟨xs, rfl, hxs⟩ := hxsI
  rw [hrl] at hlen G'
  refine ⟨xs, t', runP_below (s2 := []) ?_ (by simp) (by rw [List.length_set]; exact S.be _ _) (by simp), by simpa using hlen, hxs, by simpa using G'⟩
  have hz : (rngI 0 w).length ≤ sizeLine := by rw [hrl]; exact small_len (by omega)
  rw [List.append_nil]
  exact drawn_body pow_fe (fi_rng (ds := [.int (w : Nat)]) (by simp) hr) hz hlc
end K12
namespace K12
open PySem PySem.Spec PyProof.Rows L2 DL
theorem op_fes (g : G2) {fa fb : Fe} {a b : D} (ha : ∀ ρ s, fa ρ s = .ok a s) (hb : ∀ ρ s, fb ρ s = .ok b s) {d : D} (h : ∀ s, g s a b = some d) (ρ : DEnv) (s : Store) : xOp g fa fb ρ s = .ok d s := by
  rw [ev_xOp, ha, Res.bind_ok, hb, Res.bind_ok, h, lift_some]
theorem room53 : ((Builtin.Int.intBits 10 : Int) * (53 : Nat) ≤ 2 ^ 27) := by decide +kernel
theorem room16 : ((Builtin.Int.intBits 10 : Int) * (16 : Nat) ≤ 2 ^ 27) := by decide +kernel
theorem room6 : ((Builtin.Int.intBits (10 ^ 53) : Int) * (6 : Nat) ≤ 2 ^ 27) := by decide +kernel
set_option maxRecDepth 512 in
theorem pow53 (s : Store) : gPow s (.int 10) (.int 53) = some (.int (10 ^ 53)) := pow_ev (i := 10) (j := 53) _ room53
set_option maxRecDepth 512 in
theorem pow16 (s : Store) : gPow s (.int 10) (.int 16) = some (.int (10 ^ 16)) := pow_ev (i := 10) (j := 16) _ room16
set_option maxRecDepth 512 in
theorem pow6 (s : Store) : gPow s (.int (10 ^ 53)) (.int 6) = some (.int ((10 ^ 53) ^ 6)) := pow_ev (i := 10 ^ 53) (j := 6) _ room6
theorem fe53 : ∀ (ρ : DEnv) (s : Store), xOp gPow (xOp gPow (xC (.int 10)) (xC (.int 53))) (xC (.int 6)) ρ s = .ok (.int ((10 ^ 53) ^ 6)) s := op_fes gPow (op_fes gPow (fun _ _ => rfl) (fun _ _ => rfl) pow53) (fun _ _ => rfl) pow6
theorem fe16 : ∀ (ρ : DEnv) (s : Store), xOp gPow (xC (.int 10)) (xC (.int 16)) ρ s = .ok (.int (10 ^ 16)) s := op_fes gPow (fun _ _ => rfl) (fun _ _ => rfl) pow16
theorem dice_body {st : Store} {scr : D} {k : Nat} {cell M T : Int} {fc fM fT : Fe} (hk : k < 2 ^ 20) (hc : ∀ a b c, fc [some scr, some (.int (k : Nat)), a, b, c] st = .ok (.int cell) st) (hM : ∀ ρ s, fM ρ s = .ok (.int M) s) (hT : ∀ ρ s, fT ρ s = .ok (.int T) s) (h0 : 0 < M) (h1 : M < 2 ^ 1100) (hT0 : 0 ≤ T) :
    ∃ t, ofS (sSeq (sSet 2 fc) (sSeq (sSet 3 (xOp gMod (xCall gInt (aCons (xCall gAbs (aCons (xVar 2) aNil)) aNil)) fM)) (sSeq (sSet 4 (xOp gAdd (xOp gAdd (xOp gAdd (xOp gMulT (xOp gMod (xVar 3) (xC (.int 2305843009213693907))) (xC (.int 73))) (xOp gMulT (xC (.int 619)) (xVar 1))) (xOp gMulT (xC (.int 41)) (xCall gInt (aCons (xOp gLt (xVar 2) (xC (.int 0))) aNil)))) (xC (.int 17))))
      (sRet (xNew (aCons (xCall gMax (aCons (xC (.int 0)) (aCons (xOp gSub (xVar 3) fT) aNil))) (aCons (xVar 4) (aCons (xC (.int 0)) aNil)))))))
      [some scr, some (.int (k : Nat)), none, none, none] st) = .ok (.loc st.length) (st ++ [Dc t]) ∧ Gd 0 t := by
  have hg := fmod_pos (a := (cell.natAbs : Int)) h0
  generalize hgr : ((cell.natAbs : Nat) : Int).fmod M = great at hg
  have hs := fmod_pos (a := great) (k := 2305843009213693907) (by decide)
  have g1 : gMod st (.int (cell.natAbs : Nat)) (.int M) = some (.int great) := by rw [gMod_int (by omega), hgr]
  have g2 : gMod st (.int great) (.int 2305843009213693907) = some (.int (great.fmod 2305843009213693907)) := gMod_int (by decide)
  generalize great.fmod 2305843009213693907 = sd at hs g2
  have hsb : sd.natAbs < 2 ^ 61 := by
    have : (2 : Nat) ^ 61 = 2305843009213693952 := by decide
    omega
  have g3 : gMulT st (.int sd) (.int 73) = some (.int (sd * 73)) := gMul_int (mul_room (n := 64) hsb (by decide) (by decide) (by decide) (by decide))
  have hkb : ((k : Nat) : Int).natAbs < 2 ^ 20 := by simpa using hk
  have g4 : gMulT st (.int 619) (.int (k : Nat)) = some (.int (619 * (k : Nat))) := gMul_int (mul_room (m := 64) (by decide) hkb (by decide) (by decide) (by decide))
  have hb : ∀ b : Bool, (if b then (1 : Int) else 0).natAbs < 2 ^ 2 := by decide
  have g5 : ∀ b : Bool, gMulT st (.int 41) (.int (if b then 1 else 0)) = some (.int (41 * (if b then 1 else 0))) := fun b => gMul_int (mul_room (m := 64) (by decide) (hb b) (by decide) (by decide) (by decide))
  have hb2 : ∀ b : Bool, 0 ≤ (if b then (1 : Int) else 0) ∧ (if b then (1 : Int) else 0) ≤ 1 := by decide
  refine ⟨(if great - T > 0 then great - T else 0, sd * 73 + 619 * (k : Nat) + 41 * (if decide (cell < 0) then 1 else 0) + 17, 0), ?_, ?_⟩
  · simp only [ev_sSeq, ev_sSet, hc, Res.thenS_ok, List.set_cons_zero, List.set_cons_succ, seq_nx, ev_xOp, ev_xCall, ev_aCons, ev_aNil, ev_xVar, List.getElem?_cons_zero, List.getElem?_cons_succ, Res.bind_ok, gAbs_int, lift_some, gInt_int, hM, g1, ev_xC, g2, g3, g4, gAdd_int, gLt_int, gInt_bl, g5, ev_sRet, ev_xNew, hT, gSub_int, gMax_two, ofS_ret, Dc]
  · have hh := hb2 (decide (cell < 0))
    generalize (if decide (cell < 0) = true then (1 : Int) else 0) = bb at hh
    have k20 : (2 : Nat) ^ 20 = 1048576 := by decide
    refine ⟨?_, ?_, ?_, ?_, Int.le_refl _, Int.le_refl _⟩
    · show 0 ≤ (if great - T > 0 then great - T else 0)
      split <;> omega
    · show (if great - T > 0 then great - T else 0) < 2 ^ 1100
      refine Int.lt_of_le_of_lt ?_ h1
      split <;> omega
    · show 0 ≤ sd * 73 + 619 * (k : Nat) + 41 * bb + 17
      omega
    · show sd * 73 + 619 * (k : Nat) + 41 * bb + 17 < 2 ^ 200
      have h : sd * 73 + 619 * (k : Nat) + 41 * bb + 17 < 2 ^ 80 := by
        have : (2 : Int) ^ 80 = 1208925819614629174706176 := by decide
        omega
      have h2 : (2 : Int) ^ 80 ≤ 2 ^ 200 := by decide +kernel
      omega
theorem big53 : (0 : Int) < (10 ^ 53) ^ 6 := by decide +kernel
theorem big53b : ((10 : Int) ^ 53) ^ 6 < 2 ^ 1100 := by decide +kernel
theorem big16 : (0 : Int) ≤ 10 ^ 16 := by decide +kernel
theorem dice_ok {st : Store} {ns : List Int} {k : Nat} (hk : k < 2 ^ 20) : ∃ t, F__law_dice [.rol (ns.map D.int), .int (k : Nat)] st = .ok (.loc st.length) (st ++ [Dc t]) ∧ Gd 0 t := by
  have hkb : ((k : Nat) : Int).natAbs < 2 ^ 20 := by simpa using hk
  have g1 : gMulT st (.int 131) (.int (k : Nat)) = some (.int (131 * (k : Nat))) := gMul_int (mul_room (m := 64) (by decide) hkb (by decide) (by decide) (by decide))
  have hc : ∃ cell : Int, ∀ a b c, xIf (tVal (xOp gLt (xVar 1) (xCall gLen (aCons (xVar 0) aNil)))) (xCall gInt (aCons (xOp gIx (xVar 0) (xVar 1)) aNil)) (xOp gAdd (xOp gMulT (xC (.int 131)) (xVar 1)) (xC (.int 37))) [some (.rol (ns.map D.int)), some (.int (k : Nat)), a, b, c] st = .ok (.int cell) st := by
    by_cases h : k < ns.length
    · refine ⟨ns[k], fun a b c => ?_⟩
      have ix : gIx st (.rol (ns.map D.int)) (.int (k : Nat)) = some (.int ns[k]) := gIx_rol _ (by simp [h])
      have hd : decide (((k : Nat) : Int) < ((ns.map D.int).length : Nat)) = true := decide_eq_true (by simp; omega)
      simp only [ev_xIf, ev_tVal, ev_xOp, ev_xVar, List.getElem?_cons_zero, List.getElem?_cons_succ, Res.bind_ok, ev_xCall, ev_aCons, ev_aNil, gLen_rol, lift_some, gLt_int, hd, ev_tB, liftB_some, if_true, ix, gInt_int]
    · refine ⟨131 * (k : Nat) + 37, fun a b c => ?_⟩
      have hd : decide (((k : Nat) : Int) < ((ns.map D.int).length : Nat)) = false := decide_eq_false (by simp; omega)
      simp only [ev_xIf, ev_tVal, ev_xOp, ev_xVar, List.getElem?_cons_zero, List.getElem?_cons_succ, Res.bind_ok, ev_xCall, ev_aCons, ev_aNil, gLen_rol, lift_some, gLt_int, hd, ev_tB, liftB_some, Bool.false_eq_true, if_false, ev_xC, g1, gAdd_int]
  obtain ⟨cell, hc⟩ := hc
  obtain ⟨t, h, G⟩ := dice_body (st := st) (scr := .rol (ns.map D.int)) hk hc fe53 fe16 big53 big53b big16
  exact ⟨t, h, G⟩
structure Iok (d : D) : Prop where
  fi : ∀ st, fine st d = true
  un : ∀ n, D.und n d = true
  sm : ∀ r : List Int, d = rw r → Sm 9000 r
structure Vok (d : D) : Prop where
  fv : ∀ st, FineV st d
  un : ∀ n, D.und n d = true
theorem vok_flat {d : D} (hk : ∀ st, known st d = true) (ht : ∀ ds, d ≠ .tup ds) (hu : ∀ n, D.und n d = true) : Vok d := ⟨fun st => ⟨hk st, fun ds e => absurd e (ht ds)⟩, hu⟩
theorem vok_tup {ds : List D} (hl : ds.length < 60) (h : ∀ d ∈ ds, Iok d) : Vok (.tup ds) :=
  ⟨fun st => ⟨rfl, fun es e => by cases e; exact ⟨hl, fun d hd => (h d hd).fi st, fun r hr => (h _ hr).sm r rfl⟩⟩, fun n => by rw [und_tup]; exact undL_all.mpr fun d hd => (h d hd).un n⟩
theorem vok_lst {ds : List D} (h : ∀ d ∈ ds, ∀ n, D.und n d = true) : Vok (.lst ds) := vok_flat (fun _ => rfl) (fun _ e => nomatch e) fun n => by rw [und_lst]; exact undL_all.mpr fun d hd => h d hd n
theorem iok_rw {r : List Int} (h : Sm 9000 r) (hl : r.length ≤ 1000) : Iok (rw r) := ⟨fun st => fine_rw hl, fun n => by simp, fun s e => by
  have : s = r := by
    injection e with e
    exact (List.map_inj_right fun a b h => by injection h).mp e.symm
  rw [this]; exact h⟩
theorem iok_flat {d : D} (hk : ∀ st, known st d = true) (ht : ∀ ds, d ≠ .tup ds) (hu : ∀ n, D.und n d = true) : Iok d := ⟨fun st => by
  cases d with
  | tup ds => exact absurd rfl (ht ds)
  | _ => exact hk st, hu, fun r e => absurd e (ht _)⟩
theorem iok_tup {ds : List D} (hl : ds.length ≤ 1000) (hk : ∀ d ∈ ds, ∀ st, known st d = true) (hu : ∀ d ∈ ds, ∀ n, D.und n d = true) (hs : ∀ r : List Int, ds = r.map D.int → Sm 9000 r) : Iok (.tup ds) :=
  ⟨fun st => by simp only [fine, Bool.and_eq_true, List.all_eq_true, decide_eq_true_eq]; exact ⟨fun d hd => hk d hd st, hl⟩, fun n => by rw [und_tup]; exact undL_all.mpr fun d hd => hu d hd n, fun r e => hs r (by injection e)⟩
theorem gAdd_tup {st : Store} {x y : List D} (h : x.length + y.length ≤ 1000) : gAdd st (.tup x) (.tup y) = some (.tup (x ++ y)) := by
  show (if _ then _ else _) = _
  rw [if_pos (small_len h)]
theorem gSl_tup {st : Store} (x : List D) (lo hi : Option Int) : gSl st (.tup x) lo hi = some (.tup (DL.cutD x lo hi)) := rfl
theorem cut_mem {α : Type} {x : List α} {lo hi : Option Int} {d : α} (h : d ∈ DL.cutD x lo hi) : d ∈ x := List.mem_of_mem_drop (List.mem_of_mem_take h)
theorem cut_len {α : Type} (x : List α) (lo hi : Option Int) : (DL.cutD x lo hi).length ≤ x.length := by
  unfold DL.cutD
  rw [List.length_take, List.length_drop]
  omega
theorem cut_map {α β : Type} (f : α → β) (x : List α) (lo hi : Option Int) : DL.cutD (x.map f) lo hi = (DL.cutD x lo hi).map f := by
  unfold DL.cutD
  rw [List.length_map, List.map_take, List.map_drop]
theorem gBack_tup {st : Store} (x : List D) : gBack st (.tup x) = some (.tup x.reverse) := rfl
theorem gMul_noughts {st : Store} {w : Nat} (h1 : 1 ≤ w) (h2 : w ≤ 200) : gMulT st (.tup [.int 0]) (.int (w : Nat)) = some (rw (List.replicate w 0)) := by
  by_cases e : w = 1
  · subst e; rfl
  · have hf : ∀ n : Nat, (List.replicate n [D.int 0]).flatten = (List.replicate n (0 : Int)).map D.int := fun n => by
      induction n with
      | zero => rfl
      | succ n ih => rw [List.replicate_succ, List.flatten_cons, ih, List.replicate_succ]; rfl
    show (if ([D.int 0] : List D) = [] then none else if ((w : Nat) : Int) = 1 then some (D.tup [.int 0]) else if ((w : Nat) : Int) ≤ 0 then (if -(2 ^ 63) ≤ ((w : Nat) : Int) then some (D.tup []) else none) else gMul st (.tup [.int 0]) (.int (w : Nat))) = _
    rw [if_neg (by simp), if_neg (by omega), if_neg (by omega)]
    show (if 2 ≤ ((w : Nat) : Int) ∧ ((w : Nat) : Int) ≤ 1000 ∧ ([D.int 0] : List D) ≠ [] ∧ ([D.int 0] : List D).length ≤ 1000 then some (D.tup (List.replicate ((w : Nat) : Int).toNat [D.int 0]).flatten) else none) = _
    rw [if_pos ⟨by omega, by omega, by simp, by simp⟩, Int.toNat_natCast, hf]
end K12
namespace K12
open PySem PySem.Spec PyProof.Rows L2 DL
theorem runP_loc {N : Nat} {b : Fs} {ds : List D} {st s1 s2 : Store} {k : Nat} {vs : List D} (h : ofS (b (DL.start N ds) st) = .ok (.loc k) (s1 ++ s2)) (hl : s1.length = st.length) (hb : Store.below st.length s1 = true) (hk : st.length ≤ k) (hv : (s1 ++ s2)[k]? = some (.lst vs)) (hu : D.undL st.length vs = true) : runP N b ds st = .ok (.lst vs) s1 := by
  unfold runP runD
  rw [h]
  unfold pureR
  have e : (s1 ++ s2).take st.length = s1 := by rw [← hl]; simp
  have hd : D.und st.length (.loc k) = false := by simp [D.und]; omega
  simp [e, hb, frz, hd, hv, hu]
def near1 (rows : List (List Int)) (r : List Int) : List D :=
  [.tup (rows.map rw), .lst (rows.map rw), .tup (rows.map rw).reverse, .tup (rows.map rw ++ DL.cutD (rows.map rw) none (some 1)), .tup (rows.map rw ++ [rw r]), .tup [rw r], .tup [], .tup [rw (low r)], .non, .int 0, .tup [.tup []], .tup [.non]]
def near2 (w : Nat) (rows : List (List Int)) (r : List Int) : List D :=
  [.tup (rows.map rw ++ [rw (List.replicate w 0)]), .tup [.tup (r.map D.int ++ [.int 0])], .tup (rows.map fun line => rw (line.map fun x => 0 - x))]
theorem rows_iok {w n : Nat} {rows : List (List Int)} (L : LotOk w n rows) (hn : n ≤ 9000) (hw : w ≤ 200) : ∀ d ∈ rows.map rw, Iok d := fun d hd => by
  obtain ⟨r, hr, rfl⟩ := List.mem_map.mp hd
  exact iok_rw (fun x hx => Nat.lt_of_lt_of_le (L.sm r hr x hx) (two_pow_le hn)) (by rw [L.len r hr]; omega)
theorem near_vok {w : Nat} {rows : List (List Int)} {r : List Int} (L : LotOk w 1631 rows) (hw : w ≤ 200) (hk : rows.length ≤ 3) (hr : r.length = w) (hs : Sm 101 r) : ∀ v ∈ near1 rows r ++ near2 w rows r, Vok v := by
  have io := rows_iok L (by decide) hw
  have ir : Iok (rw r) := iok_rw (fun x hx => Nat.lt_of_lt_of_le (hs x hx) (two_pow_le (by decide))) (by omega)
  have il : Iok (rw (low r)) := iok_rw (fun x hx => Nat.lt_of_lt_of_le (low_small hs x hx) (two_pow_le (by decide))) (by rw [low_len]; omega)
  have ll : (rows.map rw).length ≤ 3 := by simpa using hk
  have in0 : Iok .non := iok_flat (fun _ => rfl) (fun _ e => nomatch e) (by simp)
  intro v hv
  simp only [near1, near2, List.cons_append, List.nil_append, List.mem_cons, List.not_mem_nil, or_false] at hv
  rcases hv with rfl | rfl | rfl | rfl | rfl | rfl | rfl | rfl | rfl | rfl | rfl | rfl | rfl | rfl | rfl
  · exact vok_tup (by omega) io
  · exact vok_lst fun d hd => (io d hd).un
  · exact vok_tup (by rw [List.length_reverse]; omega) fun d hd => io d (List.mem_reverse.mp hd)
  · refine vok_tup (by have := cut_len (rows.map rw) none (some 1); rw [List.length_append]; omega) fun d hd => ?_
    rcases List.mem_append.mp hd with h | h
    · exact io d h
    · exact io d (cut_mem h)
  · refine vok_tup (by rw [List.length_append]; simp only [List.length_singleton]; omega) fun d hd => ?_
    rcases List.mem_append.mp hd with h | h
    · exact io d h
    · rw [List.mem_singleton.mp h]; exact ir
  · exact vok_tup (by simp) fun d hd => by rw [List.mem_singleton.mp hd]; exact ir
  · exact vok_tup (by simp) fun d hd => by simp at hd
  · exact vok_tup (by simp) fun d hd => by rw [List.mem_singleton.mp hd]; exact il
  · exact vok_flat (fun _ => rfl) (fun _ e => nomatch e) (by simp)
  · exact vok_flat (fun _ => rfl) (fun _ e => nomatch e) (by simp)
  · exact vok_tup (by simp) fun d hd => by rw [List.mem_singleton.mp hd]; exact iok_rw (r := []) (fun x hx => by simp at hx) (by simp)
  · exact vok_tup (by simp) fun d hd => by rw [List.mem_singleton.mp hd]; exact in0
  · refine vok_tup (by rw [List.length_append]; simp only [List.length_singleton]; omega) fun d hd => ?_
    rcases List.mem_append.mp hd with h | h
    · exact io d h
    · rw [List.mem_singleton.mp h]
      exact iok_rw (fun x hx => by rw [(List.mem_replicate.mp hx).2]; exact Nat.two_pow_pos _) (by simp; omega)
  · refine vok_tup (by simp) fun d hd => ?_
    rw [List.mem_singleton.mp hd]
    have e : r.map D.int ++ [D.int 0] = (r ++ [0]).map D.int := by simp
    rw [e]
    refine iok_rw (fun x hx => ?_) (by simp; omega)
    rcases List.mem_append.mp hx with h | h
    · exact Nat.lt_of_lt_of_le (hs x h) (two_pow_le (by decide))
    · rw [List.mem_singleton.mp h]; exact Nat.two_pow_pos _
  · refine vok_tup (by simp; omega) fun d hd => ?_
    obtain ⟨line, hl, rfl⟩ := List.mem_map.mp hd
    refine iok_rw (fun x hx => ?_) (by rw [List.length_map, L.len line hl]; omega)
    obtain ⟨y, hy, rfl⟩ := List.mem_map.mp hx
    have := L.sm line hl y hy
    have h2 : (0 - y).natAbs = y.natAbs := by omega
    rw [h2]
    exact Nat.lt_of_lt_of_le this (two_pow_le (by decide))
theorem neg_ok {s : Store} {w : Nat} {rows : List (List Int)} (hl : ∀ r ∈ rows, r.length = w) (hw : w ≤ 200) (a b c d e f g h : Option D) :
    lcD (gN 7) tAll (xCall gTupleOf (aCons (xLc (iOf (xVar 7)) (gN 8) tAll (xOp gSub (xC (.int 0)) (xVar 8)) [8]) aNil)) [] s (wipeD [a, b, c, d, e, f, g, h, none] [7]) (rows.map rw) s = .ok (rows.map fun line => rw (line.map fun x => 0 - x)) s := by
  have k := lcD_all (g := gN 7) (f := xCall gTupleOf (aCons (xLc (iOf (xVar 7)) (gN 8) tAll (xOp gSub (xC (.int 0)) (xVar 8)) [8]) aNil)) (ws := []) (st := s) (ρ := wipeD [a, b, c, d, e, f, g, h, none] [7]) (fun d => match d with | .tup ds => rw (((dInts ds).getD []).map fun x => 0 - x) | d => d) rfl (rows.map rw) fun x hx => by
    obtain ⟨line, hl', rfl⟩ := List.mem_map.mp hx
    refine ⟨_, rfl, ?_⟩
    have k2 := lcD_all (g := gN 8) (f := xOp gSub (xC (.int 0)) (xVar 8)) (ws := []) (st := s) (ρ := [a, b, c, d, e, f, g, some (rw line), none]) (fun d => match d with | .int i => .int (0 - i) | d => d) rfl (line.map D.int) fun y hy => by
      obtain ⟨i, hi, rfl⟩ := List.mem_map.mp hy
      exact ⟨_, rfl, by simp⟩
    have e2 : (line.map D.int).map (fun d => match d with | .int i => D.int (0 - i) | d => d) = (line.map fun x => 0 - x).map D.int := by rw [List.map_map, List.map_map]; rfl
    rw [e2] at k2
    have hz : line.length ≤ sizeLine := small_len (by rw [hl line hl']; omega)
    simp only [wipeD, List.set_cons_zero, List.set_cons_succ, ev_xCall, ev_aCons, ev_aNil, ev_xLc, ev_iOf, ev_xVar, List.getElem?_cons_zero, List.getElem?_cons_succ, Res.bind_ok, sq_tup, liftI_some, sameAt_nil, List.length_map, hz, and_self, if_true, k2, gTupleOf_lst, lift_some, dInts_map, Option.getD_some]
  have e2 : (rows.map rw).map (fun d => match d with | .tup ds => rw (((dInts ds).getD []).map fun x => 0 - x) | d => d) = rows.map fun line => rw (line.map fun x => 0 - x) := by
    rw [List.map_map]
    refine List.map_congr_left fun line _ => ?_
    simp only [Function.comp, dInts_map, Option.getD_some]
  rw [e2] at k
  exact k
end K12
namespace K12
open PySem PySem.Spec PyProof.Rows L2 DL
theorem bindK {α β : Type} (a : α) (st : Store) (k : α → Store → Res β) : (Res.ok a st).bind k = k a st := id rfl
theorem thenK {α : Type} (a : α) (st : Store) (ρ : DEnv) (k : α → Store → SRes) : (Res.ok a st).thenS ρ k = k a st := id rfl
theorem toPyL_rows : ∀ rows : List (List Int), toPyL (rows.map rw) = some (rows.map fun r => PyData.tuple (r.map PyData.int))
  | [] => rfl
  | r :: rows => by simp [toPyL, toPy, toPyL_ints, toPyL_rows rows]
theorem lay_rows : ∀ rows : List (List Int), PyData.canLayAll0 (rows.map fun r => PyData.tuple (r.map PyData.int)) = true
  | [] => rfl
  | r :: rows => by simp [PyData.canLayAll0, PyData.canLay0, lay_ints, lay_rows rows]
theorem depth_rows : ∀ rows : List (List Int), PyData.depthAll (rows.map fun r => PyData.tuple (r.map PyData.int)) ≤ 1
  | [] => Nat.zero_le _
  | r :: rows => by
    have := depth_rows rows
    simp only [List.map_cons, PyData.depthAll, PyData.depth, depth_ints]
    omega
theorem pyOf_rows {st : Store} (rows : List (List Int)) : pyOf st (.tup (rows.map rw)) = some (.tuple (rows.map fun r => PyData.tuple (r.map PyData.int))) := by
  have h := depth_rows rows
  have h2 : PyData.depthAll (rows.map fun r => PyData.tuple (r.map PyData.int)) ≤ 63 := by omega
  simp [pyOf, toPyT, toPy, toPyL_rows, SeqAt.shaped, PyData.canLay0, PyData.depth, lay_rows, h2]
theorem gNe_rows {st : Store} (rows : List (List Int)) : gNe st (.tup (rows.map rw)) (.tup []) = some (.bl (!rows.isEmpty)) := by
  show ((pyOf st (.tup (rows.map rw))).bind fun p => (pyOf st (.tup [])).map fun q => D.bl (!PyData.eqv p q)) = _
  rw [pyOf_rows, pyOf_tup0]
  cases rows <;> rfl
theorem below_append (a b : Store) (n : Nat) : Store.below n (a ++ b) = (Store.below n a && Store.below n b) := by
  induction a with
  | nil => simp [Store.below]
  | cons c a ih => simp [Store.below, ih, Bool.and_assoc]
theorem Dst.more {st ex : Store} {l : Nat} (S : Dst st l) (he : ∀ n, Store.below n ex = true) : Dst (st ++ ex) l := by
  refine ⟨by rw [List.length_append]; have := S.lt; omega, fun t m => ?_⟩
  rw [List.set_append_left _ _ S.lt, below_append, S.be, he]
  rfl
theorem set_more {st ex : Store} {l : Nat} (S : Dst st l) (c : Cell) : (st ++ ex).set l c = st.set l c ++ ex := List.set_append_left _ _ S.lt
theorem below_vals {vs : List D} (h : ∀ v ∈ vs, ∀ n, D.und n v = true) (n : Nat) : Store.below n [.lst vs] = true := by
  simp only [Store.below, Cell.below, Bool.and_true]
  exact undL_all.mpr fun v hv => h v hv n
/-- the values so far, ahead of the last ones -/
theorem near_start {st : Store} {l n w : Nat} {t : Tri} {rows : List (List Int)} (S : Dst st l) (G : Gd n t) (hn : n + 300 < 2 ^ 60) (hw : 1 ≤ w ∧ w ≤ 200) (L : LotOk w 1631 rows) (hk : rows.length ≤ 3) (rest : Fs) :
    ∃ r t1, r.length = w ∧ Sm 101 r ∧ Gd (n + w) t1 ∧ sSeq (sSet 3 (xApply F__law_drawn (aCons (xVar 0) (aCons (xVar 1) aNil)))) (sSeq (sSet 4 (xNew (aCons (xVar 2) (aCons (xCall gListOf (aCons (xVar 2) aNil)) (aCons (xBack (xVar 2)) (aCons (xOp gAdd (xVar 2) (xSl gSl (xVar 2) oNone (oSome (xC (.int 1))))) (aCons (xOp gAdd (xVar 2) (xTup (aCons (xVar 3) aNil))) (aCons (xTup (aCons (xVar 3) aNil)) (aCons (xTup aNil) (aCons (xTup (aCons (xApply F__law_lowest (aCons (xVar 3) aNil)) aNil)) (aCons (xC .non) (aCons (xC (.int 0)) (aCons (xTup (aCons (xTup aNil) aNil)) (aCons (xTup (aCons (xC .non) aNil)) aNil))))))))))))))
      (sSeq (sSet 4 (xOpN gAddL (xVar 4) (xLst (aCons (xOp gAdd (xVar 2) (xTup (aCons (xOp gMulT (xTup (aCons (xC (.int 0)) aNil)) (xVar 1)) aNil))) (aCons (xTup (aCons (xOp gAdd (xVar 3) (xTup (aCons (xC (.int 0)) aNil))) aNil)) (aCons (xCall gTupleOf (aCons (xLc (iOf (xVar 2)) (gN 7) tAll (xCall gTupleOf (aCons (xLc (iOf (xVar 7)) (gN 8) tAll (xOp gSub (xC (.int 0)) (xVar 8)) [8]) aNil)) [7]) aNil)) aNil)))))) rest))
      [some (.loc l), some (.int (w : Nat)), some (.tup (rows.map rw)), none, none, none, none, none, none] (st.set l (Dc t)) =
      rest [some (.loc l), some (.int (w : Nat)), some (.tup (rows.map rw)), some (rw r), some (.loc (st.length + 1)), none, none, none, none] (st.set l (Dc t1) ++ [.lst (near1 rows r), .lst (near1 rows r ++ near2 w rows r)]) := by
  obtain ⟨r, t1, e, hr, hs, G1⟩ := drawn_ok (w := w) S G (by omega) (by omega)
  refine ⟨r, t1, hr, hs, G1, ?_⟩
  have lw := llow_ok (st := st.set l (Dc t1)) (xs := r) (fun x hx => Nat.lt_of_lt_of_le (hs x hx) (two_pow_le (by decide))) (by omega)
  have hlr : (rows.map rw).length ≤ 3 := by simpa using hk
  have c1 : (DL.cutD (rows.map rw) none (some 1)).length ≤ 3 := Nat.le_trans (cut_len _ _ _) hlr
  have a1 : ∀ s, gAdd s (.tup (rows.map rw)) (.tup (DL.cutD (rows.map rw) none (some 1))) = some (.tup (rows.map rw ++ DL.cutD (rows.map rw) none (some 1))) := fun s => gAdd_tup (by omega)
  have a2 : ∀ s d, gAdd s (.tup (rows.map rw)) (.tup [d]) = some (.tup (rows.map rw ++ [d])) := fun s d => gAdd_tup (by simp; omega)
  have a3 : ∀ s, gAdd s (rw r) (.tup [.int 0]) = some (.tup (r.map D.int ++ [.int 0])) := fun s => gAdd_tup (by simp; omega)
  have m0 : ∀ s, gMulT s (.tup [.int 0]) (.int (w : Nat)) = some (rw (List.replicate w 0)) := fun s => gMul_noughts hw.1 hw.2
  have len1 : (st.set l (Dc t1)).length = st.length := List.length_set
  have len2 : (st.set l (Dc t1) ++ [Cell.lst (near1 rows r)]).length = st.length + 1 := by rw [List.length_append, len1]; rfl
  have hz : rows.length ≤ sizeLine := small_len (by omega)
  have nk := neg_ok (s := st.set l (Dc t1) ++ [.lst (near1 rows r)]) L.len hw.2 (some (.loc l)) (some (.int (w : Nat))) (some (.tup (rows.map rw))) (some (rw r)) (some (.loc st.length)) none none none
  have gl : gAddL (st.set l (Dc t1) ++ [.lst (near1 rows r)]) (.loc st.length) (.lst (near2 w rows r)) = some (near1 rows r ++ near2 w rows r) := by
    unfold gAddL
    have h1 : lstM (st.set l (Dc t1) ++ [.lst (near1 rows r)]) (.loc st.length) = some (near1 rows r) := by
      simp only [lstM]
      rw [List.getElem?_append_right (by rw [len1]; exact Nat.le_refl _), len1, Nat.sub_self]
      rfl
    rw [h1]
    show (if (near1 rows r).length + (near2 w rows r).length ≤ sizeLine then some (near1 rows r ++ near2 w rows r) else none) = _
    rw [if_pos (small_len (by simp [near1, near2]))]
  have e1 : xNew (aCons (xVar 2) (aCons (xCall gListOf (aCons (xVar 2) aNil)) (aCons (xBack (xVar 2)) (aCons (xOp gAdd (xVar 2) (xSl gSl (xVar 2) oNone (oSome (xC (.int 1))))) (aCons (xOp gAdd (xVar 2) (xTup (aCons (xVar 3) aNil))) (aCons (xTup (aCons (xVar 3) aNil)) (aCons (xTup aNil) (aCons (xTup (aCons (xApply F__law_lowest (aCons (xVar 3) aNil)) aNil)) (aCons (xC .non) (aCons (xC (.int 0)) (aCons (xTup (aCons (xTup aNil) aNil)) (aCons (xTup (aCons (xC .non) aNil)) aNil))))))))))))
      [some (.loc l), some (.int (w : Nat)), some (.tup (rows.map rw)), some (rw r), none, none, none, none, none] (st.set l (Dc t1)) = .ok (.loc st.length) (st.set l (Dc t1) ++ [.lst (near1 rows r)]) := by
    simp only [ev_xNew, ev_aCons, ev_aNil, ev_xVar, List.getElem?_cons_zero, List.getElem?_cons_succ, Res.bind_ok, ev_xCall, gListOf_tup, lift_some, ev_xBack, gBack_tup, ev_xOp, ev_xSl, ev_oNone, ev_oSome, ev_xC, gSl_tup, a1, ev_xTup, a2, ev_xApply, lw, len1, near1]
  have e2 : xOpN gAddL (xVar 4) (xLst (aCons (xOp gAdd (xVar 2) (xTup (aCons (xOp gMulT (xTup (aCons (xC (.int 0)) aNil)) (xVar 1)) aNil))) (aCons (xTup (aCons (xOp gAdd (xVar 3) (xTup (aCons (xC (.int 0)) aNil))) aNil)) (aCons (xCall gTupleOf (aCons (xLc (iOf (xVar 2)) (gN 7) tAll (xCall gTupleOf (aCons (xLc (iOf (xVar 7)) (gN 8) tAll (xOp gSub (xC (.int 0)) (xVar 8)) [8]) aNil)) [7]) aNil)) aNil))))
      [some (.loc l), some (.int (w : Nat)), some (.tup (rows.map rw)), some (rw r), some (.loc st.length), none, none, none, none] (st.set l (Dc t1) ++ [.lst (near1 rows r)]) = .ok (.loc (st.length + 1)) (st.set l (Dc t1) ++ [.lst (near1 rows r)] ++ [.lst (near1 rows r ++ near2 w rows r)]) := by
    have gl' := gl
    unfold near2 at gl'
    unfold near2
    simp only [ev_xOpN, ev_xLst, ev_aCons, ev_aNil, ev_xVar, List.getElem?_cons_zero, List.getElem?_cons_succ, Res.bind_ok, ev_xCall, lift_some, ev_xOp, ev_xC, ev_xTup, m0, a2, a3, ev_xLc, ev_iOf, sq_tup, liftI_some, sameAt_nil, List.length_map, hz, and_self, if_true, nk, gTupleOf_lst, gl', placeO_some, len2]
  simp only [ev_sSeq, ev_sSet, ev_xApply, ev_aCons, ev_aNil, ev_xVar, List.getElem?_cons_zero, List.getElem?_cons_succ, bindK, e, thenK, List.set_cons_zero, List.set_cons_succ, seq_nx, e1, e2, List.append_assoc, List.cons_append, List.nil_append]
end K12
namespace K12
open PySem PySem.Spec PyProof.Rows L2 DL
theorem app_ok {ρ : DEnv} {s : Store} {L : Nat} {vs : List D} {v : D} {fo fe : Fe} (h1 : fo ρ s = .ok (.loc L) s) (h2 : s[L]? = some (.lst vs)) (h3 : fe ρ s = .ok v s) (hz : vs.length < 1000) : sDrop (xApp fo fe) ρ s = .nx ρ (s.set L (.lst (vs ++ [v]))) := by
  have hz2 : vs.length < sizeLine := by rw [sizeLine_eq]; omega
  rw [ev_sDrop, ev_xApp, h1]
  simp only [bindK, h2, h3, hz2, if_true, thenK]
/-- the pieces of a lot and a line at which something is changed -/
structure Spot (w : Nat) (rows : List (List Int)) (at_ sp : Nat) (ln : List Int) : Prop where
  ha : rows[at_]? = some ln
  hs : sp < w
  hl : ln.length = w
def cA (rows : List (List Int)) (k : Nat) : List D := DL.cutD (rows.map rw) none (some (k : Nat))
def cB (rows : List (List Int)) (k : Nat) : List D := DL.cutD (rows.map rw) (some ((k : Nat) + 1)) none
def lA (ln : List Int) (k : Nat) : List Int := DL.cutD ln none (some (k : Nat))
def lB (ln : List Int) (k : Nat) : List Int := DL.cutD ln (some ((k : Nat) + 1)) none
def bent (x : Int) : D := if x = 0 ∨ x = 1 then .bl (x == 1) else .int x
def near3 (rows : List (List Int)) (k sp : Nat) (ln : List Int) : List D :=
  [.tup (cA rows k ++ [rw (lA ln sp ++ [ad ln sp + 1] ++ lB ln sp)] ++ cB rows k), .tup (cA rows k ++ [rw (ln.map fun x => 2 * x)] ++ cB rows k), .tup (cA rows k ++ [.lst (ln.map D.int)] ++ cB rows k),
    .tup (cA rows k ++ [.tup (ln.map bent)] ++ cB rows k), .tup (cA rows k ++ cB rows k)]
theorem near3_vok {w : Nat} {rows : List (List Int)} {k sp : Nat} {ln : List Int} (L : LotOk w 1631 rows) (hw : w ≤ 200) (hk : rows.length ≤ 3) (P : Spot w rows k sp ln) : ∀ v ∈ near3 rows k sp ln, Vok v := by
  have io := rows_iok L (by decide) hw
  have sl := L.sm ln (List.mem_of_getElem? P.ha)
  have la : (cA rows k).length ≤ 3 := Nat.le_trans (cut_len _ _ _) (by simpa using hk)
  have lb : (cB rows k).length ≤ 3 := Nat.le_trans (cut_len _ _ _) (by simpa using hk)
  have ia : ∀ d ∈ cA rows k, Iok d := fun d hd => io d (cut_mem hd)
  have ib : ∀ d ∈ cB rows k, Iok d := fun d hd => io d (cut_mem hd)
  have mid : ∀ x : D, Iok x → Vok (.tup (cA rows k ++ [x] ++ cB rows k)) := fun x hx => by
    refine vok_tup (by simp only [List.length_append, List.length_singleton]; omega) fun d hd => ?_
    rcases List.mem_append.mp hd with h | h
    · rcases List.mem_append.mp h with h | h
      · exact ia d h
      · rw [List.mem_singleton.mp h]; exact hx
    · exact ib d h
  have l1 : (lA ln sp).length ≤ w := by rw [← P.hl]; exact cut_len _ _ _
  have l2 : (lB ln sp).length ≤ w := by rw [← P.hl]; exact cut_len _ _ _
  intro v hv
  simp only [near3, List.mem_cons, List.not_mem_nil, or_false] at hv
  rcases hv with rfl | rfl | rfl | rfl | rfl
  · refine mid _ (iok_rw (fun x hx => ?_) (by simp only [List.length_append, List.length_singleton]; omega))
    rcases List.mem_append.mp hx with h | h
    · rcases List.mem_append.mp h with h | h
      · exact Nat.lt_of_lt_of_le (sl x (cut_mem h)) (two_pow_le (by decide))
      · rw [List.mem_singleton.mp h]
        have h1 := ad_small (i := sp) sl
        have h2 : (ad ln sp + 1).natAbs ≤ (ad ln sp).natAbs + 1 := by omega
        have h3 : 2 ^ 1632 = 2 ^ 1631 + 2 ^ 1631 := by rw [Nat.pow_succ]; omega
        have h4 : 2 ^ 1632 ≤ 2 ^ 9000 := two_pow_le (by decide)
        have h5 : 1 ≤ 2 ^ 1631 := Nat.two_pow_pos _
        generalize 2 ^ 1631 = A at *
        generalize 2 ^ 1632 = B at *
        generalize 2 ^ 9000 = C at *
        omega
    · exact Nat.lt_of_lt_of_le (sl x (cut_mem h)) (two_pow_le (by decide))
  · refine mid _ (iok_rw (fun x hx => ?_) (by rw [List.length_map, P.hl]; omega))
    obtain ⟨y, hy, rfl⟩ := List.mem_map.mp hx
    have h1 := sl y hy
    have h3 : 2 ^ 1632 = 2 ^ 1631 + 2 ^ 1631 := by rw [Nat.pow_succ]; omega
    have h4 : 2 ^ 1632 ≤ 2 ^ 9000 := two_pow_le (by decide)
    have h6 : (2 * y).natAbs = 2 * y.natAbs := by rw [Int.natAbs_mul]; rfl
    rw [h6]
    generalize 2 ^ 1631 = A at *
    generalize 2 ^ 1632 = B at *
    generalize 2 ^ 9000 = C at *
    omega
  · exact mid _ (iok_flat (fun _ => rfl) (fun _ e => nomatch e) (by simp))
  · refine mid _ (iok_tup (by rw [List.length_map, P.hl]; omega) (fun d hd st => ?_) (fun d hd n => ?_) fun r e x hx => ?_)
    · obtain ⟨y, _, rfl⟩ := List.mem_map.mp hd
      unfold bent; split <;> rfl
    · obtain ⟨y, _, rfl⟩ := List.mem_map.mp hd
      unfold bent; split <;> simp
    · have : D.int x ∈ ln.map bent := by rw [e]; exact List.mem_map.mpr ⟨x, hx, rfl⟩
      obtain ⟨y, hy, e2⟩ := List.mem_map.mp this
      unfold bent at e2
      split at e2
      · cases e2
      · injection e2 with e2
        rw [← e2]
        exact Nat.lt_of_lt_of_le (sl y hy) (two_pow_le (by decide))
  · refine vok_tup (by simp only [List.length_append]; omega) fun d hd => ?_
    rcases List.mem_append.mp hd with h | h
    · exact ia d h
    · exact ib d h
end K12
namespace K12
open PySem PySem.Spec PyProof.Rows L2 DL
abbrev envN (l w : Nat) (rows : List (List Int)) (r : List Int) (Lp k sp : Nat) (ln : List Int) : DEnv := [some (.loc l), some (.int (w : Nat)), some (.tup (rows.map rw)), some (rw r), some (.loc Lp), some (.int (k : Nat)), some (.int (sp : Nat)), some (rw ln), none]
section
variable {s : Store} {l w Lp k sp : Nat} {rows : List (List Int)} {r ln : List Int} (L : LotOk w 1631 rows) (hw : w ≤ 200) (hk : rows.length ≤ 3) (P : Spot w rows k sp ln)
include L hw hk P
theorem n_len : (cA rows k).length ≤ 3 ∧ (cB rows k).length ≤ 3 ∧ (lA ln sp).length ≤ w ∧ (lB ln sp).length ≤ w :=
  ⟨Nat.le_trans (cut_len _ _ _) (by simpa using hk), Nat.le_trans (cut_len _ _ _) (by simpa using hk), by rw [← P.hl]; exact cut_len _ _ _, by rw [← P.hl]; exact cut_len _ _ _⟩
theorem n_mid (x : D) (fe : Fe) (hx : ∀ s, fe (envN l w rows r Lp k sp ln) s = .ok (.tup [x]) s) (s : Store) :
    xOp gAdd (xOp gAdd (xSl gSl (xVar 2) oNone (oSome (xVar 5))) fe) (xSl gSl (xVar 2) (oSome (xOp gAdd (xVar 5) (xC (.int 1)))) oNone) (envN l w rows r Lp k sp ln) s = .ok (.tup (cA rows k ++ [x] ++ cB rows k)) s := by
  obtain ⟨h1, h2, _, _⟩ := n_len L hw hk P
  have a1 : ∀ s, gAdd s (.tup (cA rows k)) (.tup [x]) = some (.tup (cA rows k ++ [x])) := fun s => gAdd_tup (by simp only [List.length_singleton]; omega)
  have a2 : ∀ s, gAdd s (.tup (cA rows k ++ [x])) (.tup (cB rows k)) = some (.tup (cA rows k ++ [x] ++ cB rows k)) := fun s => gAdd_tup (by simp only [List.length_append, List.length_singleton]; omega)
  simp only [cA, cB] at a1 a2 ⊢
  simp only [ev_xOp, ev_xSl, ev_oNone, ev_oSome, ev_xVar, ev_xC, List.getElem?_cons_zero, List.getElem?_cons_succ, bindK, gAdd_int, lift_some, gSl_tup, hx, a1, a2]
theorem n_drop (s : Store) : xOp gAdd (xSl gSl (xVar 2) oNone (oSome (xVar 5))) (xSl gSl (xVar 2) (oSome (xOp gAdd (xVar 5) (xC (.int 1)))) oNone) (envN l w rows r Lp k sp ln) s = .ok (.tup (cA rows k ++ cB rows k)) s := by
  obtain ⟨h1, h2, _, _⟩ := n_len L hw hk P
  have a1 : ∀ s, gAdd s (.tup (cA rows k)) (.tup (cB rows k)) = some (.tup (cA rows k ++ cB rows k)) := fun s => gAdd_tup (by omega)
  simp only [cA, cB] at a1 ⊢
  simp only [ev_xOp, ev_xSl, ev_oNone, ev_oSome, ev_xVar, ev_xC, List.getElem?_cons_zero, List.getElem?_cons_succ, bindK, gAdd_int, lift_some, gSl_tup, a1]
theorem n_one (s : Store) : xTup (aCons (xOp gAdd (xOp gAdd (xSl gSl (xVar 7) oNone (oSome (xVar 6))) (xTup (aCons (xOp gAdd (xOp gIx (xVar 7) (xVar 6)) (xC (.int 1))) aNil))) (xSl gSl (xVar 7) (oSome (xOp gAdd (xVar 6) (xC (.int 1)))) oNone)) aNil) (envN l w rows r Lp k sp ln) s = .ok (.tup [rw (lA ln sp ++ [ad ln sp + 1] ++ lB ln sp)]) s := by
  obtain ⟨_, _, h1, h2⟩ := n_len L hw hk P
  have ix : ∀ s, gIx s (rw ln) (.int (sp : Nat)) = some (.int (ad ln sp)) := fun s => gIx_tup _ (getD_map (by rw [P.hl]; exact P.hs))
  have e1 : DL.cutD (ln.map D.int) none (some (sp : Nat)) = (lA ln sp).map D.int := cut_map _ _ _ _
  have e2 : DL.cutD (ln.map D.int) (some ((sp : Nat) + 1)) none = (lB ln sp).map D.int := cut_map _ _ _ _
  have a1 : ∀ s, gAdd s (.tup ((lA ln sp).map D.int)) (.tup [.int (ad ln sp + 1)]) = some (rw (lA ln sp ++ [ad ln sp + 1])) := fun s => by
    rw [gAdd_tup (by simp; omega)]; simp
  have a2 : ∀ s, gAdd s (rw (lA ln sp ++ [ad ln sp + 1])) (.tup ((lB ln sp).map D.int)) = some (rw (lA ln sp ++ [ad ln sp + 1] ++ lB ln sp)) := fun s => by
    rw [gAdd_tup (by simp; omega)]; simp
  simp only [ev_xTup, ev_aCons, ev_aNil, ev_xOp, ev_xSl, ev_oNone, ev_oSome, ev_xVar, ev_xC, List.getElem?_cons_zero, List.getElem?_cons_succ, bindK, gAdd_int, lift_some, gSl_tup, e1, e2, ix, a1, a2]
theorem n_two (s : Store) : xTup (aCons (xCall gTupleOf (aCons (xLc (iOf (xVar 7)) (gN 8) tAll (xOp gMulT (xC (.int 2)) (xVar 8)) [8]) aNil)) aNil) (envN l w rows r Lp k sp ln) s = .ok (.tup [rw (ln.map fun x => 2 * x)]) s := by
  have sl := L.sm ln (List.mem_of_getElem? P.ha)
  have k2 := lcD_all (g := gN 8) (f := xOp gMulT (xC (.int 2)) (xVar 8)) (ws := []) (st := s) (ρ := wipeD (envN l w rows r Lp k sp ln) [8]) (fun d => match d with | .int i => .int (2 * i) | d => d) rfl (ln.map D.int) fun y hy => by
    obtain ⟨i, hi, rfl⟩ := List.mem_map.mp hy
    have m := gMul_int (st := s) (mul_room (m := 64) (n := 1631) (a := 2) (by decide) (sl i hi) (by decide) (by decide) (by decide))
    exact ⟨_, rfl, by simp [wipeD, m]⟩
  have e2 : (ln.map D.int).map (fun d => match d with | .int i => D.int (2 * i) | d => d) = (ln.map fun x => 2 * x).map D.int := by rw [List.map_map, List.map_map]; rfl
  rw [e2] at k2
  have hz : ln.length ≤ sizeLine := small_len (by rw [P.hl]; omega)
  simp only [ev_xTup, ev_aCons, ev_aNil, ev_xCall, ev_xLc, ev_iOf, ev_xVar, List.getElem?_cons_zero, List.getElem?_cons_succ, bindK, sq_tup, liftI_some, sameAt_nil, List.length_map, hz, and_self, if_true, k2, gTupleOf_lst, lift_some]
theorem n_lst (s : Store) : xTup (aCons (xCall gListOf (aCons (xVar 7) aNil)) aNil) (envN l w rows r Lp k sp ln) s = .ok (.tup [.lst (ln.map D.int)]) s := by
  simp only [ev_xTup, ev_aCons, ev_aNil, ev_xCall, ev_xVar, List.getElem?_cons_zero, List.getElem?_cons_succ, bindK, gListOf_tup, lift_some]
theorem n_bent (s : Store) : xTup (aCons (xCall gTupleOf (aCons (xLc (iOf (xVar 7)) (gN 8) tAll (xIf (tVal (xOp gIn (xVar 8) (xTup (aCons (xC (.int 0)) (aCons (xC (.int 1)) aNil))))) (xOp gEq (xVar 8) (xC (.int 1))) (xVar 8)) [8]) aNil)) aNil) (envN l w rows r Lp k sp ln) s = .ok (.tup [.tup (ln.map bent)]) s := by
  have k2 := lcD_all (g := gN 8) (f := xIf (tVal (xOp gIn (xVar 8) (xTup (aCons (xC (.int 0)) (aCons (xC (.int 1)) aNil))))) (xOp gEq (xVar 8) (xC (.int 1))) (xVar 8)) (ws := []) (st := s) (ρ := wipeD (envN l w rows r Lp k sp ln) [8]) (fun d => match d with | .int i => bent i | d => d) rfl (ln.map D.int) fun y hy => by
    obtain ⟨i, hi, rfl⟩ := List.mem_map.mp hy
    have gi : gIn s (.int i) (.tup [.int 0, .int 1]) = some (.bl (decide (i = 0 ∨ i = 1))) := by
      have e := inV_ints i [0, 1]
      show ((dV (.int i)).bind fun x => (seqV s (.tup [.int 0, .int 1])).bind fun ds => (dVs ds).map fun xs => D.bl (if false = true then !inV x xs else inV x xs)) = _
      have e3 := dVs_ints [0, 1]
      simp only [List.map_cons, List.map_nil] at e e3
      simp only [dV, seqV, Option.bind_some, e3, Option.map_some, Bool.false_eq_true, if_false, e]
      simp
    refine ⟨_, rfl, ?_⟩
    unfold bent
    by_cases h : i = 0 ∨ i = 1
    · rw [decide_eq_true h] at gi
      simp [wipeD, gi, h]
    · rw [decide_eq_false h] at gi
      simp [wipeD, gi, h]
  have e2 : (ln.map D.int).map (fun d => match d with | .int i => bent i | d => d) = ln.map bent := by rw [List.map_map]; rfl
  rw [e2] at k2
  have hz : ln.length ≤ sizeLine := small_len (by rw [P.hl]; omega)
  simp only [ev_xTup, ev_aCons, ev_aNil, ev_xCall, ev_xLc, ev_iOf, ev_xVar, List.getElem?_cons_zero, List.getElem?_cons_succ, bindK, sq_tup, liftI_some, sameAt_nil, List.length_map, hz, and_self, if_true, k2, gTupleOf_lst, lift_some]
end
end K12
namespace K12
open PySem PySem.Spec PyProof.Rows L2 DL
theorem app5 {ρ : DEnv} {s : Store} {Lp : Nat} {vs : List D} {fo f1 f2 f3 f4 f5 : Fe} {a b c d e : D} (h0 : ∀ s, fo ρ s = .ok (.loc Lp) s) (h1 : ∀ s, f1 ρ s = .ok a s) (h2 : ∀ s, f2 ρ s = .ok b s) (h3 : ∀ s, f3 ρ s = .ok c s) (h4 : ∀ s, f4 ρ s = .ok d s) (h5 : ∀ s, f5 ρ s = .ok e s) (hat : s[Lp]? = some (.lst vs)) (hz : vs.length < 100) :
    sSeq (sDrop (xApp fo f1)) (sSeq (sDrop (xApp fo f2)) (sSeq (sDrop (xApp fo f3)) (sSeq (sDrop (xApp fo f4)) (sDrop (xApp fo f5))))) ρ s = .nx ρ (s.set Lp (.lst (vs ++ [a, b, c, d, e]))) := by
  have hlen : Lp < s.length := (List.getElem?_eq_some_iff.mp hat).1
  have hat2 : ∀ us : List D, (s.set Lp (.lst us))[Lp]? = some (.lst us) := fun us => by rw [List.getElem?_set_self hlen]
  have s1 := app_ok (h0 _) hat (h1 s) (by omega)
  have s2 := app_ok (h0 _) (hat2 _) (h2 (s.set Lp (.lst (vs ++ [a])))) (by simp; omega)
  simp only [List.set_set, List.append_assoc, List.cons_append, List.nil_append] at s2
  have s3 := app_ok (h0 _) (hat2 _) (h3 (s.set Lp (.lst (vs ++ [a, b])))) (by simp; omega)
  simp only [List.set_set, List.append_assoc, List.cons_append, List.nil_append] at s3
  have s4 := app_ok (h0 _) (hat2 _) (h4 (s.set Lp (.lst (vs ++ [a, b, c])))) (by simp; omega)
  simp only [List.set_set, List.append_assoc, List.cons_append, List.nil_append] at s4
  have s5 := app_ok (h0 _) (hat2 _) (h5 (s.set Lp (.lst (vs ++ [a, b, c, d])))) (by simp; omega)
  simp only [List.set_set, List.append_assoc, List.cons_append, List.nil_append] at s5
  rw [ev_sSeq, s1, seq_nx, ev_sSeq, s2, seq_nx, ev_sSeq, s3, seq_nx, ev_sSeq, s4, seq_nx, s5]
/-- the values appended -/
theorem near_more {st ex : Store} {l w n : Nat} {t : Tri} {rows : List (List Int)} {r : List Int} {vs : List D} {Lp : Nat} (L : LotOk w 1631 rows) (hw : 1 ≤ w ∧ w ≤ 200) (hk : rows.length ≤ 3) (h0 : rows ≠ []) (S : Dst (st ++ ex) l) (hl : l < st.length) (G : Gd n t) (hn : n + 300 < 2 ^ 60)
    (hLp : Lp = st.length + 1) (hex : ex.length = 2) (hv : ex[1]? = some (.lst vs)) (hz : vs.length < 100) :
    ∃ k sp ln t' ρ', Spot w rows k sp ln ∧ Gd (n + 2) t' ∧ ρ'[4]? = some (some (.loc Lp)) ∧ sSeq (sSet 5 (xApply F__law_roll (aCons (xVar 0) (aCons (xCall gLen (aCons (xVar 2) aNil)) aNil)))) (sSeq (sPar 6 7 (aCons (xApply F__law_roll (aCons (xVar 0) (aCons (xVar 1) aNil))) (aCons (xOp gIx (xVar 2) (xVar 5)) aNil))) (sSeq (sDrop (xApp (xVar 4) (xOp gAdd (xOp gAdd (xSl gSl (xVar 2) oNone (oSome (xVar 5))) (xTup (aCons (xOp gAdd (xOp gAdd (xSl gSl (xVar 7) oNone (oSome (xVar 6))) (xTup (aCons (xOp gAdd (xOp gIx (xVar 7) (xVar 6)) (xC (.int 1))) aNil))) (xSl gSl (xVar 7) (oSome (xOp gAdd (xVar 6) (xC (.int 1)))) oNone)) aNil))) (xSl gSl (xVar 2) (oSome (xOp gAdd (xVar 5) (xC (.int 1)))) oNone)))) (sSeq (sDrop (xApp (xVar 4) (xOp gAdd (xOp gAdd (xSl gSl (xVar 2) oNone (oSome (xVar 5))) (xTup (aCons (xCall gTupleOf (aCons (xLc (iOf (xVar 7)) (gN 8) tAll (xOp gMulT (xC (.int 2)) (xVar 8)) [8]) aNil)) aNil))) (xSl gSl (xVar 2) (oSome (xOp gAdd (xVar 5) (xC (.int 1)))) oNone)))) (sSeq (sDrop (xApp (xVar 4) (xOp gAdd (xOp gAdd (xSl gSl (xVar 2) oNone (oSome (xVar 5))) (xTup (aCons (xCall gListOf (aCons (xVar 7) aNil)) aNil))) (xSl gSl (xVar 2) (oSome (xOp gAdd (xVar 5) (xC (.int 1)))) oNone)))) (sSeq (sDrop (xApp (xVar 4) (xOp gAdd (xOp gAdd (xSl gSl (xVar 2) oNone (oSome (xVar 5))) (xTup (aCons (xCall gTupleOf (aCons (xLc (iOf (xVar 7)) (gN 8) tAll (xIf (tVal (xOp gIn (xVar 8) (xTup (aCons (xC (.int 0)) (aCons (xC (.int 1)) aNil))))) (xOp gEq (xVar 8) (xC (.int 1))) (xVar 8)) [8]) aNil)) aNil))) (xSl gSl (xVar 2) (oSome (xOp gAdd (xVar 5) (xC (.int 1)))) oNone)))) (sDrop (xApp (xVar 4) (xOp gAdd (xSl gSl (xVar 2) oNone (oSome (xVar 5))) (xSl gSl (xVar 2) (oSome (xOp gAdd (xVar 5) (xC (.int 1)))) oNone))))))))) 
      [some (.loc l), some (.int (w : Nat)), some (.tup (rows.map rw)), some (rw r), some (.loc Lp), none, none, none, none] ((st ++ ex).set l (Dc t)) = .nx ρ' (((st ++ ex).set l (Dc t')).set Lp (.lst (vs ++ near3 rows k sp ln))) := by
  have hr0 : 0 < rows.length := List.length_pos_iff.mpr h0
  have p60 : (2 : Int) ^ 60 = 1152921504606846976 := by decide
  obtain ⟨a, t1, e1, a0, a1, G1⟩ := roll_ok (k := (rows.length : Nat)) S G (by omega) (by omega) (by omega)
  obtain ⟨b, t2, e2, b0, b1, G2⟩ := roll_ok (k := (w : Nat)) S G1 (by omega) (by omega) (by omega)
  obtain ⟨k, rfl⟩ := Int.eq_ofNat_of_zero_le a0
  obtain ⟨sp, rfl⟩ := Int.eq_ofNat_of_zero_le b0
  have hkl : k < rows.length := by omega
  have hln : rows[k]? = some rows[k] := List.getElem?_eq_getElem hkl
  have P : Spot w rows k sp rows[k] := ⟨hln, by omega, L.len _ (List.getElem_mem hkl)⟩
  have ix : ∀ s, gIx s (.tup (rows.map rw)) (.int (k : Nat)) = some (rw rows[k]) := fun s => gIx_tup _ (by simp [hkl])
  generalize rows[k] = ln at P ix
  refine ⟨k, sp, ln, t2, envN l w rows r Lp k sp ln, P, G2, rfl, ?_⟩
  have hLl : Lp ≠ l := by omega
  have hat : ((st ++ ex).set l (Dc t2))[Lp]? = some (.lst vs) := by
    rw [List.getElem?_set_ne (Ne.symm hLl), List.getElem?_append_right (by omega)]
    have : Lp - st.length = 1 := by omega
    rw [this]; exact hv
  have x4 : ∀ s, xVar 4 (envN l w rows r Lp k sp ln) s = .ok (.loc Lp) s := fun s => rfl
  have s5 := app5 x4 (n_mid (r := r) (l := l) (Lp := Lp) L hw.2 hk P _ _ (n_one L hw.2 hk P)) (n_mid (r := r) (l := l) (Lp := Lp) L hw.2 hk P _ _ (n_two L hw.2 hk P)) (n_mid (r := r) (l := l) (Lp := Lp) L hw.2 hk P _ _ (n_lst L hw.2 hk P))
    (n_mid (r := r) (l := l) (Lp := Lp) L hw.2 hk P _ _ (n_bent L hw.2 hk P)) (n_drop (r := r) (l := l) (Lp := Lp) L hw.2 hk P) hat hz
  have q1 : sSet 5 (xApply F__law_roll (aCons (xVar 0) (aCons (xCall gLen (aCons (xVar 2) aNil)) aNil))) [some (.loc l), some (.int (w : Nat)), some (.tup (rows.map rw)), some (rw r), some (.loc Lp), none, none, none, none] ((st ++ ex).set l (Dc t)) = .nx [some (.loc l), some (.int (w : Nat)), some (.tup (rows.map rw)), some (rw r), some (.loc Lp), some (.int (k : Nat)), none, none, none] ((st ++ ex).set l (Dc t1)) := by
    have hl2 : (rows.map rw).length = rows.length := List.length_map ..
    simp only [ev_sSet, ev_xApply, ev_aCons, ev_aNil, ev_xVar, ev_xCall, List.getElem?_cons_zero, List.getElem?_cons_succ, bindK, gLen_tup, hl2, lift_some, e1, thenK, List.set_cons_zero, List.set_cons_succ]
  have q2 : sPar 6 7 (aCons (xApply F__law_roll (aCons (xVar 0) (aCons (xVar 1) aNil))) (aCons (xOp gIx (xVar 2) (xVar 5)) aNil)) [some (.loc l), some (.int (w : Nat)), some (.tup (rows.map rw)), some (rw r), some (.loc Lp), some (.int (k : Nat)), none, none, none] ((st ++ ex).set l (Dc t1)) = .nx (envN l w rows r Lp k sp ln) ((st ++ ex).set l (Dc t2)) := by
    simp only [ev_sPar, ev_xApply, ev_aCons, ev_aNil, ev_xVar, ev_xOp, List.getElem?_cons_zero, List.getElem?_cons_succ, bindK, e2, ix, lift_some, thenK, List.set_cons_zero, List.set_cons_succ]
  rw [ev_sSeq, q1, seq_nx, ev_sSeq, q2, seq_nx, s5]
  rfl
end K12
namespace K12
open PySem PySem.Spec PyProof.Rows L2 DL
theorem near_ok {st : Store} {l n w : Nat} {t : Tri} {rows : List (List Int)} (S : Dst st l) (G : Gd n t) (hn : n + 600 < 2 ^ 60) (hw : 1 ≤ w ∧ w ≤ 200) (L : LotOk w 1631 rows) (hk : rows.length ≤ 3) :
    ∃ vs t', F__law_near [.loc l, .int (w : Nat), .tup (rows.map rw)] (st.set l (Dc t)) = .ok (.lst vs) (st.set l (Dc t')) ∧ (∀ v ∈ vs, Vok v) ∧ Gd (n + 300) t' ∧ vs.length ≤ 20 := by
  have len1 : ∀ c, (st.set l c).length = st.length := fun c => List.length_set
  have e0 : List.replicate (9 - (0 + 1 + 1 + 1)) (none : Option D) = [none, none, none, none, none, none] := rfl
  obtain ⟨r, t1, hr, hs, G1, e1⟩ := near_start S G (by omega) hw L hk (sSeq (sIf (tVal (xOp gNe (xVar 2) (xTup aNil))) (sSeq (sSet 5 (xApply F__law_roll (aCons (xVar 0) (aCons (xCall gLen (aCons (xVar 2) aNil)) aNil)))) (sSeq (sPar 6 7 (aCons (xApply F__law_roll (aCons (xVar 0) (aCons (xVar 1) aNil))) (aCons (xOp gIx (xVar 2) (xVar 5)) aNil))) (sSeq (sDrop (xApp (xVar 4) (xOp gAdd (xOp gAdd (xSl gSl (xVar 2) oNone (oSome (xVar 5))) (xTup (aCons (xOp gAdd (xOp gAdd (xSl gSl (xVar 7) oNone (oSome (xVar 6))) (xTup (aCons (xOp gAdd (xOp gIx (xVar 7) (xVar 6)) (xC (.int 1))) aNil))) (xSl gSl (xVar 7) (oSome (xOp gAdd (xVar 6) (xC (.int 1)))) oNone)) aNil))) (xSl gSl (xVar 2) (oSome (xOp gAdd (xVar 5) (xC (.int 1)))) oNone)))) (sSeq (sDrop (xApp (xVar 4) (xOp gAdd (xOp gAdd (xSl gSl (xVar 2) oNone (oSome (xVar 5))) (xTup (aCons (xCall gTupleOf (aCons (xLc (iOf (xVar 7)) (gN 8) tAll (xOp gMulT (xC (.int 2)) (xVar 8)) [8]) aNil)) aNil))) (xSl gSl (xVar 2) (oSome (xOp gAdd (xVar 5) (xC (.int 1)))) oNone)))) (sSeq (sDrop (xApp (xVar 4) (xOp gAdd (xOp gAdd (xSl gSl (xVar 2) oNone (oSome (xVar 5))) (xTup (aCons (xCall gListOf (aCons (xVar 7) aNil)) aNil))) (xSl gSl (xVar 2) (oSome (xOp gAdd (xVar 5) (xC (.int 1)))) oNone)))) (sSeq (sDrop (xApp (xVar 4) (xOp gAdd (xOp gAdd (xSl gSl (xVar 2) oNone (oSome (xVar 5))) (xTup (aCons (xCall gTupleOf (aCons (xLc (iOf (xVar 7)) (gN 8) tAll (xIf (tVal (xOp gIn (xVar 8) (xTup (aCons (xC (.int 0)) (aCons (xC (.int 1)) aNil))))) (xOp gEq (xVar 8) (xC (.int 1))) (xVar 8)) [8]) aNil)) aNil))) (xSl gSl (xVar 2) (oSome (xOp gAdd (xVar 5) (xC (.int 1)))) oNone)))) (sDrop (xApp (xVar 4) (xOp gAdd (xSl gSl (xVar 2) oNone (oSome (xVar 5))) (xSl gSl (xVar 2) (oSome (xOp gAdd (xVar 5) (xC (.int 1)))) oNone)))))))))) sPass) (sRet (xVar 4)))
  have V := near_vok L hw.2 hk hr hs
  have len12 : (near1 rows r ++ near2 w rows r).length = 15 := rfl
  have hu : ∀ m, D.undL m (near1 rows r ++ near2 w rows r) = true := fun m => undL_all.mpr fun v hv => (V v hv).un m
  have hgn := gNe_rows (st := st.set l (Dc t1) ++ [Cell.lst (near1 rows r), .lst (near1 rows r ++ near2 w rows r)]) rows
  by_cases h0 : rows = []
  · subst h0
    refine ⟨near1 [] r ++ near2 w [] r, t1, runP_loc (s2 := [.lst (near1 [] r), .lst (near1 [] r ++ near2 w [] r)]) (k := st.length + 1) ?_ (by rw [len1, len1]) (S.be _ _) (by rw [len1]; omega) ?_ (hu _), V, G1.mono (by omega), by rw [len12]; omega⟩
    · show ofS (b__law_near _ _) = _
      unfold b__law_near
      simp only [DL.start, List.map_cons, List.map_nil, List.length_cons, List.length_nil, e0, List.cons_append, List.nil_append]
      simp only [List.map_nil] at e1
      rw [e1]
      simp only [List.map_nil, List.isEmpty_nil, Bool.not_true] at hgn
      rw [ev_sSeq, ev_sIf, ev_tVal, ev_xOp]
      simp only [ev_xVar, ev_xTup, ev_aNil, List.getElem?_cons_zero, List.getElem?_cons_succ, bindK, hgn, lift_some, ev_tB, liftB_some, thenK, Bool.false_eq_true, if_false, ev_sPass, seq_nx, ev_sRet, ofS_ret]
    · rw [List.getElem?_append_right (by rw [len1]; omega), len1]
      have : st.length + 1 - st.length = 1 := by omega
      rw [this]; rfl
  · have S2 : Dst (st ++ [Cell.lst (near1 rows r), Cell.lst (near1 rows r ++ near2 w rows r)]) l := S.more fun m => by
      simp only [Store.below, Cell.below, Bool.and_true, Bool.and_eq_true]
      exact ⟨undL_all.mpr fun v hv => (V v (List.mem_append_left _ hv)).un m, hu m⟩
    obtain ⟨k, sp, ln, t2, ρ', P, G2, hρ, e2⟩ := near_more (r := r) (vs := near1 rows r ++ near2 w rows r) L hw hk h0 S2 S.lt G1 (by omega) rfl rfl rfl (by rw [len12]; omega)
    have V3 := near3_vok L hw.2 hk P
    rw [set_more S, set_more S] at e2
    have hset : (st.set l (Dc t2) ++ [Cell.lst (near1 rows r), .lst (near1 rows r ++ near2 w rows r)]).set (st.length + 1) (.lst (near1 rows r ++ near2 w rows r ++ near3 rows k sp ln)) = st.set l (Dc t2) ++ [Cell.lst (near1 rows r), .lst (near1 rows r ++ near2 w rows r ++ near3 rows k sp ln)] := by
      rw [List.set_append_right _ _ (by rw [len1]; omega), len1]
      have : st.length + 1 - st.length = 1 := by omega
      rw [this]; rfl
    rw [hset] at e2
    have Vall : ∀ v ∈ near1 rows r ++ near2 w rows r ++ near3 rows k sp ln, Vok v := fun v hv => by
      rcases List.mem_append.mp hv with h | h
      · exact V v h
      · exact V3 v h
    refine ⟨near1 rows r ++ near2 w rows r ++ near3 rows k sp ln, t2, runP_loc (s2 := [.lst (near1 rows r), .lst (near1 rows r ++ near2 w rows r ++ near3 rows k sp ln)]) (k := st.length + 1) ?_ (by rw [len1, len1]) (S.be _ _) (by rw [len1]; omega) ?_ (undL_all.mpr fun v hv => (Vall v hv).un _), Vall, G2.mono (by omega), by rw [List.length_append, len12]; exact Nat.le_refl _⟩
    · show ofS (b__law_near _ _) = _
      unfold b__law_near
      simp only [DL.start, List.map_cons, List.map_nil, List.length_cons, List.length_nil, e0, List.cons_append, List.nil_append]
      rw [e1]
      have hne : rows.isEmpty = false := by cases rows with
        | nil => exact absurd rfl h0
        | cons a b => rfl
      rw [hne] at hgn
      rw [ev_sSeq, ev_sIf, ev_tVal, ev_xOp]
      have x4 : xVar 4 ρ' (st.set l (Dc t2) ++ [Cell.lst (near1 rows r), .lst (near1 rows r ++ near2 w rows r ++ near3 rows k sp ln)]) = .ok (.loc (st.length + 1)) (st.set l (Dc t2) ++ [Cell.lst (near1 rows r), .lst (near1 rows r ++ near2 w rows r ++ near3 rows k sp ln)]) := by
        rw [ev_xVar, hρ]
      have c1 : ((xVar 2 [some (.loc l), some (.int (w : Nat)), some (.tup (rows.map rw)), some (rw r), some (.loc (st.length + 1)), none, none, none, none] (st.set l (Dc t1) ++ [Cell.lst (near1 rows r), .lst (near1 rows r ++ near2 w rows r)])).bind fun da s1 => (xTup aNil [some (.loc l), some (.int (w : Nat)), some (.tup (rows.map rw)), some (rw r), some (.loc (st.length + 1)), none, none, none, none] s1).bind fun db s2 => lift (gNe s2 da db) s2) = .ok (.bl true) (st.set l (Dc t1) ++ [Cell.lst (near1 rows r), .lst (near1 rows r ++ near2 w rows r)]) := by
        simp only [ev_xVar, ev_xTup, ev_aNil, List.getElem?_cons_zero, List.getElem?_cons_succ, bindK, hgn, lift_some, Bool.not_false]
      rw [c1, bindK, ev_tB, liftB_some, thenK, if_pos rfl, e2, seq_nx, ev_sRet, x4, thenK, ofS_ret]
    · rw [List.getElem?_append_right (by rw [len1]; omega), len1]
      have : st.length + 1 - st.length = 1 := by omega
      rw [this]; rfl
end K12
namespace K12
open PySem PySem.Spec PyProof.Rows L2 DL
theorem int_short {i : Int} (h : i.natAbs < 2 ^ 1900) : (PyData.int i).leavesShort 1921 = true := by
  have h2 : i.natAbs.log2 < 1920 := Nat.lt_trans (log_lt h (by decide)) (by decide)
  have := int_text_len_1921 h2
  simp only [PyData.leavesShort, decide_eq_true_eq]
  exact this
theorem int_show {i : Int} (h : i.natAbs < 2 ^ 1900) : (PyData.int i).showable = true := by
  have h2 : i.natAbs.log2 < 1920 := Nat.lt_trans (log_lt h (by decide)) (by decide)
  simp [PyData.showable, h2]
theorem int_weight {i : Int} {n : Nat} (h : i.natAbs < 2 ^ n) : (PyData.int i).weight ≤ n := by
  simp only [PyData.weight]
  split
  · omega
  · rename_i h0
    have hne : i.natAbs ≠ 0 := by
      intro e
      apply h0
      have : i = 0 := by omega
      simp [this]
    have := (Nat.log2_lt hne).mpr h
    omega
theorem row_facts {n : Nat} (hn : n ≤ 1900) : ∀ {xs : List Int}, Sm n xs → PyData.leavesShortAll 1921 (xs.map PyData.int) = true ∧ PyData.showableAll (xs.map PyData.int) = true ∧ PyData.weightAll (xs.map PyData.int) ≤ (n + 1) * xs.length ∧ PyData.hasDictAll (xs.map PyData.int) = false
  | [], _ => ⟨rfl, rfl, Nat.zero_le _, rfl⟩
  | x :: xs, h => by
    obtain ⟨h1, h2, h3, h4⟩ := row_facts hn (xs := xs) fun y hy => h y (by simp [hy])
    have hx := h x (by simp)
    have hx2 : x.natAbs < 2 ^ 1900 := Nat.lt_of_lt_of_le hx (two_pow_le hn)
    refine ⟨?_, ?_, ?_, ?_⟩
    · simp only [List.map_cons, PyData.leavesShortAll, int_short hx2, h1, Bool.and_self]
    · simp only [List.map_cons, PyData.showableAll, int_show hx2, h2, Bool.and_self]
    · have hw := int_weight hx
      simp only [List.map_cons, PyData.weightAll, List.length_cons, Nat.mul_add]
      omega
    · simp only [List.map_cons, PyData.hasDictAll, PyData.hasDict, h4, Bool.or_self]
theorem repr_two {s : Store} {p : Int} {xs : List Int} (hp : p.natAbs < 2 ^ 500) (hx : Sm 110 xs) (hz : xs.length ≤ 20) : gRepr s [.lst [.int p, rw xs]] = some (.str (PyData.list [.int p, .tuple (xs.map PyData.int)]).shown) := by
  obtain ⟨h1, h2, h3, h4⟩ := row_facts (n := 110) (by decide) hx
  have hp2 : p.natAbs < 2 ^ 1900 := Nat.lt_of_lt_of_le hp (two_pow_le (by decide))
  have hw := int_weight hp
  have le := PyData.shown_le 1921 (by decide) (PyData.list [.int p, .tuple (xs.map PyData.int)]) (by
    simp only [PyData.leavesShort, PyData.leavesShortAll, Bool.and_true, Bool.and_eq_true]
    exact ⟨by simpa only [PyData.leavesShort] using int_short hp2, h1⟩)
  have wt : (PyData.list [.int p, .tuple (xs.map PyData.int)]).weight ≤ 3000 := by
    simp only [PyData.weight, PyData.weightAll]
    have e : (if (p == 0) = true then 0 else p.natAbs.log2 + 1) ≤ 500 := by simpa only [PyData.weight] using hw
    have : (110 + 1) * xs.length ≤ 111 * 20 := Nat.mul_le_mul (Nat.le_refl _) hz
    omega
  have fit : (PyData.list [.int p, .tuple (xs.map PyData.int)]).shown.length ≤ sizeLine := by
    rw [sizeLine_eq]
    have : (1921 + 2) * (PyData.list [.int p, .tuple (xs.map PyData.int)]).weight ≤ 1923 * 3000 := Nat.mul_le_mul (Nat.le_refl _) wt
    omega
  have sd : showD (PyData.list [.int p, .tuple (xs.map PyData.int)]) = true := by
    unfold showD
    have a : (PyData.list [.int p, .tuple (xs.map PyData.int)]).showable = true := by
      simp only [PyData.showable, PyData.showableAll, Bool.and_true, Bool.and_eq_true]
      exact ⟨by simpa only [PyData.showable] using int_show hp2, h2⟩
    have b : (PyData.list [.int p, .tuple (xs.map PyData.int)]).hasDict = false := by
      simp only [PyData.hasDict, PyData.hasDictAll, h4, Bool.or_self]
    have c : (PyData.list [.int p, .tuple (xs.map PyData.int)]).depth < 60 := by
      simp only [PyData.depth, PyData.depthAll, depth_ints]
      decide
    rw [a, b, decide_eq_true fit, decide_eq_true c]
    rfl
  have tp : toPyT s (.lst [.int p, rw xs]) = some (PyData.list [.int p, .tuple (xs.map PyData.int)]) := by
    simp [toPyT, toPy, toPyL, toPyL_ints]
  show ((toPyT s (.lst [.int p, rw xs])).bind fun p => if showD p = true then some (D.str p.shown) else none) = _
  rw [tp, Option.bind_some, if_pos sd]
theorem repr_bl {s : Store} (b : Bool) : gRepr s [.bl b] = some (.str (PyData.bool b).shown) := by cases b <;> rfl
theorem gNe_str {s : Store} (x : Str) : gNe s (.str x) (.str x) = some (.bl false) := by
  show some (D.bl (!decide (x = x))) = _
  simp
end K12
namespace K12
open PySem PySem.Spec PyProof.Rows L2 DL
theorem gcdF_mul (k : Int) : ∀ (xs : List Int) (g : Nat), (xs.map fun x => k * x).foldl (fun g x => Int.gcd (g : Nat) x) (k.natAbs * g) = k.natAbs * xs.foldl (fun g x => Int.gcd (g : Nat) x) g
  | [], _ => rfl
  | x :: xs, g => by
    have e : Int.gcd ((k.natAbs * g : Nat) : Int) (k * x) = k.natAbs * Int.gcd (g : Nat) x := by
      rw [Int.gcd_eq_natAbs_gcd_natAbs, Int.gcd_eq_natAbs_gcd_natAbs, Int.natAbs_mul, Int.natAbs_natCast, Int.natAbs_natCast, Nat.gcd_mul_left]
    simp only [List.map_cons, List.foldl_cons]
    rw [e, gcdF_mul k xs]
theorem gcdL_mul (k : Int) (xs : List Int) : gcdL (xs.map fun x => k * x) = k.natAbs * gcdL xs := by
  have h := gcdF_mul k xs 0
  rw [Nat.mul_zero] at h
  exact h
theorem lead_mul {k : Int} (hk : k ≠ 0) : ∀ xs : List Int, lead (xs.map fun x => k * x) = lead xs
  | [] => rfl
  | x :: xs => by
    simp only [List.map_cons, lead, lead_mul hk xs]
    by_cases hx : x = 0
    · rw [if_pos hx, if_pos (by rw [hx, Int.mul_zero])]
    · rw [if_neg hx, if_neg (Int.mul_ne_zero hk hx)]
theorem ad_mul (k : Int) (xs : List Int) (i : Nat) : ad (xs.map fun x => k * x) i = k * ad xs i := by
  simp only [ad, List.getD_eq_getElem?_getD, List.getElem?_map]
  cases xs[i]? <;> simp
theorem low_neg7 (xs : List Int) : low (xs.map fun x => -7 * x) = low xs := by
  have hg : gcdL (xs.map fun x => -7 * x) = 7 * gcdL xs := gcdL_mul (-7) xs
  unfold low
  rw [hg, lead_mul (by decide) xs]
  by_cases h0 : gcdL xs = 0
  · rw [if_pos (by omega), if_pos h0]
    have hz := gcdL_zero h0
    have : (xs.map fun x => -7 * x) = xs.map id := List.map_congr_left fun x hx => by rw [hz x hx]; rfl
    rw [this, List.map_id]
  · rw [if_neg (by omega), if_neg h0, List.map_map]
    have hl := lead_lt h0
    have hnz : ad xs (lead xs) ≠ 0 := lead_nz hl
    have ha : List.getD (xs.map fun x => -7 * x) (lead xs) 0 = -7 * ad xs (lead xs) := ad_mul (-7) xs (lead xs)
    rw [ha]
    refine List.map_congr_left fun x hx => ?_
    obtain ⟨q, hq⟩ := gcdL_dvd hx
    show (-7 * x).fdiv _ = _
    by_cases hn : List.getD xs (lead xs) 0 < 0
    · have hn2 : ¬ (-7 * ad xs (lead xs) < 0) := by
        have : ad xs (lead xs) < 0 := hn
        omega
      rw [if_neg hn2, if_pos hn]
      have e1 : -7 * x = ((7 * gcdL xs : Nat) : Int) * (-q) := by
        rw [hq, Int.natCast_mul, ← Int.mul_assoc, Int.mul_neg, ← Int.neg_mul, ← Int.neg_mul]
        rfl
      have e2 : x = -(gcdL xs : Int) * (-q) := by rw [Int.neg_mul_neg]; exact hq
      rw [e1, Int.mul_fdiv_cancel_left _ (by omega)]
      conv => rhs; rw [e2]
      rw [Int.mul_fdiv_cancel_left _ (by omega)]
    · have hn2 : -7 * ad xs (lead xs) < 0 := by
        have : ¬ ad xs (lead xs) < 0 := hn
        omega
      rw [if_pos hn2, if_neg hn]
      have e1 : -7 * x = -((7 * gcdL xs : Nat) : Int) * q := by
        rw [hq, Int.natCast_mul, ← Int.mul_assoc, ← Int.neg_mul]
        rfl
      rw [e1, Int.mul_fdiv_cancel_left _ (by omega)]
      conv => rhs; rw [hq]
      rw [Int.mul_fdiv_cancel_left _ (by omega)]
theorem islot_ok {st : Store} {w : Nat} {v : D} (hw : 1 ≤ w ∧ w ≤ 200) (h : FineV st v) : F_is_lot [.int (w : Nat), v] st = .ok (.bl (lotB w v)) st := by
  refine runP_ok ?_ (by simp)
  have e0 : List.replicate (2 - (0 + 1 + 1)) (none : Option D) = [] := rfl
  have h1 := width_ok (st := st) (w := (w : Nat)) (by omega)
  have h2 := plot_ok (w := w) hw.2 h
  simp only [b_is_lot, DL.start, List.map_cons, List.map_nil, List.length_cons, List.length_nil, e0, List.append_nil, ev_sSeq, ev_sDrop, ev_xApply, ev_aCons, ev_aNil, ev_xVar, List.getElem?_cons_zero, List.getElem?_cons_succ, bindK, h1, thenK, seq_nx, ev_sRet, h2, ofS_ret]
theorem isrow_ok {st : Store} {w : Nat} {d : D} (hw : 1 ≤ w ∧ w ≤ 200) (h : fine st d = true) : F_is_row [.int (w : Nat), d] st = .ok (.bl (isRow (w : Nat) d)) st := by
  refine runP_ok ?_ (by simp)
  have e0 : List.replicate (2 - (0 + 1 + 1)) (none : Option D) = [] := rfl
  have h1 := width_ok (st := st) (w := (w : Nat)) (by omega)
  have h2 := prow_ok (w : Nat) h
  simp only [b_is_row, DL.start, List.map_cons, List.map_nil, List.length_cons, List.length_nil, e0, List.append_nil, ev_sSeq, ev_sDrop, ev_xApply, ev_aCons, ev_aNil, ev_xVar, List.getElem?_cons_zero, List.getElem?_cons_succ, bindK, h1, thenK, seq_nx, ev_sRet, h2, ofS_ret]
/-- both looks at a lot tell one text -/
theorem lot_look {st : Store} {ρ : DEnv} {w : Nat} {v : D} (hw : 1 ≤ w ∧ w ≤ 200) (h : FineV st v) (h1 : ρ[1]? = some (some (.int (w : Nat)))) (h3 : ρ[3]? = some (some v)) :
    sIf (tVal (xOp gNe (xCall gRepr (aCons (xApply F_is_lot (aCons (xVar 1) (aCons (xVar 3) aNil))) aNil)) (xCall gRepr (aCons (xApply F__law_is_lot (aCons (xVar 3) (aCons (xVar 1) aNil))) aNil)))) (sRet (xC (.bl false))) sPass ρ st = .nx ρ st := by
  have a1 := islot_ok hw h
  have a2 := llot_ok hw.2 h
  simp only [ev_sIf, ev_tVal, ev_xOp, ev_xCall, ev_aCons, ev_aNil, ev_xApply, ev_xVar, h1, h3, bindK, a1, a2, repr_bl, lift_some, gNe_str, ev_tB, liftB_some, thenK, Bool.false_eq_true, if_false, ev_sPass]
theorem row_look {st : Store} {ρ : DEnv} {w : Nat} {v : D} (hw : 1 ≤ w ∧ w ≤ 200) (h : fine st v = true) (h1 : ρ[1]? = some (some (.int (w : Nat)))) (h3 : ρ[3]? = some (some v)) :
    tVal (xOp gNe (xCall gRepr (aCons (xApply F_is_row (aCons (xVar 1) (aCons (xVar 3) aNil))) aNil)) (xCall gRepr (aCons (xApply F__law_is_row (aCons (xVar 3) (aCons (xVar 1) aNil))) aNil))) ρ st = .ok false st := by
  have a1 := isrow_ok hw h
  have a2 := lrow_ok (w : Nat) h
  simp only [ev_tVal, ev_xOp, ev_xCall, ev_aCons, ev_aNil, ev_xApply, ev_xVar, h1, h3, bindK, a1, a2, repr_bl, lift_some, gNe_str, ev_tB, liftB_some]
/-- the loop over the values near a lot -/
theorem near_loop {st : Store} {w : Nat} (hw : 1 ≤ w ∧ w ≤ 200) {a b c e f g h i : Option D} (hb : b = some (.int (w : Nat))) : ∀ (vs : List D) (d : Option D), (∀ v ∈ vs, Vok v) → ∃ d',
    forD (gN 3) (sIf (tVal (xOp gNe (xCall gRepr (aCons (xApply F_is_lot (aCons (xVar 1) (aCons (xVar 3) aNil))) aNil)) (xCall gRepr (aCons (xApply F__law_is_lot (aCons (xVar 3) (aCons (xVar 1) aNil))) aNil)))) (sRet (xC (.bl false))) sPass) [] st vs [a, b, c, d, e, f, g, h, i] st = .nx [a, b, c, d', e, f, g, h, i] st
  | [], d, _ => ⟨d, rfl⟩
  | v :: vs, d, hv => by
    obtain ⟨d', q⟩ := near_loop hw hb (c := c) (e := e) (f := f) (g := g) (h := h) (i := i) vs (some v) fun x hx => hv x (by simp [hx])
    refine ⟨d', ?_⟩
    rw [forD_cons_nx (ρ1 := [a, b, c, some v, e, f, g, h, i]) (ρ2 := [a, b, c, some v, e, f, g, h, i]) (s2 := st) rfl (lot_look hw ((hv v (by simp)).fv st) (by rw [hb]; rfl) rfl) rfl, q]
end K12
namespace K12
open PySem PySem.Spec PyProof.Rows L2 DL
theorem gMul_rep {st : Store} {w : Nat} (x : D) (h1 : 1 ≤ w) (h2 : w ≤ 200) : gMulT st (.tup [x]) (.int (w : Nat)) = some (.tup (List.replicate w x)) := by
  by_cases e : w = 1
  · subst e; rfl
  · have hf : ∀ n : Nat, (List.replicate n [x]).flatten = List.replicate n x := fun n => by
      induction n with
      | zero => rfl
      | succ n ih => rw [List.replicate_succ, List.flatten_cons, ih, List.replicate_succ]; rfl
    show (if ([x] : List D) = [] then none else if ((w : Nat) : Int) = 1 then some (D.tup [x]) else if ((w : Nat) : Int) ≤ 0 then (if -(2 ^ 63) ≤ ((w : Nat) : Int) then some (D.tup []) else none) else gMul st (.tup [x]) (.int (w : Nat))) = _
    rw [if_neg (by simp), if_neg (by omega), if_neg (by omega)]
    show (if 2 ≤ ((w : Nat) : Int) ∧ ((w : Nat) : Int) ≤ 1000 ∧ ([x] : List D) ≠ [] ∧ ([x] : List D).length ≤ 1000 then some (D.tup (List.replicate ((w : Nat) : Int).toNat [x]).flatten) else none) = _
    rw [if_pos ⟨by omega, by omega, by simp, by simp⟩, Int.toNat_natCast, hf]
theorem gIx_last {xs : List Int} (h : xs ≠ []) : ∃ x : Int, ∀ st, gIx st (rw xs) (.int (-1)) = some (.int x) := by
  have hl : 0 < xs.length := List.length_pos_iff.mpr h
  refine ⟨xs[xs.length - 1], fun st => ?_⟩
  show (seqV st (.tup (xs.map D.int))).bind (fun ds => atI ds (-1)) = _
  show atI (xs.map D.int) (-1) = _
  unfold atI ixN
  simp only [List.length_map]
  rw [if_neg (by omega), if_pos (by omega)]
  have e : (-1 + (xs.length : Int)).toNat = xs.length - 1 := by omega
  simp [e, hl]
theorem seqI_loc {st : Store} {l : Nat} {ds : List D} (h : st[l]? = some (.lst ds)) : seqI st (.loc l) = some (ds, [l]) := by
  simp [seqI, h]
theorem sameAt_one {st : Store} {l : Nat} {ds : List D} (h : st[l]? = some (.lst ds)) : sameAt [l] st st = true := by
  simp [sameAt, h, Cell.beq_refl]
def vals (w : Nat) (one : List Int) (L : Nat) : List D := [rw one, .lst (one.map D.int), .tup (one.map D.int ++ [.int 0]), .tup (DL.cutD (one.map D.int) (some 1) none), .tup (List.replicate w .non), .tup (List.replicate w (.bl true)), .non, .tup [], .tup (List.replicate w (.str "1")), .int 0, .loc L]
theorem fine_tup {st : Store} {ds : List D} (hl : ds.length ≤ 1000) (hk : ∀ d ∈ ds, known st d = true) : fine st (.tup ds) = true := by
  simp only [fine, Bool.and_eq_true, List.all_eq_true, decide_eq_true_eq]
  exact ⟨hk, hl⟩
theorem fine_ints {st : Store} {ds : List D} {xs : List Int} (hl : ds.length ≤ 1000) (h : ∀ d ∈ ds, d ∈ xs.map D.int) : fine st (.tup ds) = true :=
  fine_tup hl fun d hd => by
    obtain ⟨x, _, rfl⟩ := List.mem_map.mp (h d hd)
    rfl
theorem vals_fine {s : Store} {w : Nat} {one : List Int} {L : Nat} {b : Bool} (hw : w ≤ 200) (ho : one.length = w) (hd : s[L]? = some (.dic [])) : ∀ v ∈ vals w one L ++ [D.tup (DL.cutD (one.map D.int) none (some (-1)) ++ [.bl b])], fine s v = true := by
  intro v hv
  have len := cut_len (one.map D.int) (some 1) none
  have len2 := cut_len (one.map D.int) none (some (-1))
  rw [List.length_map, ho] at len len2
  simp only [vals, List.mem_append, List.mem_cons, List.not_mem_nil, or_false] at hv
  rcases hv with (rfl | rfl | rfl | rfl | rfl | rfl | rfl | rfl | rfl | rfl | rfl) | rfl
  · exact fine_rw (by omega)
  · rfl
  · refine fine_tup (by simp; omega) fun d hd => ?_
    rcases List.mem_append.mp hd with h | h
    · obtain ⟨x, _, rfl⟩ := List.mem_map.mp h; rfl
    · rw [List.mem_singleton.mp h]; rfl
  · exact fine_ints (xs := one) (by omega) fun d hd => cut_mem hd
  · refine fine_tup (by simp; omega) fun d hd => ?_
    rw [(List.mem_replicate.mp hd).2]; rfl
  · refine fine_tup (by simp; omega) fun d hd => ?_
    rw [(List.mem_replicate.mp hd).2]; rfl
  · rfl
  · rfl
  · refine fine_tup (by simp; omega) fun d hd => ?_
    rw [(List.mem_replicate.mp hd).2]; rfl
  · rfl
  · simp [fine, known, tyN, hd]
  · refine fine_tup (by simp; omega) fun d hd => ?_
    rcases List.mem_append.mp hd with h | h
    · obtain ⟨x, _, rfl⟩ := List.mem_map.mp (cut_mem h); rfl
    · rw [List.mem_singleton.mp h]; rfl
theorem rows_tail {s : Store} {w : Nat} {one : List Int} {A C V O T M : Option D} (hw : 1 ≤ w ∧ w ≤ 200) (ho : one.length = w) : ∃ vs,
    sSeq (sSet 4 (xNew (aCons (xVar 5) (aCons (xCall gListOf (aCons (xVar 5) aNil)) (aCons (xOp gAdd (xVar 5) (xTup (aCons (xC (.int 0)) aNil))) (aCons (xSl gSl (xVar 5) (oSome (xC (.int 1))) oNone) (aCons (xOp gMulT (xTup (aCons (xC .non) aNil)) (xVar 1)) (aCons (xOp gMulT (xTup (aCons (xC (.bl true)) aNil)) (xVar 1)) (aCons (xC .non) (aCons (xTup aNil) (aCons (xOp gMulT (xTup (aCons (xC (.str "1")) aNil)) (xVar 1)) (aCons (xC (.int 0)) (aCons xDic0 aNil))))))))))))) (sSeq (sDrop (xApp (xVar 4) (xOp gAdd (xSl gSl (xVar 5) oNone (oSome (xUn gNeg (xC (.int 1))))) (xTup (aCons (xOp gEq (xOp gIx (xVar 5) (xUn gNeg (xC (.int 1)))) (xC (.int 1))) aNil))))) (sRet (xOp gEq (xLc (iOf (xVar 4)) (gN 3) (tVal (xOp gNe (xCall gRepr (aCons (xApply F_is_row (aCons (xVar 1) (aCons (xVar 3) aNil))) aNil)) (xCall gRepr (aCons (xApply F__law_is_row (aCons (xVar 3) (aCons (xVar 1) aNil))) aNil)))) (xVar 3) [3]) (xLst aNil))))
      [A, some (.int (w : Nat)), C, V, none, some (rw one), O, T, M] s = .ret (.bl true) (s ++ [Cell.dic [], .lst vs]) := by
  have hne : one ≠ [] := fun e => by rw [e] at ho; simp at ho; omega
  obtain ⟨x, hx⟩ := gIx_last hne
  have a1 : ∀ s, gAdd s (rw one) (.tup [.int 0]) = some (.tup (one.map D.int ++ [.int 0])) := fun s => gAdd_tup (by simp; omega)
  have m1 : ∀ s x, gMulT s (.tup [x]) (.int (w : Nat)) = some (.tup (List.replicate w x)) := fun s x => gMul_rep x hw.1 hw.2
  have n1 : ∀ s, gNeg s (.int 1) = some (.int (-1)) := fun _ => rfl
  have len2 := cut_len (one.map D.int) none (some (-1))
  rw [List.length_map, ho] at len2
  have a2 : ∀ s d, gAdd s (.tup (DL.cutD (one.map D.int) none (some (-1)))) (.tup [d]) = some (.tup (DL.cutD (one.map D.int) none (some (-1)) ++ [d])) := fun s d => gAdd_tup (by simp; omega)
  have e1 : sSet 4 (xNew (aCons (xVar 5) (aCons (xCall gListOf (aCons (xVar 5) aNil)) (aCons (xOp gAdd (xVar 5) (xTup (aCons (xC (.int 0)) aNil))) (aCons (xSl gSl (xVar 5) (oSome (xC (.int 1))) oNone) (aCons (xOp gMulT (xTup (aCons (xC .non) aNil)) (xVar 1)) (aCons (xOp gMulT (xTup (aCons (xC (.bl true)) aNil)) (xVar 1)) (aCons (xC .non) (aCons (xTup aNil) (aCons (xOp gMulT (xTup (aCons (xC (.str "1")) aNil)) (xVar 1)) (aCons (xC (.int 0)) (aCons xDic0 aNil)))))))))))) [A, some (.int (w : Nat)), C, V, none, some (rw one), O, T, M] s =
      .nx [A, some (.int (w : Nat)), C, V, some (.loc (s.length + 1)), some (rw one), O, T, M] (s ++ [Cell.dic []] ++ [Cell.lst (vals w one s.length)]) := by
    simp only [ev_sSet, ev_xNew, ev_aCons, ev_aNil, ev_xVar, ev_xCall, ev_xOp, ev_xTup, ev_xC, ev_xSl, ev_oNone, ev_oSome, ev_xDic0, List.getElem?_cons_zero, List.getElem?_cons_succ, bindK, gListOf_tup, lift_some, a1, gSl_tup, m1, thenK, List.set_cons_zero, List.set_cons_succ, List.length_append, List.length_cons, List.length_nil, Nat.zero_add, vals]
  have hat : (s ++ [Cell.dic []] ++ [Cell.lst (vals w one s.length)])[s.length + 1]? = some (.lst (vals w one s.length)) := by
    rw [List.append_assoc, List.getElem?_append_right (by omega)]
    have : s.length + 1 - s.length = 1 := by omega
    rw [this]; rfl
  have e2 := app_ok (ρ := [A, some (.int (w : Nat)), C, V, some (.loc (s.length + 1)), some (rw one), O, T, M]) (s := s ++ [Cell.dic []] ++ [Cell.lst (vals w one s.length)]) (fo := xVar 4) (fe := xOp gAdd (xSl gSl (xVar 5) oNone (oSome (xUn gNeg (xC (.int 1))))) (xTup (aCons (xOp gEq (xOp gIx (xVar 5) (xUn gNeg (xC (.int 1)))) (xC (.int 1))) aNil)))
    (v := .tup (DL.cutD (one.map D.int) none (some (-1)) ++ [.bl (x == 1)])) (by simp only [ev_xVar, List.getElem?_cons_zero, List.getElem?_cons_succ]) hat (by
      simp only [ev_xOp, ev_xSl, ev_xVar, ev_oNone, ev_oSome, ev_xUn, ev_xC, ev_xTup, ev_aCons, ev_aNil, List.getElem?_cons_zero, List.getElem?_cons_succ, bindK, n1, lift_some, gSl_tup, hx, gEq_int, a2]) (by simp [vals])
  have hset : (s ++ [Cell.dic []] ++ [Cell.lst (vals w one s.length)]).set (s.length + 1) (Cell.lst (vals w one s.length ++ [D.tup (DL.cutD (one.map D.int) none (some (-1)) ++ [.bl (x == 1)])])) = s ++ [Cell.dic [], .lst (vals w one s.length ++ [D.tup (DL.cutD (one.map D.int) none (some (-1)) ++ [.bl (x == 1)])])] := by
    rw [List.append_assoc, List.set_append_right _ _ (by omega)]
    have : s.length + 1 - s.length = 1 := by omega
    rw [this]; rfl
  rw [hset] at e2
  refine ⟨vals w one s.length ++ [D.tup (DL.cutD (one.map D.int) none (some (-1)) ++ [.bl (x == 1)])], ?_⟩
  have hd : (s ++ [Cell.dic [], .lst (vals w one s.length ++ [D.tup (DL.cutD (one.map D.int) none (some (-1)) ++ [.bl (x == 1)])])])[s.length]? = some (.dic []) := by
    rw [List.getElem?_append_right (by omega), Nat.sub_self]; rfl
  have hat2 : (s ++ [Cell.dic [], .lst (vals w one s.length ++ [D.tup (DL.cutD (one.map D.int) none (some (-1)) ++ [.bl (x == 1)])])])[s.length + 1]? = some (.lst (vals w one s.length ++ [D.tup (DL.cutD (one.map D.int) none (some (-1)) ++ [.bl (x == 1)])])) := by
    rw [List.getElem?_append_right (by omega)]
    have : s.length + 1 - s.length = 1 := by omega
    rw [this]; rfl
  have vf := vals_fine (b := x == 1) hw.2 ho hd
  have hz : (vals w one s.length ++ [D.tup (DL.cutD (one.map D.int) none (some (-1)) ++ [.bl (x == 1)])]).length ≤ sizeLine := small_len (by simp [vals])
  generalize (vals w one s.length ++ [D.tup (DL.cutD (one.map D.int) none (some (-1)) ++ [.bl (x == 1)])]) = vs at *
  have key := lcD_map (g := gN 3) (t := tVal (xOp gNe (xCall gRepr (aCons (xApply F_is_row (aCons (xVar 1) (aCons (xVar 3) aNil))) aNil)) (xCall gRepr (aCons (xApply F__law_is_row (aCons (xVar 3) (aCons (xVar 1) aNil))) aNil)))) (f := xVar 3) (ws := [s.length + 1]) (st := s ++ [Cell.dic [], .lst vs]) (ρ := wipeD [A, some (.int (w : Nat)), C, V, some (.loc (s.length + 1)), some (rw one), O, T, M] [3]) (fun _ => false) id (sameAt_one hat2) vs fun d hd => ⟨_, rfl, row_look hw (vf d hd) rfl rfl, fun h => absurd h Bool.false_ne_true⟩
  have hf : vs.filter (fun _ => false) = [] := List.filter_eq_nil_iff.mpr fun _ _ => Bool.false_ne_true
  rw [hf, List.map_nil] at key
  have ge : gEq (s ++ [Cell.dic [], .lst vs]) (.lst []) (.lst []) = some (.bl true) := gEq_lstI (st := s ++ [Cell.dic [], .lst vs]) [] []
  rw [ev_sSeq, e1, seq_nx, ev_sSeq, e2, seq_nx, ev_sRet, ev_xOp, ev_xLc, ev_iOf, ev_xVar]
  simp only [List.getElem?_cons_zero, List.getElem?_cons_succ, bindK, seqI_loc hat2, liftI_some, sameAt_one hat2, hz, and_self, if_true, key, ev_xLst, ev_aNil, ge, lift_some, thenK]
end K12
set_option exponentiation.threshold 10000
namespace K12
open PySem PySem.Spec PyProof.Rows L2 DL
theorem dot_small {m n : Nat} : ∀ {xs ys : List Int}, Sm m xs → Sm n ys → (dotZ xs ys).natAbs ≤ xs.length * 2 ^ (m + n)
  | [], _, _, _ => by simp [dotZ]
  | _ :: _, [], _, _ => by simp [dotZ]
  | x :: xs, y :: ys, hx, hy => by
    have ih := dot_small (xs := xs) (ys := ys) (fun z h => hx z (by simp [h])) (fun z h => hy z (by simp [h]))
    have h1 : (x * y).natAbs ≤ 2 ^ (m + n) := by
      rw [Int.natAbs_mul, Nat.pow_add]
      exact Nat.mul_le_mul (Nat.le_of_lt (hx x (by simp))) (Nat.le_of_lt (hy y (by simp)))
    have e : dotZ (x :: xs) (y :: ys) = x * y + dotZ xs ys := rfl
    rw [e, List.length_cons, Nat.add_mul, Nat.one_mul]
    have := Int.natAbs_add_le (x * y) (dotZ xs ys)
    omega
theorem sm_le {m n : Nat} {xs : List Int} (h : Sm m xs) (hmn : m ≤ n) : Sm n xs := fun x hx => Nat.lt_of_lt_of_le (h x hx) (two_pow_le hmn)
theorem rng_nat {k : Nat} (h : k < 1000) : rng1 [.int (k : Nat)] = some (rngI 0 k, []) := by
  unfold rng1
  simp only
  rw [if_pos (by
    have : (2 : Int) ^ 62 = 4611686018427387904 := by decide
    omega)]
  simp
theorem rngI_len (k : Nat) : (rngI 0 k).length = k := by simp [rngI]
section
variable {st : Store} {w : Nat} {a b : List Int} {A C V R T M : Option D}
/-- the first three looks -/
theorem right_a (hw : 1 ≤ w ∧ w ≤ 20) (ha : a.length = w) (hb : b.length = w) (sa : Sm 101 a) (sb : Sm 101 b) (rest : Fs) :
    sSeq (sIf (tVal (xOp gNe (xCall gRepr (aCons (xLst (aCons (xApply F_product (aCons (xVar 1) (aCons (xVar 5) (aCons (xVar 6) aNil)))) (aCons (xApply F_lowest (aCons (xVar 1) (aCons (xVar 5) aNil))) aNil))) aNil)) (xCall gRepr (aCons (xLst (aCons (xApply F__law_dot (aCons (xVar 5) (aCons (xVar 6) aNil))) (aCons (xApply F__law_lowest (aCons (xVar 5) aNil)) aNil))) aNil)))) (sRet (xC (.bl false))) sPass) rest
      [A, some (.int (w : Nat)), C, V, R, some (rw a), some (rw b), T, M] st = rest [A, some (.int (w : Nat)), C, V, R, some (rw a), some (rw b), T, M] st := by
  have p1 := product_ok (st := st) (w := w) (by omega) ha hb sa sb (by decide) (by decide)
  have p2 := lowest_ok (st := st) (w := w) (by omega) ha (sm_le sa (by decide))
  have p3 := ldot_ok (st := st) sa sb (by decide) (by decide) (by omega)
  have p4 := llow_ok (st := st) (xs := a) (sm_le sa (by decide)) (by omega)
  have hd : (dotZ a b).natAbs < 2 ^ 500 := by
    have h1 := dot_small sa sb
    have h2 : a.length * 2 ^ (101 + 101) ≤ 20 * 2 ^ (101 + 101) := Nat.mul_le_mul_right _ (by omega)
    have h3 : 20 * 2 ^ (101 + 101) < 2 ^ 500 := by decide
    omega
  have hr := repr_two (s := st) (p := dotZ a b) (xs := low a) hd (low_small (sm_le sa (by decide))) (by rw [low_len]; omega)
  have hi : ((fun ρ st => xOp gNe (xCall gRepr (aCons (xLst (aCons (xApply F_product (aCons (xVar 1) (aCons (xVar 5) (aCons (xVar 6) aNil)))) (aCons (xApply F_lowest (aCons (xVar 1) (aCons (xVar 5) aNil))) aNil))) aNil)) (xCall gRepr (aCons (xLst (aCons (xApply F__law_dot (aCons (xVar 5) (aCons (xVar 6) aNil))) (aCons (xApply F__law_lowest (aCons (xVar 5) aNil)) aNil))) aNil)) ρ st) : Fe)
      [A, some (.int (w : Nat)), C, V, R, some (rw a), some (rw b), T, M] st = .ok (.bl false) st := by
    simp only [ev_xOp, ev_xCall, ev_aCons, ev_aNil, ev_xLst, ev_xApply, ev_xVar, List.getElem?_cons_zero, List.getElem?_cons_succ, bindK, p1, p2, p3, p4, hr, lift_some, gNe_str]
  rw [ev_sSeq, ev_sIf, ev_tVal]
  rw [show xOp gNe (xCall gRepr (aCons (xLst (aCons (xApply F_product (aCons (xVar 1) (aCons (xVar 5) (aCons (xVar 6) aNil)))) (aCons (xApply F_lowest (aCons (xVar 1) (aCons (xVar 5) aNil))) aNil))) aNil)) (xCall gRepr (aCons (xLst (aCons (xApply F__law_dot (aCons (xVar 5) (aCons (xVar 6) aNil))) (aCons (xApply F__law_lowest (aCons (xVar 5) aNil)) aNil))) aNil)) [A, some (.int (w : Nat)), C, V, R, some (rw a), some (rw b), T, M] st = .ok (.bl false) st from hi]
  simp only [bindK, ev_tB, liftB_some, thenK, Bool.false_eq_true, if_false, ev_sPass, seq_nx]
theorem right_b (hw : 1 ≤ w ∧ w ≤ 20) (ha : a.length = w) (sa : Sm 101 a) {O : Option D} (rest : Fs) :
    sSeq (sIf (tVal (xOp gNe (xApply F_lowest (aCons (xVar 1) (aCons (xCall gTupleOf (aCons (xLc (iOf (xVar 5)) (gN 8) tAll (xOp gMulT (xUn gNeg (xC (.int 7))) (xVar 8)) [8]) aNil)) aNil))) (xApply F__law_lowest (aCons (xVar 5) aNil)))) (sRet (xC (.bl false))) sPass) rest
      [A, some (.int (w : Nat)), C, V, R, some (rw a), O, T, M] st = rest [A, some (.int (w : Nat)), C, V, R, some (rw a), O, T, M] st := by
  have s7 : Sm 9000 (a.map fun x => -7 * x) := fun y hy => by
    obtain ⟨x, hx, rfl⟩ := List.mem_map.mp hy
    have := sa x hx
    have e : (2 : Nat) ^ 101 * 7 < 2 ^ 9000 := by
      have : (2 : Nat) ^ 101 * 7 < 2 ^ 104 := by decide
      exact Nat.lt_of_lt_of_le this (two_pow_le (by decide))
    have h7 : (-7 : Int).natAbs = 7 := rfl
    have h8 : (-7 * x).natAbs ≤ 2 ^ 101 * 7 := by
      rw [Int.natAbs_mul, h7]
      omega
    exact Nat.lt_of_le_of_lt h8 e
  have p2 := lowest_ok (st := st) (w := w) (xs := a.map fun x => -7 * x) (by omega) (by simpa using ha) s7
  rw [low_neg7] at p2
  have p4 := llow_ok (st := st) (xs := a) (sm_le sa (by decide)) (by omega)
  have n7 : ∀ s, gNeg s (.int 7) = some (.int (-7)) := fun _ => rfl
  have key := lcD_all (g := gN 8) (f := xOp gMulT (xUn gNeg (xC (.int 7))) (xVar 8)) (ws := []) (st := st) (ρ := wipeD [A, some (.int (w : Nat)), C, V, R, some (rw a), O, T, M] [8]) (fun d => match d with | .int x => .int (-7 * x) | d => d) rfl (a.map D.int) fun d hd => by
    obtain ⟨x, hx, rfl⟩ := List.mem_map.mp hd
    have hm : gMulT st (.int (-7)) (.int x) = some (.int (-7 * x)) := gMul_int (mul_room (m := 64) (n := 101) (by decide) (sa x hx) (by decide) (by decide) (by decide))
    refine ⟨_, rfl, ?_⟩
    simp only [wipeD, ev_xOp, ev_xUn, ev_xC, ev_xVar, List.set_cons_zero, List.set_cons_succ, List.getElem?_cons_zero, List.getElem?_cons_succ, bindK, n7, hm, lift_some]
  have em : ((a.map D.int).map fun d => match d with | .int x => D.int (-7 * x) | d => d) = (a.map fun x => -7 * x).map D.int := by
    rw [List.map_map, List.map_map]; rfl
  rw [em] at key
  have hz : (a.map D.int).length ≤ sizeLine := small_len (by simp; omega)
  have he : xOp gNe (xApply F_lowest (aCons (xVar 1) (aCons (xCall gTupleOf (aCons (xLc (iOf (xVar 5)) (gN 8) tAll (xOp gMulT (xUn gNeg (xC (.int 7))) (xVar 8)) [8]) aNil)) aNil))) (xApply F__law_lowest (aCons (xVar 5) aNil)) [A, some (.int (w : Nat)), C, V, R, some (rw a), O, T, M] st = .ok (.bl false) st := by
    rw [ev_xOp, ev_xApply, ev_aCons, ev_xVar]
    simp only [List.getElem?_cons_zero, List.getElem?_cons_succ, bindK, ev_aCons, ev_aNil, ev_xCall, ev_xLc, ev_iOf, ev_xVar, ev_xApply, sq_tup, liftI_some, sameAt_nil, hz, and_self, if_true, key, gTupleOf_lst, lift_some, p2, p4, gNe_tupI, BEq.rfl, Bool.not_true]
  rw [ev_sSeq, ev_sIf, ev_tVal, he]
  simp only [bindK, ev_tB, liftB_some, thenK, Bool.false_eq_true, if_false, ev_sPass, seq_nx]
theorem right_c (hw : 1 ≤ w ∧ w ≤ 20) (ha : a.length = w) (hb : b.length = w) (sa : Sm 101 a) (sb : Sm 101 b) (rest : Fs) :
    sSeq (sIf (tVal (xOp gNe (xApply F_product (aCons (xVar 1) (aCons (xVar 6) (aCons (xVar 5) aNil)))) (xApply F__law_dot (aCons (xVar 5) (aCons (xVar 6) aNil))))) (sRet (xC (.bl false))) sPass) rest
      [A, some (.int (w : Nat)), C, V, R, some (rw a), some (rw b), T, M] st = rest [A, some (.int (w : Nat)), C, V, R, some (rw a), some (rw b), T, M] st := by
  have p1 := product_ok (st := st) (w := w) (by omega) hb ha sb sa (by decide) (by decide)
  rw [dotZ_comm b a] at p1
  have p3 := ldot_ok (st := st) sa sb (by decide) (by decide) (by omega)
  have he : xOp gNe (xApply F_product (aCons (xVar 1) (aCons (xVar 6) (aCons (xVar 5) aNil)))) (xApply F__law_dot (aCons (xVar 5) (aCons (xVar 6) aNil))) [A, some (.int (w : Nat)), C, V, R, some (rw a), some (rw b), T, M] st = .ok (.bl false) st := by
    simp only [ev_xOp, ev_aCons, ev_aNil, ev_xApply, ev_xVar, List.getElem?_cons_zero, List.getElem?_cons_succ, bindK, p1, p3, lift_some, gNe_int, BEq.rfl, Bool.not_true]
  rw [ev_sSeq, ev_sIf, ev_tVal, he]
  simp only [bindK, ev_tB, liftB_some, thenK, Bool.false_eq_true, if_false, ev_sPass, seq_nx]
end
/-- the drawn lot -/
theorem right_lot {st : Store} {l n w : Nat} {t : Tri} {a b : D} (S : Dst st l) (G : Gd n t) (hn : n + 200 < 2 ^ 60) (hw : 1 ≤ w ∧ w ≤ 20) :
    ∃ lot t1, LotOk w 1631 lot ∧ lot.length ≤ 3 ∧ Gd (n + 100) t1 ∧ ∀ rest : Fs,
    sSeq (sSet 2 (xApply F_lot_of (aCons (xVar 1) (aCons (xCall gTupleOf (aCons (xLc (iRng rng1 (aCons (xApply F__law_roll (aCons (xVar 0) (aCons (xC (.int 4)) aNil))) aNil)) (gN 7) tAll (xApply F__law_drawn (aCons (xVar 0) (aCons (xVar 1) aNil))) [7]) aNil)) aNil)))) rest
      [some (.loc l), some (.int (w : Nat)), none, none, none, some a, some b, none, none] (st.set l (Dc t)) =
    rest [some (.loc l), some (.int (w : Nat)), some (.tup (lot.map rw)), none, none, some a, some b, none, none] (st.set l (Dc t1)) := by
  obtain ⟨v, t1, e1, v0, v1, G1⟩ := roll_ok (k := 4) S G (by omega) (by decide) (by decide)
  obtain ⟨k, rfl⟩ : ∃ k : Nat, v = (k : Nat) := ⟨v.toNat, by omega⟩
  have hk : k ≤ 3 := by omega
  have hr := rng_nat (k := k) (by omega)
  obtain ⟨ys, s', hlc, hlen, ⟨t2, rfl, G2⟩, hP⟩ := lcD_inv (g := gN 7) (ws := []) (s0 := st.set l (Dc t1)) (ρ := wipeD [some (.loc l), some (.int (w : Nat)), none, none, none, some a, some b, none, none] [7])
    (f := xApply F__law_drawn (aCons (xVar 0) (aCons (xVar 1) aNil)))
    (fun j s => ∃ t', s = st.set l (Dc t') ∧ Gd (n + 1 + j * w) t') (fun x => ∃ r : List Int, x = rw r ∧ r.length = w ∧ Sm 101 r) (rngI 0 k) 0 (st.set l (Dc t1)) ⟨t1, rfl, by simpa using G1⟩ (by
      rintro j d s hd ⟨t1, rfl, G1⟩
      have hjw : j < k := by
        have := (List.getElem?_eq_some_iff.mp hd).1
        rwa [rngI_len] at this
      have hb : (0 + j) * w ≤ 3 * 20 := Nat.mul_le_mul (by omega) (by omega)
      obtain ⟨r, t2, e, hl, hs, G2⟩ := drawn_ok (w := w) S G1 (by omega) (by omega)
      refine ⟨_, rw r, st.set l (Dc t2), rfl, ?_, rfl, ⟨t2, rfl, by rw [Nat.add_mul (0 + j) 1 w]; simpa [Nat.add_assoc] using G2⟩, r, rfl, hl, hs⟩
      simp only [wipeD, ev_xApply, ev_aCons, ev_aNil, ev_xVar, bindK, List.set_cons_zero, List.set_cons_succ, List.getElem?_cons_zero, List.getElem?_cons_succ, e])
  obtain ⟨rows, rfl, hrows⟩ : ∃ rows : List (List Int), ys = rows.map rw ∧ ∀ r ∈ rows, r.length = w ∧ Sm 101 r := by
    clear hlc hlen
    induction ys with
    | nil => exact ⟨[], rfl, fun x hx => by simp at hx⟩
    | cons y ys ih =>
      obtain ⟨r, rfl, hi⟩ := hP y (by simp)
      obtain ⟨xs, rfl, hxs⟩ := ih fun z hz => hP z (by simp [hz])
      refine ⟨r :: xs, rfl, fun x hx => ?_⟩
      rcases List.mem_cons.mp hx with e | hx
      · rw [e]; exact hi
      · exact hxs x hx
  rw [rngI_len] at hlen G2
  have hkl : rows.length = k := by simpa using hlen
  obtain ⟨lot, e2, L, hl⟩ := lotof_ok (st := st.set l (Dc t2)) (w := w) (by omega) hrows (by omega)
  have hb : (0 + k) * w ≤ 3 * 20 := Nat.mul_le_mul (by omega) (by omega)
  refine ⟨lot, t2, L, hl, G2.mono (by omega), fun rest => ?_⟩
  have hz : (rngI 0 k).length ≤ sizeLine := by rw [rngI_len]; exact small_len (by omega)
  have hi : iRng rng1 (aCons (xApply F__law_roll (aCons (xVar 0) (aCons (xC (.int 4)) aNil))) aNil) [some (.loc l), some (.int (w : Nat)), none, none, none, some a, some b, none, none] (st.set l (Dc t)) = .ok (rngI 0 k, []) (st.set l (Dc t1)) :=
    fi_rng (ds := [.int (k : Nat)]) (by simp only [ev_aCons, ev_aNil, ev_xApply, ev_xVar, ev_xC, bindK, List.getElem?_cons_zero, List.getElem?_cons_succ, e1]) hr
  have hc : xLc (iRng rng1 (aCons (xApply F__law_roll (aCons (xVar 0) (aCons (xC (.int 4)) aNil))) aNil)) (gN 7) tAll (xApply F__law_drawn (aCons (xVar 0) (aCons (xVar 1) aNil))) [7] [some (.loc l), some (.int (w : Nat)), none, none, none, some a, some b, none, none] (st.set l (Dc t)) = .ok (.lst (rows.map rw)) (st.set l (Dc t2)) := by
    rw [ev_xLc, hi]
    simp only [bindK, sameAt_nil, hz, and_self, if_true, hlc]
  rw [ev_sSeq, ev_sSet, ev_xApply, ev_aCons, ev_xVar]
  simp only [List.getElem?_cons_zero, List.getElem?_cons_succ, bindK, ev_aCons, ev_aNil, ev_xCall, hc, gTupleOf_lst, lift_some, e2, thenK, List.set_cons_zero, List.set_cons_succ, seq_nx]
theorem right_ok {st : Store} {l n w : Nat} {t : Tri} (S : Dst st l) (G : Gd n t) (hn : n + 1000 < 2 ^ 60) (hw : 1 ≤ w ∧ w ≤ 20) :
    ∃ t', F__law_right [.loc l, .int (w : Nat)] (st.set l (Dc t)) = .ok (.bl true) (st.set l (Dc t')) ∧ Gd (n + 500) t' := by
  obtain ⟨a, t1, e1, ha, sa, G1⟩ := drawn_ok (w := w) S G (by omega) (by omega)
  obtain ⟨b, t2, e2, hb, sb, G2⟩ := drawn_ok (w := w) S G1 (by omega) (by omega)
  obtain ⟨lot, t3, L, hl, G3, e3⟩ := right_lot (w := w) (a := rw a) (b := rw b) S G2 (by omega) hw
  obtain ⟨vs, t4, e4, V, G4, _⟩ := near_ok (w := w) S G3 (by omega) (by omega) L hl
  obtain ⟨d', e5⟩ := near_loop (st := st.set l (Dc t4)) (w := w) (by omega) (a := some (.loc l)) (b := some (.int (w : Nat))) (c := some (.tup (lot.map rw))) (e := none) (f := some (rw a)) (g := some (rw b)) (h := none) (i := none) rfl vs none V
  obtain ⟨us, e6⟩ := rows_tail (s := st.set l (Dc t4)) (w := w) (one := a) (A := some (.loc l)) (C := some (.tup (lot.map rw))) (V := d') (O := some (rw b)) (T := none) (M := none) (by omega) ha
  have len1 : ∀ c, (st.set l c).length = st.length := fun c => List.length_set
  refine ⟨t4, runP_below (s2 := [.dic [], .lst us]) ?_ (by rw [len1, len1]) (S.be _ _) (by simp), G4.mono (by omega)⟩
  have e0 : List.replicate (9 - (0 + 1 + 1)) (none : Option D) = [none, none, none, none, none, none, none] := rfl
  show ofS (b__law_right _ _) = _
  unfold b__law_right
  simp only [DL.start, List.map_cons, List.map_nil, List.length_cons, List.length_nil, e0, List.cons_append, List.nil_append]
  rw [ev_sSeq, ev_sPar]
  simp only [ev_aCons, ev_aNil, ev_xApply, ev_xVar, List.getElem?_cons_zero, List.getElem?_cons_succ, bindK, e1, e2, thenK, List.set_cons_zero, List.set_cons_succ, seq_nx]
  rw [right_a hw ha hb sa sb, right_b hw ha sa, right_c hw ha hb sa sb, e3, ev_sSeq, ev_sFor, ev_iOf, ev_xApply]
  simp only [ev_aCons, ev_aNil, ev_xVar, List.getElem?_cons_zero, List.getElem?_cons_succ, bindK, e4, sq_lst, liftI_some, thenK, sameAt_nil, if_true]
  rw [e5, seq_nx, e6, ofS_ret]
end K12
namespace K12
open PySem PySem.Spec PyProof.Rows L2 DL
def DiceS (st : Store) : Prop := ∀ c ∈ st, ∃ t, c = Dc t
theorem dice_below {st : Store} (h : DiceS st) (n : Nat) : Store.below n st = true := by
  induction st with
  | nil => rfl
  | cons c st ih =>
    obtain ⟨t, rfl⟩ := h c (by simp)
    have := ih fun d hd => h d (by simp [hd])
    simp only [Store.below, this, Bool.and_true]
    simp [Dc, Cell.below, D.undL]
theorem dice_set {st : Store} (h : DiceS st) (l : Nat) (t : Tri) : DiceS (st.set l (Dc t)) := fun c hc => by
  rcases List.mem_or_eq_of_mem_set hc with h1 | h1
  · exact h c h1
  · exact ⟨t, h1⟩
theorem dice_dst {st : Store} (h : DiceS st) {l : Nat} (hl : l < st.length) : Dst st l := ⟨hl, fun t m => dice_below (dice_set h l t) m⟩
theorem set_last (st : Store) (t u : Tri) : (st ++ [Dc t]).set st.length (Dc u) = st ++ [Dc u] := by
  rw [List.set_append_right _ _ (Nat.le_refl _), Nat.sub_self]; rfl
/-- one turn -/
theorem turn_ok {st : Store} {l n : Nat} {t : Tri} {a b c e : Option D} (S : Dst st l) (G : Gd n t) (hn : n + 2000 < 2 ^ 60) :
    ∃ t', sIf (tNotF (tVal (xApply F__law_right (aCons (xVar 3) (aCons (xOp gAdd (xC (.int 1)) (xApply F__law_roll (aCons (xVar 3) (aCons (xC (.int 7)) aNil)))) aNil))))) (sRet (xC (.bl false))) sPass [a, b, c, some (.loc l), e] (st.set l (Dc t)) = .nx [a, b, c, some (.loc l), e] (st.set l (Dc t')) ∧ Gd (n + 501) t' := by
  obtain ⟨v, t1, e1, v0, v1, G1⟩ := roll_ok (k := 7) S G (by omega) (by decide) (by decide)
  obtain ⟨k, rfl⟩ : ∃ k : Nat, v = (k : Nat) := ⟨v.toNat, by omega⟩
  obtain ⟨t2, e2, G2⟩ := right_ok (w := 1 + k) S G1 (by omega) (by omega)
  refine ⟨t2, ?_, G2.mono (by omega)⟩
  have hc : (1 : Int) + (k : Nat) = ((1 + k : Nat) : Int) := by omega
  simp only [ev_sIf, ev_tNotF, ev_tVal, ev_xApply, ev_aCons, ev_aNil, ev_xVar, ev_xOp, ev_xC, List.getElem?_cons_zero, List.getElem?_cons_succ, bindK, e1, gAdd_int, hc, lift_some, e2, ev_tB, liftB_some, Bool.not_true, thenK, Bool.false_eq_true, if_false, ev_sPass]
theorem turns_ok {st : Store} {l : Nat} {t : Tri} {a b c e : Option D} (S : Dst st l) (G : Gd 0 t) :
    ∃ e' t', sFor (iRng rng1 (aCons (xC (.int 4)) aNil)) (gN 4) (sIf (tNotF (tVal (xApply F__law_right (aCons (xVar 3) (aCons (xOp gAdd (xC (.int 1)) (xApply F__law_roll (aCons (xVar 3) (aCons (xC (.int 7)) aNil)))) aNil))))) (sRet (xC (.bl false))) sPass) [a, b, c, some (.loc l), e] (st.set l (Dc t)) = .nx [a, b, c, some (.loc l), e'] (st.set l (Dc t')) := by
  have hr : rng1 [.int (4 : Nat)] = some (rngI 0 4, []) := rng_nat (k := 4) (by decide)
  have hi : iRng rng1 (aCons (xC (.int 4)) aNil) [a, b, c, some (.loc l), e] (st.set l (Dc t)) = .ok (rngI 0 4, []) (st.set l (Dc t)) := fi_rng (ds := [.int (4 : Nat)]) rfl hr
  obtain ⟨ρ2, s2, e1, ⟨e', t', rfl, rfl, _⟩⟩ := forD_nx (g := gN 4) (body := sIf (tNotF (tVal (xApply F__law_right (aCons (xVar 3) (aCons (xOp gAdd (xC (.int 1)) (xApply F__law_roll (aCons (xVar 3) (aCons (xC (.int 7)) aNil)))) aNil))))) (sRet (xC (.bl false))) sPass) (ws := []) (s0 := st.set l (Dc t))
    (fun j ρ s => ∃ e' t', ρ = [a, b, c, some (.loc l), e'] ∧ s = st.set l (Dc t') ∧ Gd (j * 501) t') (rngI 0 4) 0 [a, b, c, some (.loc l), e] (st.set l (Dc t)) ⟨e, t, rfl, rfl, by simpa using G⟩ (by
      rintro j d ρ s hd ⟨e', t1, rfl, rfl, G1⟩
      have hj : j < 4 := by
        have := (List.getElem?_eq_some_iff.mp hd).1
        rwa [rngI_len] at this
      obtain ⟨t2, q, G2⟩ := turn_ok (a := a) (b := b) (c := c) (e := some d) S G1 (by omega)
      exact ⟨[a, b, c, some (.loc l), some d], _, _, rfl, q, rfl, some d, t2, rfl, rfl, by rw [Nat.add_mul (0 + j) 1]; simpa using G2⟩)
  refine ⟨e', t', ?_⟩
  rw [ev_sFor, hi]
  simp only [thenK, sameAt_nil, if_true]
  exact e1
theorem spots_ok {ns : List Int} {k : Nat} (hk : k ≤ 6) {c : Option D} {fa : Fa} (hfa : ∀ b e f st, fa [some (.rol (ns.map D.int)), b, c, e, f] st = .ok [.int (k : Nat)] st) {b e f : Option D} :
    ∃ ρ st, sFor (iRng rng1 fa) (gN 1) (sSeq (sSet 3 (xApply F__law_dice (aCons (xVar 0) (aCons (xVar 1) aNil)))) (sFor (iRng rng1 (aCons (xC (.int 4)) aNil)) (gN 4) (sIf (tNotF (tVal (xApply F__law_right (aCons (xVar 3) (aCons (xOp gAdd (xC (.int 1)) (xApply F__law_roll (aCons (xVar 3) (aCons (xC (.int 7)) aNil)))) aNil))))) (sRet (xC (.bl false))) sPass)))
      [some (.rol (ns.map D.int)), b, c, e, f] [] = .nx ρ st ∧ ∃ b e f, ρ = [some (.rol (ns.map D.int)), b, c, e, f] := by
  have hi : iRng rng1 fa [some (.rol (ns.map D.int)), b, c, e, f] [] = .ok (rngI 0 k, []) [] := fi_rng (hfa b e f []) (rng_nat (k := k) (by omega))
  obtain ⟨ρ2, s2, e1, ⟨⟨b', e', f', rfl⟩, _⟩⟩ := forD_nx (g := gN 1) (body := sSeq (sSet 3 (xApply F__law_dice (aCons (xVar 0) (aCons (xVar 1) aNil)))) (sFor (iRng rng1 (aCons (xC (.int 4)) aNil)) (gN 4) (sIf (tNotF (tVal (xApply F__law_right (aCons (xVar 3) (aCons (xOp gAdd (xC (.int 1)) (xApply F__law_roll (aCons (xVar 3) (aCons (xC (.int 7)) aNil)))) aNil))))) (sRet (xC (.bl false))) sPass))) (ws := []) (s0 := [])
    (fun j ρ s => (∃ b e f, ρ = [some (.rol (ns.map D.int)), b, c, e, f]) ∧ DiceS s) (rngI 0 k) 0 [some (.rol (ns.map D.int)), b, c, e, f] [] ⟨⟨b, e, f, rfl⟩, fun c hc => by simp at hc⟩ (by
      rintro j d ρ s hd ⟨⟨b', e', f', rfl⟩, hs⟩
      have hj : j < k := by
        have := (List.getElem?_eq_some_iff.mp hd).1
        rwa [rngI_len] at this
      have hdj : d = .int (j : Nat) := by
        have h2 : (rngI 0 k)[j]? = some (.int (j : Nat)) := by simp [rngI, hj]
        rw [h2] at hd
        exact (Option.some.inj hd).symm
      subst hdj
      obtain ⟨t, q, G⟩ := dice_ok (st := s) (ns := ns) (k := j) (by omega)
      have hs1 : DiceS (s ++ [Dc t]) := fun c hc => by
        rcases List.mem_append.mp hc with h | h
        · exact hs c h
        · exact ⟨t, List.mem_singleton.mp h⟩
      have S := dice_dst hs1 (l := s.length) (by simp)
      obtain ⟨f2, t2, q2⟩ := turns_ok (a := some (.rol (ns.map D.int))) (b := some (.int (j : Nat))) (c := c) (e := f') S G
      rw [set_last, set_last] at q2
      refine ⟨[some (.rol (ns.map D.int)), some (.int (j : Nat)), c, e', f'], [some (.rol (ns.map D.int)), some (.int (j : Nat)), c, some (.loc s.length), f2], s ++ [Dc t2], rfl, ?_, rfl, ⟨_, _, _, rfl⟩, ?_⟩
      · rw [ev_sSeq, ev_sSet, ev_xApply]
        simp only [ev_aCons, ev_aNil, ev_xVar, List.getElem?_cons_zero, List.getElem?_cons_succ, bindK, q, thenK, List.set_cons_zero, List.set_cons_succ, seq_nx]
        exact q2
      · rw [← set_last s t t2]; exact dice_set hs1 _ _)
  refine ⟨_, s2, ?_, b', e', f', rfl⟩
  rw [ev_sFor, hi]
  simp only [thenK, sameAt_nil, if_true]
  exact e1
/-- what is told at the end -/
def toldD : List D := [rw [0, 3, -2], rw [0, 0], .int 2, .bl false]
def toldP : PyData := .list [.tuple [.int 0, .int 3, .int (-2)], .tuple [.int 0, .int 0], .int 2, .bool false, .bool true]
theorem told_show : showD toldP = true := by decide +kernel
theorem told_ok {ρ : DEnv} {st : Store} (hl : ρ[2]? = some none) : ∃ s2,
    sSeq (sSet 2 (xNew (aCons (xApply F_lowest (aCons (xC (.int 3)) (aCons (xTup (aCons (xC (.int 0)) (aCons (xUn gNeg (xC (.int 6))) (aCons (xC (.int 4)) aNil)))) aNil))) (aCons (xApply F_lowest (aCons (xC (.int 2)) (aCons (xTup (aCons (xC (.int 0)) (aCons (xC (.int 0)) aNil))) aNil))) (aCons (xApply F_product (aCons (xC (.int 2)) (aCons (xTup (aCons (xC (.int 2)) (aCons (xUn gNeg (xC (.int 1))) aNil))) (aCons (xTup (aCons (xC (.int 3)) (aCons (xC (.int 4)) aNil))) aNil)))) (aCons (xApply F_is_lot (aCons (xC (.int 2)) (aCons (xTup (aCons (xTup (aCons (xC (.int 2)) (aCons (xC (.int 4)) aNil))) aNil)) aNil))) aNil)))))) (sSeq (sDrop (xApp (xVar 2) (xApply F_is_lot (aCons (xC (.int 200)) (aCons (xTup aNil) aNil))))) (sRet (xOp gEq (xCall gRepr (aCons (xVar 2) aNil)) (xCall gRepr (aCons (xLst (aCons (xTup (aCons (xC (.int 0)) (aCons (xC (.int 3)) (aCons (xUn gNeg (xC (.int 2))) aNil)))) (aCons (xTup (aCons (xC (.int 0)) (aCons (xC (.int 0)) aNil))) (aCons (xC (.int 2)) (aCons (xC (.bl false)) (aCons (xC (.bl true)) aNil)))))) aNil))))) ρ st = .ret (.bl true) s2 := by
  have l1 : ∀ s, F_lowest [.int 3, .tup [.int 0, .int (-6), .int 4]] s = .ok (rw [0, 3, -2]) s := fun s => by
    have h := lowest_ok (st := s) (w := 3) (xs := [0, -6, 4]) (by decide) rfl (by intro x hx; simp at hx; rcases hx with rfl | rfl | rfl <;> exact Nat.lt_of_lt_of_le (m := 2 ^ 3) (by decide) (two_pow_le (by decide)))
    rw [show low [0, -6, 4] = [0, 3, -2] by decide +kernel] at h
    exact h
  have l2 : ∀ s, F_lowest [.int 2, .tup [.int 0, .int 0]] s = .ok (rw [0, 0]) s := fun s => by
    have h := lowest_ok (st := s) (w := 2) (xs := [0, 0]) (by decide) rfl (by intro x hx; simp at hx; rw [hx]; exact Nat.lt_of_lt_of_le (m := 2 ^ 3) (by decide) (two_pow_le (by decide)))
    rw [show low [0, 0] = [0, 0] by decide +kernel] at h
    exact h
  have l3 : ∀ s, F_product [.int 2, .tup [.int 2, .int (-1)], .tup [.int 3, .int 4]] s = .ok (.int 2) s := fun s => by
    have h := product_ok (st := s) (w := 2) (xs := [2, -1]) (ys := [3, 4]) (n := 5) (by decide) rfl rfl (by intro x hx; simp at hx; rcases hx with rfl | rfl <;> decide) (by intro x hx; simp at hx; rcases hx with rfl | rfl <;> decide) (by decide) (by decide)
    exact h
  have l4 : ∀ s, F_is_lot [.int 2, .tup [.tup [.int 2, .int 4]]] s = .ok (.bl false) s := fun s => by
    have V : Vok (.tup [rw [2, 4]]) := vok_tup (by decide) fun d hd => by
      rw [List.mem_singleton.mp hd]
      exact iok_rw (by intro x hx; simp at hx; rcases hx with rfl | rfl <;> exact Nat.lt_of_lt_of_le (m := 2 ^ 3) (by decide) (two_pow_le (by decide))) (by decide)
    have h := islot_ok (st := s) (w := 2) (v := .tup [rw [2, 4]]) (by decide) (V.fv s)
    rw [show lotB 2 (.tup [rw [2, 4]]) = false by decide +kernel] at h
    exact h
  have l5 : ∀ s, F_is_lot [.int 200, .tup []] s = .ok (.bl true) s := fun s => by
    have V : Vok (.tup []) := vok_tup (by decide) fun d hd => by simp at hd
    have h := islot_ok (st := s) (w := 200) (v := .tup []) (by decide) (V.fv s)
    rw [show lotB 200 (.tup []) = true by decide +kernel] at h
    exact h
  have n : ∀ s i, gNeg s (.int i) = some (.int (-i)) := fun _ _ => rfl
  have hlen : 2 < ρ.length := (List.getElem?_eq_some_iff.mp hl).1
  have e1 : sSet 2 (xNew (aCons (xApply F_lowest (aCons (xC (.int 3)) (aCons (xTup (aCons (xC (.int 0)) (aCons (xUn gNeg (xC (.int 6))) (aCons (xC (.int 4)) aNil)))) aNil))) (aCons (xApply F_lowest (aCons (xC (.int 2)) (aCons (xTup (aCons (xC (.int 0)) (aCons (xC (.int 0)) aNil))) aNil))) (aCons (xApply F_product (aCons (xC (.int 2)) (aCons (xTup (aCons (xC (.int 2)) (aCons (xUn gNeg (xC (.int 1))) aNil))) (aCons (xTup (aCons (xC (.int 3)) (aCons (xC (.int 4)) aNil))) aNil)))) (aCons (xApply F_is_lot (aCons (xC (.int 2)) (aCons (xTup (aCons (xTup (aCons (xC (.int 2)) (aCons (xC (.int 4)) aNil))) aNil)) aNil))) aNil))))) ρ st = .nx (ρ.set 2 (some (.loc st.length))) (st ++ [.lst toldD]) := by
    simp only [ev_sSet, ev_xNew, ev_aCons, ev_aNil, ev_xApply, ev_xC, ev_xTup, ev_xUn, bindK, n, lift_some, l1, l2, l3, l4, thenK, toldD]
  have hat : (st ++ [Cell.lst toldD])[st.length]? = some (.lst toldD) := by simp
  have hv : ∀ s, xVar 2 (ρ.set 2 (some (.loc st.length))) s = .ok (.loc st.length) s := fun s => by
    rw [ev_xVar, List.getElem?_set_self hlen]
  have e2 := app_ok (ρ := ρ.set 2 (some (.loc st.length))) (s := st ++ [.lst toldD]) (fo := xVar 2) (fe := xApply F_is_lot (aCons (xC (.int 200)) (aCons (xTup aNil) aNil))) (v := .bl true) (hv _) hat (by
    simp only [ev_xApply, ev_aCons, ev_aNil, ev_xC, ev_xTup, bindK, l5]) (by simp [toldD])
  have hset : (st ++ [Cell.lst toldD]).set st.length (.lst (toldD ++ [.bl true])) = st ++ [Cell.lst (toldD ++ [.bl true])] := by
    rw [List.set_append_right _ _ (Nat.le_refl _), Nat.sub_self]; rfl
  rw [hset] at e2
  have hat2 : (st ++ [Cell.lst (toldD ++ [.bl true])])[st.length]? = some (.lst (toldD ++ [.bl true])) := by simp
  have r1 : gRepr (st ++ [Cell.lst (toldD ++ [.bl true])]) [.loc st.length] = some (.str toldP.shown) := by
    have tp : toPyT (st ++ [Cell.lst (toldD ++ [.bl true])]) (.loc st.length) = some toldP := by
      unfold toPyT
      simp only [hat2]
      rfl
    show ((toPyT (st ++ [Cell.lst (toldD ++ [.bl true])]) (.loc st.length)).bind fun p => if showD p = true then some (D.str p.shown) else none) = _
    rw [tp, Option.bind_some, if_pos told_show]
  have r2 : gRepr (st ++ [Cell.lst (toldD ++ [.bl true])]) [.lst [.tup [.int 0, .int 3, .int (-2)], .tup [.int 0, .int 0], .int 2, .bl false, .bl true]] = some (.str toldP.shown) := by
    have tp : toPyT (st ++ [Cell.lst (toldD ++ [.bl true])]) (.lst [.tup [.int 0, .int 3, .int (-2)], .tup [.int 0, .int 0], .int 2, .bl false, .bl true]) = some toldP := rfl
    show ((toPyT (st ++ [Cell.lst (toldD ++ [.bl true])]) (.lst [.tup [.int 0, .int 3, .int (-2)], .tup [.int 0, .int 0], .int 2, .bl false, .bl true])).bind fun p => if showD p = true then some (D.str p.shown) else none) = _
    rw [tp, Option.bind_some, if_pos told_show]
  have ge : ∀ s x, gEq s (.str x) (.str x) = some (.bl true) := fun s x => by
    show some (D.bl (decide (x = x))) = _
    simp
  refine ⟨st ++ [Cell.lst (toldD ++ [.bl true])], ?_⟩
  rw [ev_sSeq, e1, seq_nx, ev_sSeq, e2, seq_nx, ev_sRet, ev_xOp, ev_xCall, ev_aCons, hv]
  simp only [ev_aCons, ev_aNil, ev_xCall, ev_xLst, ev_xTup, ev_xC, ev_xUn, bindK, n, lift_some, r1, r2, ge, thenK]
end K12
namespace K12
open PySem PySem.Spec PyProof.Rows L2 DL
theorem math (ns : List Int) (_ : ns.length ≤ 63) : ∃ st, F_law [.rol (ns.map D.int)] [] = .ok (.bl true) st := by
  obtain ⟨k, hk, hkv⟩ : ∃ k : Nat, k ≤ 6 ∧ (if (if ((ns.map D.int).length : Int) < 6 then ((ns.map D.int).length : Int) else 6) > 1 then (if ((ns.map D.int).length : Int) < 6 then ((ns.map D.int).length : Int) else 6) else 1) = (k : Nat) := by
    refine ⟨((if (if ((ns.map D.int).length : Int) < 6 then ((ns.map D.int).length : Int) else 6) > 1 then (if ((ns.map D.int).length : Int) < 6 then ((ns.map D.int).length : Int) else 6) else 1)).toNat, ?_, ?_⟩ <;> split <;> split <;> omega
  have hfa : ∀ b c e f st, aCons (xCall gMax (aCons (xC (.int 1)) (aCons (xCall gMin (aCons (xC (.int 6)) (aCons (xCall gLen (aCons (xVar 0) aNil)) aNil))) aNil))) aNil [some (.rol (ns.map D.int)), b, c, e, f] st = .ok [.int (k : Nat)] st := fun b c e f st => by
    simp only [ev_aCons, ev_aNil, ev_xCall, ev_xC, ev_xVar, List.getElem?_cons_zero, bindK, gLen_rol, lift_some, gMin_two, gMax_two, hkv]
  obtain ⟨ρ, st, e1, b, e, f, rfl⟩ := spots_ok (ns := ns) hk (c := none) (fun b e f st => hfa b none e f st) (b := none) (e := none) (f := none)
  obtain ⟨s2, e2⟩ := told_ok (ρ := [some (.rol (ns.map D.int)), b, none, e, f]) (st := st) rfl
  refine ⟨[], runP_cut (s2 := s2) ?_ (by simp)⟩
  have e0 : List.replicate (5 - (0 + 1)) (none : Option D) = [none, none, none, none] := rfl
  show ofS (b_law _ _) = _
  unfold b_law
  simp only [DL.start, List.map_cons, List.map_nil, List.length_cons, List.length_nil, e0, List.cons_append, List.nil_append]
  rw [ev_sSeq, e1, seq_nx, e2, ofS_ret]
end K12
set_option maxHeartbeats 0
namespace K12
open PySem PySem.Spec PyProof.Rows L2 DL
abbrev R : PySem.W.OpenRow := PySem.W.OpenLaw.row PySem.Challenge.rw_shiftlaws_k12_whole_rows
abbrev hk : PySem.W.Hook := He.hookD 4 fas fns
def ob (s : PySem.W.SharedT) : He.AlD := He.obsDG 4 fas fns (HandSHeadRun.getT s)
theorem ob_eq (s : PySem.W.SharedT) : ob s = hk.obs s.abs := He.obsDG_eq (HandSHeadRun.getT_eq s)
def loose : List Str := (["SeriesError", "InvalidRow", "InvalidCount", "MAX_WIDTH", "is_integer", "require_width", "is_plain_row", "lead_in", "common_share", "lowest_row", "is_plain_lot", "dot"] : List Str) ++ (["less_by", "rest_by", "with_row", "lot_in", "is_row", "is_lot", "require_row", "require_rows", "product", "lowest", "lot_of", "_law_dice"] : List Str) ++ (["_law_roll", "_law_pick", "_law_gcd", "_law_lead", "_law_lowest", "_law_dot", "_law_is_int", "_law_is_row", "_law_is_lot", "_law_drawn", "_law_near", "_law_right"] : List Str)
theorem run (w : World) : HandSHeadRun.RunEq R (PySem.W.view R.prog [39]) hk ob 3000 loose w := by
  intro os
  kernel_rfl
end K12
namespace K12
open PySem PySem.Spec PyProof.Rows L2 DL
set_option maxRecDepth 100000 in
set_option maxHeartbeats 0 in
theorem facts {P : Program} {w : World} {K : PySem.W.Frag} {h : Heap} {mg : Str → Option Value} {f : Addr} (X : K.In h) (G : h.Ns mainGlobals mg) (hfa : mg ("law" : Str) = some (.ref f)) (c : He.SaysD fas fns K) :
    ∃ fd : FuncData, (∀ (s : Shared) (u : Value), BindsTo s fd ⟨[u], []⟩ [("script", u)]) ∧ ∀ base : Heap, K.In base → base.Ns mainGlobals mg → FnG P w K mg base 8 f fd ["script"] (spD K 1 F_law) := by
  have T := txt_of X G c
  obtain ⟨a, fd, m, D⟩ := T.d_law
  cases hfa.symm.trans m
  have b := FunD.bindsA (ps := ["script"]) D fun _ _ _ _ _ _ us hl => match us, hl with | [_], _ => rfl
  exact ⟨fd, fun s v => b s [v] rfl, fun base _ _ => ok_law T D⟩
end K12
open PySem PySem.W PySem.Calls PyProof.Rows
set_option maxRecDepth 100000 in
set_option maxHeartbeats 0 in
theorem PySem.Challenge.cw_shiftlaws_k12_whole_rows_holds : PySem.Challenge.rw_shiftlaws_k12_whole_rows.Holds := by
  w_on; o_law
  refine HandSHeadRun.head_any (r := OpenLaw.row PySem.Challenge.rw_shiftlaws_k12_whole_rows) (q := view (OpenLaw.row PySem.Challenge.rw_shiftlaws_k12_whole_rows).prog [39]) (H := K12.hk) (ob := K12.ob) (M := 3000) (loose := K12.loose) (d := HandSHeadRun.topDef (OpenLaw.row PySem.Challenge.rw_shiftlaws_k12_whole_rows).prog 39) (kwd := []) K12.ob_eq
    (by kernel_rfl) (fun s => by kernel_rfl) K12.run (by kernel_rfl) (by kernel_rfl) (by kernel_rfl) (by rfl) (by first | assumption | decide +kernel) (by decide +kernel) ⟨rfl, rfl, rfl, rfl, rfl, by decide +kernel⟩ ?hw ?hc
  case hw => w_witness2
  case hc =>
    refine DL.lawD (l := PySem.Challenge.rw_shiftlaws_k12_whole_rows) (n := 63) (x := "script") rfl (by decide) (by kernel_rfl) ?F
    intro w mg fa h Y G hmg0
    obtain ⟨K, KX, c⟩ := Y
    have hmg : mg ("law" : PySem.Str) = some (.ref fa) := by
      have e : (HandSHeadRun.topDef (OpenLaw.row PySem.Challenge.rw_shiftlaws_k12_whole_rows).prog 39).name = ("law" : PySem.Str) := by kernel_rfl
      rw [← e]
      exact hmg0
    obtain ⟨fd, hb, hF⟩ := K12.facts (P := (PySem.Challenge.rw_shiftlaws_k12_whole_rows).prog) (w := w) KX G hmg c
    exact ⟨K, fd, 8, K12.F_law, ⟨rfl, by decide, by decide⟩, KX, hb, fun ns hl => K12.math ns hl, hF⟩
