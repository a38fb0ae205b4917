import PyProof.Rows.All
import Wide.All
import OpenK.AllK
import Wide.FinOn
import HandS.ForMost
import HandS.IsInst
import HandS.Deep
import HandS.Walk
import HandS.SortInts
import HandS.SetFor
import HandS.SortRule
import HandS.NoneIn
import HandS.DictTup
import HandS.TupLen
import HandS.Style
import HandS.WideBits
import KE.KDictSum
import HandS.Conv
import HandS.Zip
import PyProof.Rows.SortShellAny
import HandS.Rev
import HandS.SetKeys
import KE.SortData
import PySem.Challenge.RW_tiewood_k03_groups
set_option Elab.async false
set_option linter.all false
set_option maxRecDepth 100000
set_option maxHeartbeats 4000000
/-! A layer over the readings: typed data, an environment of frozen and owned things, answers as optional values. -/
namespace Tw
open PySem L2

/-! ### data at a heap -/
mutual
inductive Rp (H : Hp) : V → PyData → Prop
  | non : Rp H .non .none
  | bl (b : Bool) : Rp H (.bl b) (.bool b)
  | int (i : Int) : Rp H (.int i) (.int i)
  | str (x : Str) : Rp H (.str x) (.str x)
  | lst {p : Addr} {vs : List V} {ds : List PyData} : H p = some (.lst vs) → RpA H vs ds → Rp H (.ref p) (.list ds)
  | tup {p : Addr} {vs : List V} {ds : List PyData} : H p = some (.tup vs) → RpA H vs ds → Rp H (.ref p) (.tuple ds)
inductive RpA (H : Hp) : List V → List PyData → Prop
  | nil : RpA H [] []
  | cons {v : V} {vs : List V} {d : PyData} {ds : List PyData} : Rp H v d → RpA H vs ds → RpA H (v :: vs) (d :: ds)
end

mutual
theorem Rp.mono {H H' : Hp} (s : Same H H') : ∀ {v : V} {d : PyData}, Rp H v d → Rp H' v d
  | _, _, .non => .non
  | _, _, .bl b => .bl b
  | _, _, .int i => .int i
  | _, _, .str x => .str x
  | _, _, .lst h r => .lst (s _ _ h) (RpA.mono s r)
  | _, _, .tup h r => .tup (s _ _ h) (RpA.mono s r)
theorem RpA.mono {H H' : Hp} (s : Same H H') : ∀ {vs : List V} {ds : List PyData}, RpA H vs ds → RpA H' vs ds
  | _, _, .nil => .nil
  | _, _, .cons h r => .cons (Rp.mono s h) (RpA.mono s r)
end
mutual
theorem Rp.dp (K : PySem.W.Frag) {H : Hp} : ∀ {v : V} {d : PyData}, Rp H v d → Dp K H v d
  | _, _, .non => .non
  | _, _, .bl b => .bl b
  | _, _, .int i => .int i
  | _, _, .str x => .str x
  | _, _, .lst h r => .lst (SqL.of h) (RpA.dp K r)
  | _, _, .tup h r => .tup (SqT.of h) (RpA.dp K r)
theorem RpA.dp (K : PySem.W.Frag) {H : Hp} : ∀ {vs : List V} {ds : List PyData}, RpA H vs ds → DpAll K H vs ds
  | _, _, .nil => .nil
  | _, _, .cons h r => .cons (Rp.dp K h) (RpA.dp K r)
end
theorem RpA.len {H : Hp} : ∀ {vs : List V} {ds : List PyData}, RpA H vs ds → vs.length = ds.length
  | _, _, .nil => rfl
  | _, _, .cons _ r => by rw [List.length_cons, List.length_cons, RpA.len r]
theorem RpA.get {H : Hp} : ∀ {vs : List V} {ds : List PyData} {i : Nat} {d : PyData}, RpA H vs ds → ds[i]? = some d → ∃ v, vs[i]? = some v ∧ Rp H v d
  | _, _, _, _, .nil, e => by simp at e
  | _, _, 0, _, .cons h _, e => by simp at e; subst e; exact ⟨_, rfl, h⟩
  | _, _, i + 1, _, .cons _ r, e => by
    obtain ⟨v, h1, h2⟩ := RpA.get (i := i) r (by simpa using e)
    exact ⟨v, by simpa using h1, h2⟩
theorem RpA.getV {H : Hp} : ∀ {vs : List V} {ds : List PyData} {i : Nat} {v : V}, RpA H vs ds → vs[i]? = some v → ∃ d, ds[i]? = some d ∧ Rp H v d
  | _, _, _, _, .nil, e => by simp at e
  | _, _, 0, _, .cons h _, e => by simp at e; subst e; exact ⟨_, rfl, h⟩
  | _, _, i + 1, _, .cons _ r, e => by
    obtain ⟨v, h1, h2⟩ := RpA.getV (i := i) r (by simpa using e)
    exact ⟨v, by simpa using h1, h2⟩
theorem RpA.app {H : Hp} : ∀ {vs ws : List V} {ds es : List PyData}, RpA H vs ds → RpA H ws es → RpA H (vs ++ ws) (ds ++ es)
  | _, _, _, _, .nil, q => q
  | _, _, _, _, .cons h r, q => .cons h (RpA.app r q)
theorem RpA.drop {H : Hp} : ∀ (n : Nat) {vs : List V} {ds : List PyData}, RpA H vs ds → RpA H (vs.drop n) (ds.drop n)
  | 0, _, _, r => r
  | _ + 1, _, _, .nil => .nil
  | n + 1, _, _, .cons _ r => RpA.drop n r
theorem RpA.take {H : Hp} : ∀ (n : Nat) {vs : List V} {ds : List PyData}, RpA H vs ds → RpA H (vs.take n) (ds.take n)
  | 0, _, _, _ => .nil
  | _ + 1, _, _, .nil => .nil
  | n + 1, _, _, .cons h r => .cons h (RpA.take n r)
theorem RpA.set {H : Hp} {v : V} {d : PyData} (h : Rp H v d) : ∀ (n : Nat) {vs : List V} {ds : List PyData}, RpA H vs ds → RpA H (vs.set n v) (ds.set n d)
  | _, _, _, .nil => .nil
  | 0, _, _, .cons _ r => .cons h r
  | n + 1, _, _, .cons q r => .cons q (RpA.set h n r)
theorem RpA.ints {H : Hp} : ∀ {vs : List V} {ns : List Int}, RpA H vs (ns.map PyData.int) → vs = ns.map V.int
  | _, [], h => by cases h; rfl
  | _, n :: ns, h => by
    cases h with
    | cons h r => cases h; rw [RpA.ints r]; rfl
theorem RpA.ofInts {H : Hp} : ∀ (ns : List Int), RpA H (ns.map V.int) (ns.map PyData.int)
  | [] => .nil
  | n :: ns => .cons (.int n) (RpA.ofInts ns)
theorem RpA.bools {H : Hp} : ∀ {vs : List V} {ns : List Bool}, RpA H vs (ns.map PyData.bool) → vs = ns.map V.bl
  | _, [], h => by cases h; rfl
  | _, n :: ns, h => by
    cases h with
    | cons h r => cases h; rw [RpA.bools r]; rfl

/-! ### typed data -/
class Em (α : Type) where
  em : α → PyData
abbrev em {α : Type} [Em α] (x : α) : PyData := Em.em x
structure T3 (α β γ : Type) where
  a : α
  b : β
  c : γ
deriving DecidableEq
structure T4 (α β γ δ : Type) where
  a : α
  b : β
  c : γ
  d : δ
deriving DecidableEq
instance : Em Int := ⟨.int⟩
instance : Em Bool := ⟨.bool⟩
instance : Em Str := ⟨.str⟩
instance : Em Unit := ⟨fun _ => .none⟩
instance : Em PyData := ⟨id⟩
instance {α : Type} [Em α] : Em (List α) := ⟨fun xs => .list (xs.map em)⟩
instance {α β : Type} [Em α] [Em β] : Em (α × β) := ⟨fun x => .tuple [em x.1, em x.2]⟩
instance {α β γ : Type} [Em α] [Em β] [Em γ] : Em (T3 α β γ) := ⟨fun x => .tuple [em x.a, em x.b, em x.c]⟩
instance {α β γ δ : Type} [Em α] [Em β] [Em γ] [Em δ] : Em (T4 α β γ δ) := ⟨fun x => .tuple [em x.a, em x.b, em x.c, em x.d]⟩
/-- a thing or None -/
instance {α : Type} [Em α] : Em (Option α) := ⟨fun x => match x with | none => .none | some y => em y⟩

/-- the data that == may be asked of -/
class Shp (α : Type) [Em α] where
  dep : Nat
  lay : ∀ x : α, (em x).canLay0 = true
  le : ∀ x : α, (em x).depth ≤ dep
instance : Shp Int := ⟨0, fun x => show PyData.canLay0 (.int x) = true by simp [PyData.canLay0], fun x => show PyData.depth (.int x) ≤ 0 by simp [PyData.depth]⟩
instance : Shp Bool := ⟨0, fun x => show PyData.canLay0 (.bool x) = true by simp [PyData.canLay0], fun x => show PyData.depth (.bool x) ≤ 0 by simp [PyData.depth]⟩
instance : Shp Unit := ⟨0, fun x => show PyData.canLay0 .none = true by simp [PyData.canLay0], fun x => show PyData.depth .none ≤ 0 by simp [PyData.depth]⟩
theorem layAll {α : Type} [Em α] [Shp α] : ∀ xs : List α, PyData.canLayAll0 (xs.map em) = true
  | [] => by simp [PyData.canLayAll0]
  | x :: xs => by
    have h1 := Shp.lay x
    have h2 := layAll xs
    simp only [List.map_cons, PyData.canLayAll0]
    rw [h2]
    simpa using h1
theorem depAll {α : Type} [Em α] [Shp α] : ∀ xs : List α, PyData.depthAll (xs.map em) ≤ Shp.dep α
  | [] => by simp [PyData.depthAll]
  | x :: xs => by
    have h1 := depAll xs
    have h2 := Shp.le x
    simp only [List.map_cons, PyData.depthAll]
    exact Nat.max_le.mpr ⟨h2, h1⟩
instance {α : Type} [Em α] [Shp α] : Shp (List α) := ⟨Shp.dep α + 1, fun xs => by
  show PyData.canLay0 (.list (xs.map em)) = true
  simp only [PyData.canLay0]; exact layAll xs, fun xs => by
  show PyData.depth (.list (xs.map em)) ≤ _
  have := depAll xs
  simp only [PyData.depth]
  omega⟩
theorem lay_tup {ds : List PyData} (h : ∀ d ∈ ds, d.canLay0 = true) : PyData.canLay0 (.tuple ds) = true := by
  simp only [PyData.canLay0]
  induction ds with
  | nil => simp [PyData.canLayAll0]
  | cons d ds ih =>
    simp only [PyData.canLayAll0]
    rw [h d (by simp), ih fun e he => h e (by simp [he])]
    rfl
theorem dep_tup {n : Nat} {ds : List PyData} (h : ∀ d ∈ ds, d.depth ≤ n) : PyData.depth (.tuple ds) ≤ n + 1 := by
  have : PyData.depthAll ds ≤ n := by
    induction ds with
    | nil => simp [PyData.depthAll]
    | cons d ds ih =>
      simp only [PyData.depthAll]
      exact Nat.max_le.mpr ⟨h d (by simp), ih fun e he => h e (by simp [he])⟩
  simp only [PyData.depth]
  omega
instance {α β : Type} [Em α] [Shp α] [Em β] [Shp β] : Shp (α × β) := ⟨max (Shp.dep α) (Shp.dep β) + 1, fun x => lay_tup fun d hd => by
  rcases List.mem_cons.mp hd with rfl | hd
  · exact Shp.lay x.1
  rcases List.mem_cons.mp hd with rfl | hd
  · exact Shp.lay x.2
  exact absurd hd List.not_mem_nil, fun x => dep_tup fun d hd => by
  rcases List.mem_cons.mp hd with rfl | hd
  · exact Nat.le_trans (Shp.le x.1) (by omega)
  rcases List.mem_cons.mp hd with rfl | hd
  · exact Nat.le_trans (Shp.le x.2) (by omega)
  exact absurd hd List.not_mem_nil⟩
instance {α β γ : Type} [Em α] [Shp α] [Em β] [Shp β] [Em γ] [Shp γ] : Shp (T3 α β γ) := ⟨max (Shp.dep α) (max (Shp.dep β) (Shp.dep γ)) + 1, fun x => lay_tup fun d hd => by
  rcases List.mem_cons.mp hd with rfl | hd
  · exact Shp.lay x.a
  rcases List.mem_cons.mp hd with rfl | hd
  · exact Shp.lay x.b
  rcases List.mem_cons.mp hd with rfl | hd
  · exact Shp.lay x.c
  exact absurd hd List.not_mem_nil, fun x => dep_tup fun d hd => by
  rcases List.mem_cons.mp hd with rfl | hd
  · exact Nat.le_trans (Shp.le x.a) (by omega)
  rcases List.mem_cons.mp hd with rfl | hd
  · exact Nat.le_trans (Shp.le x.b) (by omega)
  rcases List.mem_cons.mp hd with rfl | hd
  · exact Nat.le_trans (Shp.le x.c) (by omega)
  exact absurd hd List.not_mem_nil⟩
instance {α β γ δ : Type} [Em α] [Shp α] [Em β] [Shp β] [Em γ] [Shp γ] [Em δ] [Shp δ] : Shp (T4 α β γ δ) := ⟨max (max (Shp.dep α) (Shp.dep β)) (max (Shp.dep γ) (Shp.dep δ)) + 1, fun x => lay_tup fun d hd => by
  rcases List.mem_cons.mp hd with rfl | hd
  · exact Shp.lay x.a
  rcases List.mem_cons.mp hd with rfl | hd
  · exact Shp.lay x.b
  rcases List.mem_cons.mp hd with rfl | hd
  · exact Shp.lay x.c
  rcases List.mem_cons.mp hd with rfl | hd
  · exact Shp.lay x.d
  exact absurd hd List.not_mem_nil, fun x => dep_tup fun d hd => by
  rcases List.mem_cons.mp hd with rfl | hd
  · exact Nat.le_trans (Shp.le x.a) (by omega)
  rcases List.mem_cons.mp hd with rfl | hd
  · exact Nat.le_trans (Shp.le x.b) (by omega)
  rcases List.mem_cons.mp hd with rfl | hd
  · exact Nat.le_trans (Shp.le x.c) (by omega)
  rcases List.mem_cons.mp hd with rfl | hd
  · exact Nat.le_trans (Shp.le x.d) (by omega)
  exact absurd hd List.not_mem_nil⟩
instance {α : Type} [Em α] [Shp α] : Shp (Option α) := ⟨Shp.dep α, fun x => by
  cases x with
  | none => show PyData.canLay0 .none = true; simp [PyData.canLay0]
  | some y => exact Shp.lay y, fun x => by
  cases x with
  | none => show PyData.depth .none ≤ _; simp [PyData.depth]
  | some y => exact Shp.le y⟩
theorem shaped_em {α : Type} [Em α] [Shp α] (h : Shp.dep α ≤ 64) (x : α) : SeqAt.shaped (em x) = true := by
  show ((em x).canLay0 && decide ((em x).depth ≤ 64)) = true
  rw [Bool.and_eq_true]
  exact ⟨Shp.lay x, decide_eq_true (Nat.le_trans (Shp.le x) h)⟩

/-- data that stand at no address -/
class Scl (α : Type) [Em α] : Prop where
  any : ∀ (x : α) (H H' : Hp) (v : V), Rp H v (em x) → Rp H' v (em x)
instance : Scl Int := ⟨fun _ _ _ _ h => by cases h; exact .int _⟩
instance : Scl Bool := ⟨fun _ _ _ _ h => by cases h; exact .bl _⟩
instance : Scl Str := ⟨fun _ _ _ _ h => by cases h; exact .str _⟩
instance : Scl Unit := ⟨fun _ _ _ _ h => by cases h; exact .non⟩
instance {α : Type} [Em α] [Scl α] : Scl (Option α) := ⟨fun x H H' v h => by
  cases x with
  | none =>
    have h : Rp H v .none := h
    cases h
    exact .non
  | some y => exact Scl.any y H H' v h⟩
theorem rp_int {H : Hp} {v : V} {i : Int} (h : Rp H v (em i)) : v = .int i := by
  have h : Rp H v (.int i) := h
  cases h; rfl
theorem rp_bool {H : Hp} {v : V} {i : Bool} (h : Rp H v (em i)) : v = .bl i := by
  have h : Rp H v (.bool i) := h
  cases h; rfl
theorem rp_str {H : Hp} {v : V} {i : Str} (h : Rp H v (em i)) : v = .str i := by
  have h : Rp H v (.str i) := h
  cases h; rfl
theorem rp_unit {H : Hp} {v : V} {i : Unit} (h : Rp H v (em i)) : v = .non := by
  have h : Rp H v .none := h
  cases h; rfl
theorem rp_list {α : Type} [Em α] {H : Hp} {v : V} {xs : List α} (h : Rp H v (em xs)) : ∃ p vs, v = .ref p ∧ H p = some (.lst vs) ∧ RpA H vs (xs.map em) := by
  have h : Rp H v (.list (xs.map em)) := h
  cases h with
  | lst h1 r => exact ⟨_, _, rfl, h1, r⟩
theorem rp_pair {α β : Type} [Em α] [Em β] {H : Hp} {v : V} {x : α × β} (h : Rp H v (em x)) : ∃ p a b, v = .ref p ∧ H p = some (.tup [a, b]) ∧ Rp H a (em x.1) ∧ Rp H b (em x.2) := by
  have h : Rp H v (.tuple [em x.1, em x.2]) := h
  cases h with
  | tup h r =>
    cases r with
    | cons h1 r =>
      cases r with
      | cons h2 r => cases r; exact ⟨_, _, _, rfl, h, h1, h2⟩
theorem rp_t3 {α β γ : Type} [Em α] [Em β] [Em γ] {H : Hp} {v : V} {x : T3 α β γ} (h : Rp H v (em x)) : ∃ p a b c, v = .ref p ∧ H p = some (.tup [a, b, c]) ∧ Rp H a (em x.a) ∧ Rp H b (em x.b) ∧ Rp H c (em x.c) := by
  have h : Rp H v (.tuple [em x.a, em x.b, em x.c]) := h
  cases h with
  | tup h r =>
    cases r with
    | cons h1 r =>
      cases r with
      | cons h2 r =>
        cases r with
        | cons h3 r => cases r; exact ⟨_, _, _, _, rfl, h, h1, h2, h3⟩
theorem rp_t4 {α β γ δ : Type} [Em α] [Em β] [Em γ] [Em δ] {H : Hp} {v : V} {x : T4 α β γ δ} (h : Rp H v (em x)) : ∃ p a b c d, v = .ref p ∧ H p = some (.tup [a, b, c, d]) ∧ Rp H a (em x.a) ∧ Rp H b (em x.b) ∧ Rp H c (em x.c) ∧ Rp H d (em x.d) := by
  have h : Rp H v (.tuple [em x.a, em x.b, em x.c, em x.d]) := h
  cases h with
  | tup h r =>
    cases r with
    | cons h1 r =>
      cases r with
      | cons h2 r =>
        cases r with
        | cons h3 r =>
          cases r with
          | cons h4 r => cases r; exact ⟨_, _, _, _, _, rfl, h, h1, h2, h3, h4⟩

/-! ### dicts -/
/-- the pairs of a dict whose values are data at F -/
inductive KvR {κ : Type} (F : Hp) : List (κ × V) → List (κ × PyData) → Prop
  | nil : KvR F [] []
  | cons {k : κ} {v : V} {d : PyData} {xs : List (κ × V)} {ys : List (κ × PyData)} : Rp F v d → KvR F xs ys → KvR F ((k, v) :: xs) ((k, d) :: ys)
theorem KvR.mono {κ : Type} {F F' : Hp} (s : Same F F') : ∀ {xs : List (κ × V)} {ys : List (κ × PyData)}, KvR F xs ys → KvR F' xs ys
  | _, _, .nil => .nil
  | _, _, .cons h r => .cons (h.mono s) (KvR.mono s r)
/-- as it stands at an address: keys are whole numbers | pairs of these -/
def diO (kv : List (Int × V)) : HO := .dK (kv.map fun x => (Sum.inl x.1, x.2))
def dpO (kv : List ((Int × Int) × V)) : HO := .dT (kv.map fun x => ([Sum.inl x.1.1, Sum.inl x.1.2], x.2))

/-! ### own trees -/
inductive OD
  | v (d : PyData)
  | lst (xs : List OD)
  | tup (xs : List OD)
  | di (kvs : List (Int × OD))
  | dp (kvs : List ((Int × Int) × OD))
  | dik (p : Addr) (ob : Obj) (kv : List (Int × V)) (kvs : List (Int × OD))
  | dpk (p : Addr) (ob : Obj) (kv : List ((Int × Int) × V)) (kvs : List ((Int × Int) × OD))
  | ins (C : Addr) (fs : List (Str × OD))
mutual
inductive Ow (F H : Hp) : V → OD → List Addr → Prop
  | v {x : V} {d : PyData} : Rp F x d → Ow F H x (.v d) []
  | lst {p : Addr} {vs : List V} {xs : List OD} {ms : List Addr} : H p = some (.lst vs) → OwL F H vs xs ms → p ∉ ms → Ow F H (.ref p) (.lst xs) (p :: ms)
  | tup {p : Addr} {vs : List V} {xs : List OD} {ms : List Addr} : F p = some (.tup vs) → OwL F H vs xs ms → Ow F H (.ref p) (.tup xs) ms
  | di {p : Addr} {kv : List (Int × V)} {xs : List (Int × OD)} {ms : List Addr} : H p = some (diO kv) → OwL F H (kv.map (·.2)) (xs.map (·.2)) ms → kv.map (·.1) = xs.map (·.1) → p ∉ ms → Ow F H (.ref p) (.di xs) (p :: ms)
  | dp {p : Addr} {kv : List ((Int × Int) × V)} {xs : List ((Int × Int) × OD)} {ms : List Addr} : H p = some (dpO kv) → OwL F H (kv.map (·.2)) (xs.map (·.2)) ms → kv.map (·.1) = xs.map (·.1) → p ∉ ms → Ow F H (.ref p) (.dp xs) (p :: ms)
  | dik {p : Addr} {ob : Obj} {kv : List (Int × V)} {xs : List (Int × OD)} {ms : List Addr} : F p = some (.frz ob (diO kv)) → OwL F H (kv.map (·.2)) (xs.map (·.2)) ms → kv.map (·.1) = xs.map (·.1) → Ow F H (.ref p) (.dik p ob kv xs) ms
  | dpk {p : Addr} {ob : Obj} {kv : List ((Int × Int) × V)} {xs : List ((Int × Int) × OD)} {ms : List Addr} : F p = some (.frz ob (dpO kv)) → OwL F H (kv.map (·.2)) (xs.map (·.2)) ms → kv.map (·.1) = xs.map (·.1) → Ow F H (.ref p) (.dpk p ob kv xs) ms
  | ins {p dx C : Addr} {fs : List (Str × V)} {xs : List (Str × OD)} {ms : List Addr} : H p = some (.ins C dx fs) → H dx = some (.own p) → OwL F H (fs.map (·.2)) (xs.map (·.2)) ms → fs.map (·.1) = xs.map (·.1) → p ∉ ms → dx ∉ ms → p ≠ dx → Ow F H (.ref p) (.ins C xs) (p :: dx :: ms)
inductive OwL (F H : Hp) : List V → List OD → List Addr → Prop
  | nil : OwL F H [] [] []
  | cons {x : V} {vs : List V} {o : OD} {xs : List OD} {m1 m2 : List Addr} : Ow F H x o m1 → OwL F H vs xs m2 → (∀ a ∈ m1, a ∉ m2) → OwL F H (x :: vs) (o :: xs) (m1 ++ m2)
end
mutual
theorem Ow.mono {F H F' H' : Hp} (sF : Same F F') : ∀ {x : V} {o : OD} {ms : List Addr}, (∀ a ∈ ms, ∀ u, H a = some u → H' a = some u) → Ow F H x o ms → Ow F' H' x o ms
  | _, _, _, _, .v r => .v (r.mono sF)
  | _, _, _, k, .lst h r n => .lst (k _ (by simp) _ h) (OwL.mono sF (fun a ha => k a (by simp [ha])) r) n
  | _, _, _, k, .tup h r => .tup (sF _ _ h) (OwL.mono sF k r)
  | _, _, _, k, .di h r e n => .di (k _ (by simp) _ h) (OwL.mono sF (fun a ha => k a (by simp [ha])) r) e n
  | _, _, _, k, .dp h r e n => .dp (k _ (by simp) _ h) (OwL.mono sF (fun a ha => k a (by simp [ha])) r) e n
  | _, _, _, k, .dik h r e => .dik (sF _ _ h) (OwL.mono sF k r) e
  | _, _, _, k, .dpk h r e => .dpk (sF _ _ h) (OwL.mono sF k r) e
  | _, _, _, k, .ins h h2 r e n n2 n3 => .ins (k _ (by simp) _ h) (k _ (by simp) _ h2) (OwL.mono sF (fun a ha => k a (by simp [ha])) r) e n n2 n3
theorem OwL.mono {F H F' H' : Hp} (sF : Same F F') : ∀ {vs : List V} {xs : List OD} {ms : List Addr}, (∀ a ∈ ms, ∀ u, H a = some u → H' a = some u) → OwL F H vs xs ms → OwL F' H' vs xs ms
  | _, _, _, _, .nil => .nil
  | _, _, _, k, .cons h r d => .cons (Ow.mono sF (fun a ha => k a (by simp [ha])) h) (OwL.mono sF (fun a ha => k a (by simp [ha])) r) d
end
theorem Ow.same {F H F' H' : Hp} (sF : Same F F') (sH : Same H H') {x : V} {o : OD} {ms : List Addr} (h : Ow F H x o ms) : Ow F' H' x o ms := h.mono sF fun a _ u e => sH a u e

/-! ### slots, the environment -/
/-- val: in the frozen part; rd: in what stood at the entry; scr: the script; own: a list of this frame's own; res: anything with a footprint -/
structure Rs where
  h : Hp → Hp → V → (Addr → Prop) → Prop
  mono : ∀ {F H F' H' : Hp} {v : V} {M : Addr → Prop}, Same F F' → (∀ a o, M a → H a = some o → H' a = some o) → Same F H → Same F' H' → h F H v M → h F' H' v M
inductive Sl where
  | no
  | val (d : PyData)
  | rd (d : PyData)
  | scr (ns : List Int)
  | own (ds : List PyData)
  | di (kvs : List (Int × PyData))
  | dp (kvs : List ((Int × Int) × PyData))
  | rdi (kvs : List (Int × PyData))
  | rdp (kvs : List ((Int × Int) × PyData))
  | res (R : Rs)
  | tr (v : V) (od : OD)
  | ow (od : OD)
  | rt (od : OD)
  | rtp (v : V) (od : OD)
  | fx (v : V)

def hold (K : PySem.W.Frag) (B F H : Hp) : Sl → Option (Option V) → (Addr → Prop) → Prop
  | .no, _, _ => True
  | .val d, s, _ => ∃ v, s = some (some v) ∧ Rp F v d
  | .rd d, s, _ => ∃ v, s = some (some v) ∧ Rp B v d
  | .scr ns, s, _ => ∃ a, s = some (some (.ref a)) ∧ SqL K B a (ns.map V.int)
  | .own ds, s, M => ∃ p vs, s = some (some (.ref p)) ∧ H p = some (.lst vs) ∧ RpA F vs ds ∧ M p
  | .di kvs, s, M => ∃ p kv, s = some (some (.ref p)) ∧ H p = some (diO kv) ∧ KvR F kv kvs ∧ M p
  | .dp kvs, s, M => ∃ p kv, s = some (some (.ref p)) ∧ H p = some (dpO kv) ∧ KvR F kv kvs ∧ M p
  | .rdi kvs, s, _ => ∃ p kv, s = some (some (.ref p)) ∧ B p = some (diO kv) ∧ KvR B kv kvs
  | .rdp kvs, s, _ => ∃ p kv, s = some (some (.ref p)) ∧ B p = some (dpO kv) ∧ KvR B kv kvs
  | .res R, s, M => ∃ v, s = some (some v) ∧ R.h F H v M
  | .tr v od, s, M => s = some (some v) ∧ ∃ ms, Ow F H v od ms ∧ ∀ a ∈ ms, M a
  | .ow od, s, M => ∃ v, s = some (some v) ∧ ∃ ms, Ow F H v od ms ∧ ∀ a ∈ ms, M a
  | .rt od, s, _ => ∃ v, s = some (some v) ∧ ∃ ms, Ow F B v od ms
  | .rtp v od, s, _ => s = some (some v) ∧ ∃ ms, Ow F B v od ms
  | .fx v, s, _ => s = some (some v)

structure Env (K : PySem.W.Frag) (B F : Hp) (M : Addr → Prop) (H : Hp) (σ : L2.St) (ds : List Sl) : Prop where
  len : σ.length = ds.length
  sB : Same B H
  sF : Same F H
  mB : ∀ a, M a → B a = none
  mF : ∀ a, M a → F a = none
  mH : ∀ a, M a → H a ≠ none
  mT : ∀ a xs, M a → H a ≠ some (.tup xs)
  ft : ∃ foot : Nat → Addr → Prop, (∀ i a, foot i a → M a) ∧ (∀ i j a, foot i a → foot j a → i = j) ∧ ∀ i, hold K B F H (ds[i]?.getD .no) (σ[i]?) (foot i)

/-- a tuple stands there -/
def IsTp (H : Hp) (a : Addr) : Prop := ∃ xs, H a = some (.tup xs)
/-- the heap has grown; what is frozen anew is new, or a tuple -/
structure Ext (F H F' H' : Hp) : Prop where
  sF : Same F F'
  sH : Same H H'
  sub : Same F' H'
  new : ∀ a, F' a ≠ none → F a ≠ none ∨ (H a = none ∨ IsTp H a)
theorem Ext.refl {F H : Hp} (s : Same F H) : Ext F H F H := ⟨Same.refl _, Same.refl _, s, fun _ h => .inl h⟩
theorem none_of_same {H H' : Hp} (s : Same H H') {a : Addr} (h : H' a = none) : H a = none := by
  cases e : H a with
  | none => rfl
  | some o => rw [s a o e] at h; cases h
theorem some_of_same {H H' : Hp} (s : Same H H') {a : Addr} (h : H a ≠ none) : H' a ≠ none := fun e => h (none_of_same s e)
theorem Ext.trans {F H F1 H1 F2 H2 : Hp} (x : Ext F H F1 H1) (y : Ext F1 H1 F2 H2) : Ext F H F2 H2 :=
  ⟨x.sF.trans y.sF, x.sH.trans y.sH, y.sub, fun a h => by
    rcases y.new a h with h | h | ⟨ts, h⟩
    · exact x.new a h
    · exact .inr (.inl (none_of_same x.sH h))
    · cases e : H a with
      | none => exact .inr (.inl rfl)
      | some o =>
        have := x.sH a o e
        rw [h] at this
        cases this
        exact .inr (.inr ⟨ts, e⟩)⟩
theorem same_upd {H : Hp} {p : Addr} {o : HO} (h : H p = none) : Same H (upd H p o) := fun b u e => by
  rw [upd_ne (ne_of_none e h)]; exact e
theorem same_upd2 {H H' : Hp} {p : Addr} {o : HO} (s : Same H H') (h : H p = none) : Same H (upd H' p o) := fun b u e => by
  rw [upd_ne (ne_of_none e h)]; exact s b u e
/-- a new object, frozen at once -/
theorem Ext.new1 {F H : Hp} (s : Same F H) {p : Addr} {o : HO} (h : H p = none) : Ext F H (upd F p o) (upd H p o) := by
  have hF := none_of_same s h
  refine ⟨same_upd hF, same_upd h, fun b u e => ?_, fun a e => ?_⟩
  · unfold L2.upd at e ⊢
    split at e
    · rename_i hb; rw [if_pos hb]; exact e
    · rename_i hb; rw [if_neg hb]; exact s b u e
  · by_cases hb : a = p
    · subst hb; exact .inr (.inl h)
    · rw [upd_ne hb] at e; exact .inl e
/-- a new object, not frozen -/
theorem Ext.new0 {F H : Hp} (s : Same F H) {p : Addr} {o : HO} (h : H p = none) : Ext F H F (upd H p o) :=
  ⟨Same.refl _, same_upd h, same_upd2 s (none_of_same s h), fun _ e => .inl e⟩

section
variable {K : PySem.W.Frag} {B F H F' H' : Hp} {M : Addr → Prop} {σ : L2.St} {ds : List Sl}
theorem hold.mono {d : Sl} {s : Option (Option V)} {m : Addr → Prop} (sF : Same F F') (kp : ∀ a o, m a → H a = some o → H' a = some o) (s1 : Same F H) (s2 : Same F' H') (h : hold K B F H d s m) : hold K B F' H' d s m := by
  cases d with
  | no => trivial
  | val d => obtain ⟨v, e, r⟩ := h; exact ⟨v, e, r.mono sF⟩
  | rd d => exact h
  | scr ns => exact h
  | own ds => obtain ⟨p, vs, e, hp, r, hm⟩ := h; exact ⟨p, vs, e, kp p _ hm hp, r.mono sF, hm⟩
  | di kvs => obtain ⟨p, vs, e, hp, r, hm⟩ := h; exact ⟨p, vs, e, kp p _ hm hp, r.mono sF, hm⟩
  | dp kvs => obtain ⟨p, vs, e, hp, r, hm⟩ := h; exact ⟨p, vs, e, kp p _ hm hp, r.mono sF, hm⟩
  | rdi kvs => exact h
  | rdp kvs => exact h
  | res R => obtain ⟨v, e, r⟩ := h; exact ⟨v, e, R.mono sF kp s1 s2 r⟩
  | tr v od => obtain ⟨e, ms, r, k⟩ := h; exact ⟨e, ms, r.mono sF (fun a ha u z => kp a u (k a ha) z), k⟩
  | ow od => obtain ⟨v, e, ms, r, k⟩ := h; exact ⟨v, e, ms, r.mono sF (fun a ha u z => kp a u (k a ha) z), k⟩
  | rt od => obtain ⟨v, e, ms, r⟩ := h; exact ⟨v, e, ms, r.mono sF (fun _ _ _ z => z)⟩
  | rtp v od => obtain ⟨e, ms, r⟩ := h; exact ⟨e, ms, r.mono sF (fun _ _ _ z => z)⟩
  | fx v => exact h
theorem Env.ext (E : Env K B F M H σ ds) (x : Ext F H F' H') : Env K B F' M H' σ ds := by
  obtain ⟨len, sB, sF, mB, mF, mH, mT, foot, f1, f2, f3⟩ := E
  refine ⟨len, sB.trans x.sH, x.sub, mB, fun a ha => ?_, fun a ha => some_of_same x.sH (mH a ha), fun a xs ha hz => ?_, foot, f1, f2, fun i => (f3 i).mono x.sF (fun a o _ e => x.sH a o e) sF x.sub⟩
  · cases e : F' a with
    | none => rfl
    | some o =>
      rcases x.new a (by rw [e]; exact fun z => nomatch z) with h | h | ⟨ts, h⟩
      · exact absurd (mF a ha) h
      · exact absurd h (mH a ha)
      · exact absurd h (mT a ts ha)
  · cases e : H a with
    | none => exact mH a ha e
    | some o =>
      have := x.sH a o e
      rw [hz] at this
      cases this
      exact mT a xs ha e
theorem Env.at (E : Env K B F M H σ ds) {i : Nat} {s : Sl} (h : ds[i]? = some s) : ∃ m : Addr → Prop, (∀ a, m a → M a) ∧ hold K B F H s (σ[i]?) m := by
  obtain ⟨foot, f1, _, f3⟩ := E.ft
  have := f3 i
  rw [h] at this
  exact ⟨foot i, f1 i, this⟩
theorem getD_set (ds : List Sl) (i j : Nat) (s : Sl) (hi : i < ds.length) : (ds.set i s)[j]?.getD .no = if j = i then s else ds[j]?.getD .no := by
  by_cases h : j = i
  · subst h; rw [List.getElem?_set_self hi, if_pos rfl]; rfl
  · rw [List.getElem?_set_ne (fun e => h e.symm), if_neg h]
/-- a slot is stored: what it owned before is forgotten -/
theorem Env.setv (E : Env K B F M H σ ds) {i : Nat} (hi : i < ds.length) {v : V} {d : PyData} (r : Rp F v d) : Env K B F M H (σ.set i (some v)) (ds.set i (.val d)) := by
  obtain ⟨len, sB, sF, mB, mF, mH, mT, foot, f1, f2, f3⟩ := E
  refine ⟨by rw [List.length_set, List.length_set, len], sB, sF, mB, mF, mH, mT, foot, f1, f2, fun j => ?_⟩
  rw [getD_set ds i j _ hi]
  by_cases h : j = i
  · subst h
    rw [if_pos rfl]
    exact ⟨v, List.getElem?_set_self (by omega), r⟩
  · rw [if_neg h, List.getElem?_set_ne (fun e => h e.symm)]
    exact f3 j
theorem Env.setrd (E : Env K B F M H σ ds) {i : Nat} (hi : i < ds.length) {v : V} {d : PyData} (r : Rp B v d) : Env K B F M H (σ.set i (some v)) (ds.set i (.rd d)) := by
  obtain ⟨len, sB, sF, mB, mF, mH, mT, foot, f1, f2, f3⟩ := E
  refine ⟨by rw [List.length_set, List.length_set, len], sB, sF, mB, mF, mH, mT, foot, f1, f2, fun j => ?_⟩
  rw [getD_set ds i j _ hi]
  by_cases h : j = i
  · subst h
    rw [if_pos rfl]
    exact ⟨v, List.getElem?_set_self (by omega), r⟩
  · rw [if_neg h, List.getElem?_set_ne (fun e => h e.symm)]
    exact f3 j
/-- a new own list is stored -/
theorem Env.setown (E : Env K B F M H σ ds) {i : Nat} (hi : i < ds.length) {p : Addr} {vs : List V} {es : List PyData} (hB : B p = none) (hF : F p = none) (hM : ¬ M p) (hp : H p = some (.lst vs)) (r : RpA F vs es) :
    Env K B F (fun a => M a ∨ a = p) H (σ.set i (some (.ref p))) (ds.set i (.own es)) := by
  obtain ⟨len, sB, sF, mB, mF, mH, mT, foot, f1, f2, f3⟩ := E
  refine ⟨by rw [List.length_set, List.length_set, len], sB, sF, fun a ha => ?_, fun a ha => ?_, fun a ha => ?_, fun a xs ha => ?_, fun j a => if j = i then a = p else foot j a, fun j a ha => ?_, fun j k a h1 h2 => ?_, fun j => ?_⟩
  · rcases ha with ha | rfl
    · exact mB a ha
    · exact hB
  · rcases ha with ha | rfl
    · exact mF a ha
    · exact hF
  · rcases ha with ha | rfl
    · exact mH a ha
    · rw [hp]; exact fun z => nomatch z
  · rcases ha with ha | rfl
    · exact mT a xs ha
    · rw [hp]; exact fun z => nomatch z
  · by_cases h : j = i
    · simp only [if_pos h] at ha; exact .inr ha
    · simp only [if_neg h] at ha; exact .inl (f1 j a ha)
  · by_cases hj : j = i
    · by_cases hk : k = i
      · rw [hj, hk]
      · simp only [if_pos hj] at h1
        simp only [if_neg hk] at h2
        exact absurd (h1 ▸ f1 k a h2) hM
    · by_cases hk : k = i
      · simp only [if_neg hj] at h1
        simp only [if_pos hk] at h2
        exact absurd (h2 ▸ f1 j a h1) hM
      · simp only [if_neg hj] at h1
        simp only [if_neg hk] at h2
        exact f2 j k a h1 h2
  · rw [getD_set ds i j _ hi]
    by_cases h : j = i
    · subst h
      rw [if_pos rfl]
      exact ⟨p, vs, List.getElem?_set_self (by omega), hp, r, by simp⟩
    · rw [if_neg h, List.getElem?_set_ne (fun e => h e.symm)]
      have := f3 j
      show hold K B F H _ _ (fun a => if j = i then a = p else foot j a)
      simp only [if_neg h]
      exact this
/-- some slots are forgotten -/
inductive Le : List Sl → List Sl → Prop
  | nil : Le [] []
  | same {s : Sl} {xs ys : List Sl} : Le xs ys → Le (s :: xs) (s :: ys)
  | drop {s : Sl} {xs ys : List Sl} : Le xs ys → Le (s :: xs) (.no :: ys)
  | weak {v : V} {od : OD} {xs ys : List Sl} : Le xs ys → Le (.tr v od :: xs) (.ow od :: ys)
theorem Le.len : ∀ {xs ys : List Sl}, Le xs ys → xs.length = ys.length
  | _, _, .nil => rfl
  | _, _, .same h => by simp [h.len]
  | _, _, .drop h => by simp [h.len]
  | _, _, .weak h => by simp [h.len]
theorem Le.refl : ∀ (xs : List Sl), Le xs xs
  | [] => .nil
  | _ :: xs => .same (Le.refl xs)
theorem Le.at : ∀ {xs ys : List Sl}, Le xs ys → ∀ i : Nat, ys[i]?.getD Sl.no = Sl.no ∨ ys[i]?.getD Sl.no = xs[i]?.getD Sl.no ∨ ∃ v od, xs[i]?.getD Sl.no = .tr v od ∧ ys[i]?.getD Sl.no = .ow od
  | _, _, .nil, _ => .inl rfl
  | _, _, .same _, 0 => .inr (.inl rfl)
  | _, _, .drop _, 0 => .inl rfl
  | _, _, .weak _, 0 => .inr (.inr ⟨_, _, rfl, rfl⟩)
  | _, _, .same h, i + 1 => by simpa using h.at i
  | _, _, .drop h, i + 1 => by simpa using h.at i
  | _, _, .weak h, i + 1 => by simpa using h.at i
theorem Env.le (E : Env K B F M H σ ds) {es : List Sl} (l : Le ds es) : Env K B F M H σ es := by
  obtain ⟨len, sB, sF, mB, mF, mH, mT, foot, f1, f2, f3⟩ := E
  refine ⟨by rw [len, l.len], sB, sF, mB, mF, mH, mT, foot, f1, f2, fun i => ?_⟩
  rcases l.at i with e | e | ⟨v, od, e1, e2⟩
  · rw [e]; trivial
  · rw [e]; exact f3 i
  · rw [e2]
    have := f3 i
    rw [e1] at this
    obtain ⟨h1, h2⟩ := this
    exact ⟨v, h1, h2⟩
end

/-! ### expressions -/
inductive Md | f | b | h
def hp (m : Md) (B F H : Hp) : Hp := match m with | .f => F | .b => B | .h => H
def Ev (K : PySem.W.Frag) (ds : List Sl) (m : Md) (te : TE) (d : PyData) : Prop :=
  ∀ B F M H σ Q, Env K B F M H σ ds → (∀ v F' H', Ext F H F' H' → Rp (hp m B F' H') v d → Q v H') → te σ H Q
def EvO (K : PySem.W.Frag) (ds : List Sl) (m : Md) (te : TE) {α : Type} [Em α] (o : Option α) : Prop := ∀ x, o = some x → Ev K ds m te (em x)
/-- a new list -/
def EvL (K : PySem.W.Frag) (ds : List Sl) (te : TE) {α : Type} [Em α] (o : Option (List α)) : Prop := ∀ xs, o = some xs →
  ∀ B F M H σ Q, Env K B F M H σ ds → (∀ p vs F' H', Ext F H F' H' → F' p = none → H p = none → H' p = some (.lst vs) → RpA F' vs (xs.map em) → Q (.ref p) H') → te σ H Q
def EvT (K : PySem.W.Frag) (ds : List Sl) (tt : TT) (o : Option Bool) : Prop := ∀ b, o = some b →
  ∀ B F M H σ (Q : Bool → Hp → Prop), Env K B F M H σ ds → (∀ F' H', Ext F H F' H' → Q b H') → tt σ H Q
/-- n items of one type -/
def EvI (K : PySem.W.Frag) (ds : List Sl) (n : Nat) (ta : TA) {α : Type} [Em α] (o : Option (List α)) : Prop := ∀ xs, o = some xs → xs.length = n ∧
  ∀ B F M H σ Q, Env K B F M H σ ds → (∀ vs F' H', Ext F H F' H' → RpA F' vs (xs.map em) → Q vs H') → ta σ H Q

def obin {α β γ : Type} (f : α → β → Option γ) (a : Option α) (b : Option β) : Option γ := a.bind fun x => b.bind fun y => f x y
theorem obin_some {α β γ : Type} {f : α → β → Option γ} {a : Option α} {b : Option β} {z : γ} (h : obin f a b = some z) : ∃ x y, a = some x ∧ b = some y ∧ f x y = some z := by
  cases a with
  | none => cases h
  | some x =>
    cases b with
    | none => cases h
    | some y => exact ⟨x, y, rfl, rfl, h⟩
theorem bind_some' {α β : Type} {o : Option α} {f : α → Option β} {z : β} (h : o.bind f = some z) : ∃ x, o = some x ∧ f x = some z := by
  cases o with
  | none => cases h
  | some x => exact ⟨x, rfl, h⟩

section
variable {K : PySem.W.Frag} {ds : List Sl} {ta tb tc te : TE} {m m1 m2 m3 : Md} {α β γ δ : Type} [Em α] [Em β] [Em γ] [Em δ]
theorem hp_mono {m : Md} {B F H F' H' : Hp} (x : Ext F H F' H') : Same (hp m B F H) (hp m B F' H') := by
  cases m with
  | f => exact x.sF
  | b => exact Same.refl _
  | h => exact x.sH
theorem hp_H {m : Md} {B F M H σ} (E : Env K B F M H σ ds) : Same (hp m B F H) H := by
  cases m with
  | f => exact E.sF
  | b => exact E.sB
  | h => exact Same.refl _
theorem ev_val {i : Nat} (x : α) (h : ds[i]? = some (.val (em x))) : EvO K ds .f (tVar i) (some x) := by
  intro y hy B F M H σ Q E q
  cases hy
  obtain ⟨m, _, v, e, r⟩ := E.at h
  exact ⟨v, e, q v F H (Ext.refl E.sF) r⟩
theorem ev_rd {i : Nat} (x : α) (h : ds[i]? = some (.rd (em x))) : EvO K ds .b (tVar i) (some x) := by
  intro y hy B F M H σ Q E q
  cases hy
  obtain ⟨m, _, v, e, r⟩ := E.at h
  exact ⟨v, e, q v F H (Ext.refl E.sF) r⟩
theorem ev_own {i : Nat} (xs : List α) (h : ds[i]? = some (.own (xs.map em))) : EvO K ds .h (tVar i) (some xs) := by
  intro y hy B F M H σ Q E q
  cases hy
  obtain ⟨m, _, p, vs, e, hp, r, _⟩ := E.at h
  exact ⟨.ref p, e, q _ F H (Ext.refl E.sF) (.lst hp (r.mono E.sF))⟩
theorem ev_sc [Scl α] {o : Option α} (h : EvO K ds m te o) : EvO K ds .f te o := fun x hx B F M H σ Q E q =>
  h x hx B F M H σ Q E fun v F' H' e r => q v F' H' e (Scl.any x _ _ v r)
theorem ev_h {o : Option α} (h : EvO K ds m te o) : EvO K ds .h te o := fun x hx B F M H σ Q E q =>
  h x hx B F M H σ Q E fun v F' H' e r => q v F' H' e (r.mono (hp_H (E.ext e)))
theorem Ext.froze {F H F' H' : Hp} (e : Ext F H F' H') {p : Addr} {o : HO} (h1 : F' p = none) (h2 : H p = none) (h3 : H' p = some o) : Ext F H (upd F' p o) H' := by
  refine ⟨e.sF.trans (same_upd h1), e.sH, fun b u z => ?_, fun a z => ?_⟩
  · unfold L2.upd at z
    split at z
    · rename_i hb; rw [hb, h3]; exact z
    · exact e.sub b u z
  · by_cases hb : a = p
    · rw [hb]; exact .inr (.inl h2)
    · rw [upd_ne hb] at z; exact e.new a z
/-- the frozen part, with all tuples -/
def tupF (F H : Hp) : Hp := fun a => match F a with
  | some o => some o
  | none => match H a with
    | some (.tup xs) => some (.tup xs)
    | _ => none
theorem tupF_ext {F H : Hp} (s : Same F H) : Ext F H (tupF F H) H := by
  refine ⟨fun a o e => by unfold tupF; rw [e], Same.refl _, fun a o e => ?_, fun a e => ?_⟩
  · unfold tupF at e
    cases hf : F a with
    | some u => rw [hf] at e; cases e; exact s a _ hf
    | none =>
      rw [hf] at e
      simp only at e
      split at e
      · rename_i xs hx; cases e; exact hx
      · cases e
  · unfold tupF at e
    cases hf : F a with
    | some u => exact .inl (fun z => nomatch z)
    | none =>
      rw [hf] at e
      simp only at e
      split at e
      · rename_i xs hx; exact .inr (.inr ⟨xs, hx⟩)
      · exact absurd rfl e
theorem tupF_at {F H : Hp} (s : Same F H) {a : Addr} {xs : List V} (h : H a = some (.tup xs)) : tupF F H a = some (.tup xs) := by
  unfold tupF
  cases hf : F a with
  | some u => simp only; rw [← h]; exact (s a u hf).symm
  | none => simp only [h]
theorem ev_L {o : Option (List α)} (h : EvL K ds te o) : EvO K ds .f te o := fun xs hx B F M H σ Q E q =>
  h xs hx B F M H σ Q E fun p vs F' H' e h1 h2 h3 r => q _ _ _ (e.froze h1 h2 h3) (.lst upd_same (r.mono (same_upd h1)))
theorem ev_c_int (i : Int) : EvO K ds .f (tC (.int i)) (some i) := fun x hx B F M H σ Q E q => by
  cases hx; exact q _ F H (Ext.refl E.sF) (.int i)
theorem ev_c_bl (i : Bool) : EvO K ds .f (tC (.bl i)) (some i) := fun x hx B F M H σ Q E q => by
  cases hx; exact q _ F H (Ext.refl E.sF) (.bl i)
theorem ev_c_str (i : Str) : EvO K ds .f (tC (.str i)) (some i) := fun x hx B F M H σ Q E q => by
  cases hx; exact q _ F H (Ext.refl E.sF) (.str i)
theorem ev_c_non : EvO K ds .f (tC .non) (some ()) := fun x hx B F M H σ Q E q => by
  cases hx; exact q _ F H (Ext.refl E.sF) .non
/-- None in the place of a thing -/
theorem ev_none {α : Type} [Em α] (h : EvO K ds m te (some ())) : EvO K ds m te (some (none : Option α)) := fun x hx => by
  cases hx; exact h () rfl
theorem ev_some {o : Option α} (h : EvO K ds m te o) : EvO K ds m te (o.map some) := fun x hx => by
  cases o with
  | none => cases hx
  | some y => cases hx; exact h y rfl

/-- two parts, one behind the other -/
theorem ev2 {o1 : Option α} {o2 : Option β} {x : α} {y : β} (h1 : EvO K ds m1 ta o1) (h2 : EvO K ds m2 tb o2) (e1 : o1 = some x) (e2 : o2 = some y) {B F M H σ} {Q : V → V → Hp → Prop} (E : Env K B F M H σ ds)
    (q : ∀ v w F' H', Ext F H F' H' → Rp (hp m1 B F' H') v (em x) → Rp (hp m2 B F' H') w (em y) → Q v w H') : ta σ H fun v H1 => tb σ H1 fun w H2 => Q v w H2 :=
  h1 x e1 B F M H σ _ E fun v F1 H1 x1 r1 => h2 y e2 B F1 M H1 σ _ (E.ext x1) fun w F2 H2 x2 r2 => q v w F2 H2 (x1.trans x2) (r1.mono (hp_mono x2)) r2
/-- an operator upon two numbers that asks nothing -/
theorem ev_ii0 {g : Int → Int → V} {k : Int → Int → γ} {o1 o2 : Option Int} (hg : ∀ i j H, Rp H (g i j) (em (k i j))) (h1 : EvO K ds m1 ta o1) (h2 : EvO K ds m2 tb o2) : EvO K ds .f (tOp (rI0 g) ta tb) (obin (fun i j => some (k i j)) o1 o2) := by
  intro z hz B F M H σ Q E q
  obtain ⟨i, j, e1, e2, e3⟩ := obin_some hz
  cases e3
  exact ev2 h1 h2 e1 e2 E fun v w F' H' x r1 r2 => ⟨i, j, rp_int r1, rp_int r2, q _ F' H' x (hg i j _)⟩
theorem ev_iiC {C : Int → Int → Prop} {g : Int → Int → V} {k : Int → Int → Option γ} {o1 o2 : Option Int} (hg : ∀ i j z, k i j = some z → C i j ∧ ∀ H, Rp H (g i j) (em z)) (h1 : EvO K ds m1 ta o1) (h2 : EvO K ds m2 tb o2) : EvO K ds .f (tOp (rI C g) ta tb) (obin k o1 o2) := by
  intro z hz B F M H σ Q E q
  obtain ⟨i, j, e1, e2, e3⟩ := obin_some hz
  exact ev2 h1 h2 e1 e2 E fun v w F' H' x r1 r2 => ⟨i, j, rp_int r1, rp_int r2, (hg i j z e3).1, q _ F' H' x ((hg i j z e3).2 _)⟩
end
/-! ### numbers -/
def oadd (a b : Option Int) : Option Int := obin (fun i j => some (i + j)) a b
def osub (a b : Option Int) : Option Int := obin (fun i j => some (i - j)) a b
def fmul (i j : Int) : Option Int := if i.natAbs < 2 ^ 64 ∨ j.natAbs < 2 ^ 64 then some (i * j) else none
def omul (a b : Option Int) : Option Int := obin fmul a b
def fmod (i j : Int) : Option Int := if 0 < j then some (i % j) else none
def omod (a b : Option Int) : Option Int := obin fmod a b
def ffdiv (i j : Int) : Option Int := if 0 < j ∧ j < 1073741824 then some (i / j) else none
def ofdiv (a b : Option Int) : Option Int := obin ffdiv a b
def fpow (i j : Int) : Option Int := if 0 ≤ j ∧ j ≤ 1000000 ∧ i.natAbs < 2 ^ 64 then some (i ^ j.toNat) else none
def opow (a b : Option Int) : Option Int := obin fpow a b
def oneg (a : Option Int) : Option Int := a.map fun i => -i
def olt (a b : Option Int) : Option Bool := obin (fun i j => some (decide (i < j))) a b
def ole (a b : Option Int) : Option Bool := obin (fun i j => some (decide (i ≤ j))) a b
def ogt (a b : Option Int) : Option Bool := obin (fun i j => some (decide (j < i))) a b
def oge (a b : Option Int) : Option Bool := obin (fun i j => some (decide (j ≤ i))) a b
section
variable {K : PySem.W.Frag} {ds : List Sl} {ta tb tc te : TE} {m m1 m2 m3 : Md}
section
variable {o1 o2 : Option Int}
theorem ev_add (h1 : EvO K ds m1 ta o1) (h2 : EvO K ds m2 tb o2) : EvO K ds .f (tOp (rI0 fun i j => .int (i + j)) ta tb) (oadd o1 o2) := ev_ii0 (fun _ _ _ => .int _) h1 h2
theorem ev_sub (h1 : EvO K ds m1 ta o1) (h2 : EvO K ds m2 tb o2) : EvO K ds .f (tOp (rI0 fun i j => .int (i - j)) ta tb) (osub o1 o2) := ev_ii0 (fun _ _ _ => .int _) h1 h2
theorem ev_mul (h1 : EvO K ds m1 ta o1) (h2 : EvO K ds m2 tb o2) : EvO K ds .f (tOp (rI CMul fun i j => .int (i * j)) ta tb) (omul o1 o2) := ev_iiC (fun i j z h => by
  unfold fmul at h
  split at h
  · rename_i c
    cases h
    refine ⟨?_, fun _ => .int _⟩
    rcases c with c | c
    · exact .inl (by omega)
    · exact .inr (by omega)
  · cases h) h1 h2
theorem ev_mod (h1 : EvO K ds m1 ta o1) (h2 : EvO K ds m2 tb o2) : EvO K ds .f (tOp (rI (fun _ j => 0 < j) fun i j => .int (i % j)) ta tb) (omod o1 o2) := ev_iiC (fun i j z h => by
  unfold fmod at h
  split at h
  · cases h; exact ⟨by assumption, fun _ => .int _⟩
  · cases h) h1 h2
theorem ev_fdiv (h1 : EvO K ds m1 ta o1) (h2 : EvO K ds m2 tb o2) : EvO K ds .f (tOp (rI CDiv fun i j => .int (i / j)) ta tb) (ofdiv o1 o2) := ev_iiC (fun i j z h => by
  unfold ffdiv at h
  split at h
  · cases h; exact ⟨by assumption, fun _ => .int _⟩
  · cases h) h1 h2
theorem ev_pow (h1 : EvO K ds m1 ta o1) (h2 : EvO K ds m2 tb o2) : EvO K ds .f (tOp (rI CPow fun i j => .int (i ^ j.toNat)) ta tb) (opow o1 o2) := ev_iiC (fun i j z h => by
  unfold fpow at h
  split at h
  · cases h; exact ⟨by assumption, fun _ => .int _⟩
  · cases h) h1 h2
theorem ev_neg (h1 : EvO K ds m1 ta o1) : EvO K ds .f (tUn (rU fun i => .int (-i)) ta) (oneg o1) := by
  intro z hz B F M H σ Q E q
  cases o1 with
  | none => cases hz
  | some i =>
    cases hz
    exact h1 i rfl B F M H σ _ E fun v F' H' x r => ⟨i, rp_int r, q _ F' H' x (.int _)⟩
theorem ev_lt (h1 : EvO K ds m1 ta o1) (h2 : EvO K ds m2 tb o2) : EvO K ds .f (tOp (rI0 fun i j => .bl (decide (i < j))) ta tb) (olt o1 o2) := ev_ii0 (fun _ _ _ => .bl _) h1 h2
theorem ev_le (h1 : EvO K ds m1 ta o1) (h2 : EvO K ds m2 tb o2) : EvO K ds .f (tOp (rI0 fun i j => .bl (decide (i ≤ j))) ta tb) (ole o1 o2) := ev_ii0 (fun _ _ _ => .bl _) h1 h2
theorem ev_gt (h1 : EvO K ds m1 ta o1) (h2 : EvO K ds m2 tb o2) : EvO K ds .f (tOp (rI0 fun i j => .bl (decide (j < i))) ta tb) (ogt o1 o2) := ev_ii0 (fun _ _ _ => .bl _) h1 h2
theorem ev_ge (h1 : EvO K ds m1 ta o1) (h2 : EvO K ds m2 tb o2) : EvO K ds .f (tOp (rI0 fun i j => .bl (decide (j ≤ i))) ta tb) (oge o1 o2) := ev_ii0 (fun _ _ _ => .bl _) h1 h2
end
/-! ### == by data; of things that are no lists by value -/
def oeqd {α β : Type} [Em α] [Em β] (a : Option α) (b : Option β) : Option Bool := obin (fun x y => some (PyData.eqv (em x) (em y))) a b
def oned {α β : Type} [Em α] [Em β] (a : Option α) (b : Option β) : Option Bool := obin (fun x y => some (!PyData.eqv (em x) (em y))) a b
def oeq {α : Type} [DecidableEq α] (a b : Option α) : Option Bool := obin (fun x y => some (decide (x = y))) a b
def one {α : Type} [DecidableEq α] (a b : Option α) : Option Bool := obin (fun x y => some (!decide (x = y))) a b
def oisN {α : Type} (a : Option (Option α)) : Option Bool := a.map fun x => x.isNone
def onotN {α : Type} (a : Option (Option α)) : Option Bool := a.map fun x => x.isSome
section
variable {α β : Type} [Em α] [Em β]
theorem ev_eqd [Shp α] [Shp β] {o1 : Option α} {o2 : Option β} (l1 : Shp.dep α ≤ 64) (l2 : Shp.dep β ≤ 64) (h1 : EvO K ds m1 ta o1) (h2 : EvO K ds m2 tb o2) : EvO K ds .f (tOp (rEqD K) ta tb) (oeqd o1 o2) := by
  intro z hz B F M H σ Q E q
  obtain ⟨x, y, e1, e2, e3⟩ := obin_some hz
  cases e3
  exact ev2 h1 h2 e1 e2 E fun v w F' H' e r1 r2 => ⟨em x, em y, (r1.mono (hp_H (E.ext e))).dp K, (r2.mono (hp_H (E.ext e))).dp K, shaped_em l1 x, shaped_em l2 y, q _ F' H' e (.bl _)⟩
theorem ev_ned [Shp α] [Shp β] {o1 : Option α} {o2 : Option β} (l1 : Shp.dep α ≤ 64) (l2 : Shp.dep β ≤ 64) (h1 : EvO K ds m1 ta o1) (h2 : EvO K ds m2 tb o2) : EvO K ds .f (tOp (rNeD K) ta tb) (oned o1 o2) := by
  intro z hz B F M H σ Q E q
  obtain ⟨x, y, e1, e2, e3⟩ := obin_some hz
  cases e3
  exact ev2 h1 h2 e1 e2 E fun v w F' H' e r1 r2 => ⟨em x, em y, (r1.mono (hp_H (E.ext e))).dp K, (r2.mono (hp_H (E.ext e))).dp K, shaped_em l1 x, shaped_em l2 y, q _ F' H' e (.bl _)⟩
end
/-- what == of the machine's own values tells -/
class Vq (α : Type) [Em α] [DecidableEq α] : Prop where
  eq : ∀ (x y : α) (H H' : Hp) (v w : V), Rp H v (em x) → Rp H' w (em y) → scal v w = true ∧ decide (v = w) = decide (x = y)
instance : Vq Int := ⟨fun x y H H' v w h1 h2 => by
  cases rp_int h1; cases rp_int h2
  exact ⟨rfl, by simp⟩⟩
instance : Vq Bool := ⟨fun x y H H' v w h1 h2 => by
  cases rp_bool h1; cases rp_bool h2
  exact ⟨rfl, by simp⟩⟩
instance : Vq Str := ⟨fun x y H H' v w h1 h2 => by
  cases rp_str h1; cases rp_str h2
  exact ⟨rfl, by simp⟩⟩
theorem ev_eq {α : Type} [Em α] [DecidableEq α] [Vq α] {o1 o2 : Option α} (h1 : EvO K ds m1 ta o1) (h2 : EvO K ds m2 tb o2) : EvO K ds .f (tOp rEq ta tb) (oeq o1 o2) := by
  intro z hz B F M H σ Q E q
  obtain ⟨x, y, e1, e2, e3⟩ := obin_some hz
  cases e3
  exact ev2 h1 h2 e1 e2 E fun v w F' H' e r1 r2 => ⟨(Vq.eq x y _ _ v w r1 r2).1, by rw [(Vq.eq x y _ _ v w r1 r2).2]; exact q _ F' H' e (.bl _)⟩
theorem ev_ne {α : Type} [Em α] [DecidableEq α] [Vq α] {o1 o2 : Option α} (h1 : EvO K ds m1 ta o1) (h2 : EvO K ds m2 tb o2) : EvO K ds .f (tOp rNe ta tb) (one o1 o2) := by
  intro z hz B F M H σ Q E q
  obtain ⟨x, y, e1, e2, e3⟩ := obin_some hz
  cases e3
  exact ev2 h1 h2 e1 e2 E fun v w F' H' e r1 r2 => ⟨(Vq.eq x y _ _ v w r1 r2).1, by rw [(Vq.eq x y _ _ v w r1 r2).2]; exact q _ F' H' e (.bl _)⟩
/-- a thing that is never None itself -/
class Nn (α : Type) [Em α] : Prop where
  nn : ∀ (x : α) (H : Hp) (v : V), Rp H v (em x) → v ≠ .non
instance : Nn Int := ⟨fun x H v h => by cases rp_int h; exact fun z => nomatch z⟩
instance : Nn Bool := ⟨fun x H v h => by cases rp_bool h; exact fun z => nomatch z⟩
instance : Nn Str := ⟨fun x H v h => by cases rp_str h; exact fun z => nomatch z⟩
instance {α : Type} [Em α] : Nn (List α) := ⟨fun x H v h => by obtain ⟨p, vs, rfl, _⟩ := rp_list h; exact fun z => nomatch z⟩
instance {α β : Type} [Em α] [Em β] : Nn (α × β) := ⟨fun x H v h => by obtain ⟨p, a, b, rfl, _⟩ := rp_pair h; exact fun z => nomatch z⟩
theorem ev_isN {α : Type} [Em α] [Nn α] {o : Option (Option α)} (h : EvO K ds m ta o) {r : V → V → Hp → VK → Prop} (hr : ∀ x H Q, Q (.bl (decide (x = .non))) H → r x .non H Q) : EvO K ds .f (tOp r ta (tC .non)) (oisN o) := by
  intro z hz B F M H σ Q E q
  cases o with
  | none => cases hz
  | some x =>
    cases hz
    refine h x rfl B F M H σ _ E fun v F' H' e r => hr _ _ _ ?_
    have : decide (v = V.non) = x.isNone := by
      cases x with
      | none =>
        have r : Rp _ v .none := r
        cases r; rfl
      | some y => exact decide_eq_false (Nn.nn y _ v r)
    rw [this]
    exact q _ F' H' e (.bl _)
theorem ev_notN {α : Type} [Em α] [Nn α] {o : Option (Option α)} (h : EvO K ds m ta o) {r : V → V → Hp → VK → Prop} (hr : ∀ x H Q, Q (.bl (!decide (x = .non))) H → r x .non H Q) : EvO K ds .f (tOp r ta (tC .non)) (onotN o) := by
  intro z hz B F M H σ Q E q
  cases o with
  | none => cases hz
  | some x =>
    cases hz
    refine h x rfl B F M H σ _ E fun v F' H' e r => hr _ _ _ ?_
    have : (!decide (v = V.non)) = x.isSome := by
      cases x with
      | none =>
        have r : Rp _ v .none := r
        cases r; rfl
      | some y => rw [decide_eq_false (Nn.nn y _ v r)]; rfl
    rw [this]
    exact q _ F' H' e (.bl _)

/-! ### truth -/
def oand (a b : Option Bool) : Option Bool := a.bind fun x => if x then b else some false
def oor (a b : Option Bool) : Option Bool := a.bind fun x => if x then some true else b
def onot (a : Option Bool) : Option Bool := a.map fun x => !x
def oite {α : Type} (c : Option Bool) (a b : Option α) : Option α := c.bind fun x => if x then a else b
theorem Env.q {B F M H σ F' H'} (E : Env K B F M H σ ds) (e : Ext F H F' H') : Env K B F' M H' σ ds := E.ext e
section
variable {t u : TT} {o o1 o2 : Option Bool}
theorem et_test (h : EvO K ds m te o) : EvT K ds (tTest te) o := fun b hb B F M H σ Q E q => h b hb B F M H σ _ E fun v F' H' e r => ⟨b, rp_bool r, q F' H' e⟩
theorem et_B (h : EvO K ds m te o) : EvT K ds (tB te) o := fun b hb B F M H σ Q E q => h b hb B F M H σ _ E fun v F' H' e r => ⟨b, rp_bool r, q F' H' e⟩
theorem et_and (h1 : EvT K ds t o1) (h2 : EvT K ds u o2) : EvT K ds (tAnd t u) (oand o1 o2) := by
  intro b hb B F M H σ Q E q
  obtain ⟨x, e1, e2⟩ := bind_some' hb
  refine h1 x e1 B F M H σ _ E fun F' H' e => ?_
  cases x with
  | false => cases e2; exact q F' H' e
  | true => exact h2 b e2 B F' M H' σ _ (E.ext e) fun F2 H2 e' => q F2 H2 (e.trans e')
theorem et_or (h1 : EvT K ds t o1) (h2 : EvT K ds u o2) : EvT K ds (tOr t u) (oor o1 o2) := by
  intro b hb B F M H σ Q E q
  obtain ⟨x, e1, e2⟩ := bind_some' hb
  refine h1 x e1 B F M H σ _ E fun F' H' e => ?_
  cases x with
  | true => cases e2; exact q F' H' e
  | false => exact h2 b e2 B F' M H' σ _ (E.ext e) fun F2 H2 e' => q F2 H2 (e.trans e')
theorem et_not (h : EvT K ds t o) : EvT K ds (tNot t) (onot o) := by
  intro b hb B F M H σ Q E q
  cases o with
  | none => cases hb
  | some x => cases hb; exact h x rfl B F M H σ _ E q
theorem ev_andV (h1 : EvO K ds m1 ta o1) (h2 : EvO K ds m2 tb o2) : EvO K ds .f (tAndV ta tb) (oand o1 o2) := by
  intro b hb B F M H σ Q E q
  obtain ⟨x, e1, e2⟩ := bind_some' hb
  refine h1 x e1 B F M H σ _ E fun v F' H' e r => ⟨x, rp_bool r, ?_⟩
  cases x with
  | false => cases e2; exact q _ F' H' e (.bl _)
  | true => exact h2 b e2 B F' M H' σ _ (E.ext e) fun w F2 H2 e' r' => q w F2 H2 (e.trans e') (Scl.any b _ _ w r')
theorem ev_orV (h1 : EvO K ds m1 ta o1) (h2 : EvO K ds m2 tb o2) : EvO K ds .f (tOrV ta tb) (oor o1 o2) := by
  intro b hb B F M H σ Q E q
  obtain ⟨x, e1, e2⟩ := bind_some' hb
  refine h1 x e1 B F M H σ _ E fun v F' H' e r => ⟨x, rp_bool r, ?_⟩
  cases x with
  | true => cases e2; exact q _ F' H' e (.bl _)
  | false => exact h2 b e2 B F' M H' σ _ (E.ext e) fun w F2 H2 e' r' => q w F2 H2 (e.trans e') (Scl.any b _ _ w r')
theorem ev_notV (h : EvO K ds m te o) : EvO K ds .f (tNotV te) (onot o) := by
  intro b hb B F M H σ Q E q
  cases o with
  | none => cases hb
  | some x => cases hb; exact h x rfl B F M H σ _ E fun v F' H' e r => ⟨x, rp_bool r, q _ F' H' e (.bl _)⟩
theorem ev_ite {α : Type} [Em α] {a b : Option α} (h : EvT K ds t o) (h1 : EvO K ds m ta a) (h2 : EvO K ds m tb b) : EvO K ds m (tIf t ta tb) (oite o a b) := by
  intro z hz B F M H σ Q E q
  obtain ⟨x, e1, e2⟩ := bind_some' hz
  refine h x e1 B F M H σ _ E fun F' H' e => ?_
  cases x with
  | true => exact h1 z e2 B F' M H' σ _ (E.ext e) fun w F2 H2 e' r' => q w F2 H2 (e.trans e') r'
  | false => exact h2 z e2 B F' M H' σ _ (E.ext e) fun w F2 H2 e' r' => q w F2 H2 (e.trans e') r'
end
end
end Tw
/-! Tuples, lists, calls of built-ins, comprehensions. -/
namespace Tw
open PySem L2

/-! ### short names for the kit's rules -/
section
variable {X : Cx}
def rLen (K : PySem.W.Frag) : List V → Hp → VK → Prop := fun xs H Q => ∃ p ys, xs = [V.ref p] ∧ (SqL K H p ys ∨ SqT K H p ys) ∧ Q (.int (ys.length : Nat)) H
theorem c_len : CallR X (.builtin "len") (rLen X.K) := call_len_seq
def rListOf (K : PySem.W.Frag) : List V → Hp → VK → Prop := fun xs H Q => ∃ p ys, xs = [V.ref p] ∧ (SqL K H p ys ∨ SqT K H p ys) ∧ ∀ l, H l = none → Q (.ref l) (upd H l (.lst ys))
theorem c_list : CallR X (.type "list") (rListOf X.K) := call_list_of
def rMax2 : List V → Hp → VK → Prop := fun xs H Q => ∃ i j, xs = [V.int i, V.int j] ∧ Q (.int (if j > i then j else i)) H
theorem c_max2 (hc : X.calm = true) : CallR X (.builtin "max") rMax2 := call_max2 hc
def rMin2 : List V → Hp → VK → Prop := fun xs H Q => ∃ i j, xs = [V.int i, V.int j] ∧ Q (.int (if j < i then j else i)) H
theorem c_min2 (hc : X.calm = true) : CallR X (.builtin "min") rMin2 := call_min2 hc
def rInt1 : List V → Hp → VK → Prop := fun xs H Q => (∃ i, xs = [V.int i] ∧ Q (.int i) H) ∨ ∃ k, xs = [V.bl k] ∧ Q (.int (if k then 1 else 0)) H
theorem c_int : CallR X (.type "int") rInt1 := call_int1
def rStr1 : List V → Hp → VK → Prop := fun xs H Q => ∃ i, xs = [V.int i] ∧ i.natAbs.log2 < 1920 ∧ Q (.str (toString i)) H
theorem c_str : CallR X (.type "str") rStr1 := call_str_int
def rIsN : R2 := fun x y H Q => y = .non ∧ Q (.bl (decide (x = .non))) H
theorem op_isN' : OpR X (compareOp .Is) rIsN := op_isN
def rNotN : R2 := fun x y H Q => y = .non ∧ Q (.bl (!decide (x = .non))) H
theorem op_notN' : OpR X (compareOp .IsNot) rNotN := op_notN
end

/-! ### index, slice -/
theorem atI_map {α β : Type} (f : α → β) (xs : List α) (i : Int) : atI (xs.map f) i = (atI xs i).map f := by
  unfold atI
  rw [List.length_map]
  cases ixN xs.length i with
  | none => rfl
  | some j => simp [List.getElem?_map]
def cutG {α : Type} (xs : List α) (lo hi : Option Int) : List α := (xs.drop (HT.sIx xs.length 0 lo)).take (HT.sIx xs.length xs.length hi - HT.sIx xs.length 0 lo)
theorem cutG_map {α β : Type} (f : α → β) (xs : List α) (lo hi : Option Int) : cutG (xs.map f) lo hi = (cutG xs lo hi).map f := by
  unfold cutG
  rw [List.length_map, List.map_take, List.map_drop]
theorem RpA.at {H : Hp} {vs : List V} {ds : List PyData} {i : Int} {d : PyData} (r : RpA H vs ds) (h : atI ds i = some d) : ∃ v, atI vs i = some v ∧ Rp H v d := by
  unfold atI at h ⊢
  rw [r.len]
  cases e : ixN ds.length i with
  | none => rw [e] at h; cases h
  | some j =>
    rw [e] at h
    exact r.get h
theorem RpA.cut {H : Hp} {vs : List V} {ds : List PyData} {lo hi : Option Int} (r : RpA H vs ds) : RpA H (cutV vs lo hi) (cutG ds lo hi) := by
  unfold cutV cutG
  rw [r.len]
  exact (r.drop _).take _

def olen {α : Type} (o : Option (List α)) : Option Int := o.map fun xs => (xs.length : Int)
def oix {α : Type} (o : Option (List α)) (i : Option Int) : Option α := obin atI o i
def obound : Option (Option Int) → Option (Option Int) := id
def ocut {α : Type} (o : Option (List α)) (lo hi : Option (Option Int)) : Option (List α) := o.bind fun xs => lo.bind fun l => hi.bind fun h => some (cutG xs l h)
def ocat {α : Type} (a b : Option (List α)) : Option (List α) := obin (fun xs ys => if xs.length + ys.length ≤ 100000 then some (xs ++ ys) else none) a b
def oind {α : Type} [Em α] (a : Option α) (b : Option (List α)) : Option Bool := obin (fun x xs => some (xs.any fun z => PyData.eqv (em z) (em x))) a b
def onind {α : Type} [Em α] (a : Option α) (b : Option (List α)) : Option Bool := obin (fun x xs => some (!xs.any fun z => PyData.eqv (em z) (em x))) a b
def omax2 (a b : Option Int) : Option Int := obin (fun i j => some (if j > i then j else i)) a b
def omin2 (a b : Option Int) : Option Int := obin (fun i j => some (if j < i then j else i)) a b
def ochain {α β γ : Type} (f : α → β → Option Bool) (g : β → γ → Option Bool) (a : Option α) (b : Option β) (c : Option γ) : Option Bool :=
  a.bind fun x => b.bind fun y => (f x y).bind fun k => if k then c.bind fun z => g y z else some false
def otup2 {α β : Type} (a : Option α) (b : Option β) : Option (α × β) := obin (fun x y => some (x, y)) a b
def otup3 {α β γ : Type} (a : Option α) (b : Option β) (c : Option γ) : Option (T3 α β γ) := a.bind fun x => b.bind fun y => c.bind fun z => some ⟨x, y, z⟩
def otup4 {α β γ δ : Type} (a : Option α) (b : Option β) (c : Option γ) (d : Option δ) : Option (T4 α β γ δ) := a.bind fun x => b.bind fun y => c.bind fun z => d.bind fun w => some ⟨x, y, z, w⟩
def oints (o : Option Bool) : Option Int := o.map fun k => if k then 1 else 0
def ostr (o : Option Int) : Option Str := o.bind fun i => if i.natAbs.log2 < 1920 then some (toString i) else none
/-- isinstance with a built-in class -/
def tyN : PyData → String
  | .none => "NoneType" | .bool _ => "bool" | .int _ => "int" | .str _ => "str" | .list _ => "list" | .tuple _ => "tuple" | .dict _ => "dict"
def isiD (T : String) (d : PyData) : Bool := (kitB (tyN d) T).getD false
def oisi {α : Type} [Em α] (T : String) (o : Option α) : Option Bool := o.map fun x => isiD T (em x)
abbrev KitOk (T : String) : Prop := ∀ a ∈ ["NoneType", "bool", "int", "str", "list", "tuple"], (kitB a T).isSome = true
theorem kit_int : KitOk "int" := by decide +kernel
theorem kit_bool : KitOk "bool" := by decide +kernel
theorem kit_list : KitOk "list" := by decide +kernel
theorem kit_tuple : KitOk "tuple" := by decide +kernel
theorem kit_str : KitOk "str" := by decide +kernel

section
variable {K : PySem.W.Frag} {ds : List Sl} {ta tb tc td te : TE} {m m1 m2 m3 m4 : Md} {α β γ δ : Type} [Em α] [Em β] [Em γ] [Em δ]

theorem rp_tupv {F : Hp} {p : Addr} {vs : List V} {es : List PyData} (h : F p = none) (r : RpA F vs es) : Rp (upd F p (.tup vs)) (.ref p) (.tuple es) := .tup upd_same (r.mono (same_upd h))
theorem small {n : Nat} (h : n ≤ 100000) : n ≤ sizeLine := Nat.le_trans h (by decide)
theorem ev_tup2 {o1 : Option α} {o2 : Option β} (h1 : EvO K ds .f ta o1) (h2 : EvO K ds .f tb o2) : EvO K ds .f (tTup (tCons ta (tCons tb tNil))) (otup2 o1 o2) := by
  intro z hz B F M H σ Q E q
  obtain ⟨x, y, e1, e2, e3⟩ := obin_some hz
  cases e3
  exact ev2 h1 h2 e1 e2 E fun v w F' H' e r1 r2 => ⟨by show 2 ≤ sizeLine; decide, fun p hp => q _ _ _ (e.trans (Ext.new1 e.sub hp)) (rp_tupv (none_of_same e.sub hp) (.cons r1 (.cons r2 .nil)))⟩
theorem ev_tup3 {o1 : Option α} {o2 : Option β} {o3 : Option γ} (h1 : EvO K ds .f ta o1) (h2 : EvO K ds .f tb o2) (h3 : EvO K ds .f tc o3) : EvO K ds .f (tTup (tCons ta (tCons tb (tCons tc tNil)))) (otup3 o1 o2 o3) := by
  intro z hz B F M H σ Q E q
  obtain ⟨x, e1, hz⟩ := bind_some' hz
  obtain ⟨y, e2, hz⟩ := bind_some' hz
  obtain ⟨w, e3, hz⟩ := bind_some' hz
  cases hz
  exact h1 x e1 B F M H σ _ E fun v1 F1 H1 x1 r1 => h2 y e2 B F1 M H1 σ _ (E.ext x1) fun v2 F2 H2 x2 r2 => h3 w e3 B F2 M H2 σ _ ((E.ext x1).ext x2) fun v3 F3 H3 x3 r3 =>
    ⟨by show 3 ≤ sizeLine; decide, fun p hp => q _ _ _ (((x1.trans x2).trans x3).trans (Ext.new1 x3.sub hp)) (rp_tupv (none_of_same x3.sub hp) (.cons ((r1.mono x2.sF).mono x3.sF) (.cons (r2.mono x3.sF) (.cons r3 .nil))))⟩
theorem ev_tup4 {o1 : Option α} {o2 : Option β} {o3 : Option γ} {o4 : Option δ} (h1 : EvO K ds .f ta o1) (h2 : EvO K ds .f tb o2) (h3 : EvO K ds .f tc o3) (h4 : EvO K ds .f td o4) : EvO K ds .f (tTup (tCons ta (tCons tb (tCons tc (tCons td tNil))))) (otup4 o1 o2 o3 o4) := by
  intro z hz B F M H σ Q E q
  obtain ⟨x, e1, hz⟩ := bind_some' hz
  obtain ⟨y, e2, hz⟩ := bind_some' hz
  obtain ⟨w, e3, hz⟩ := bind_some' hz
  obtain ⟨u, e4, hz⟩ := bind_some' hz
  cases hz
  exact h1 x e1 B F M H σ _ E fun v1 F1 H1 x1 r1 => h2 y e2 B F1 M H1 σ _ (E.ext x1) fun v2 F2 H2 x2 r2 => h3 w e3 B F2 M H2 σ _ ((E.ext x1).ext x2) fun v3 F3 H3 x3 r3 => h4 u e4 B F3 M H3 σ _ (((E.ext x1).ext x2).ext x3) fun v4 F4 H4 x4 r4 =>
    ⟨by show 4 ≤ sizeLine; decide, fun p hp => q _ _ _ ((((x1.trans x2).trans x3).trans x4).trans (Ext.new1 x4.sub hp)) (rp_tupv (none_of_same x4.sub hp) (.cons (((r1.mono x2.sF).mono x3.sF).mono x4.sF) (.cons ((r2.mono x3.sF).mono x4.sF) (.cons (r3.mono x4.sF) (.cons r4 .nil)))))⟩
theorem ei_nil : EvI K ds 0 tNil (some ([] : List α)) := fun xs hx => by
  cases hx
  exact ⟨rfl, fun B F M H σ Q E q => q [] F H (Ext.refl E.sF) .nil⟩
def ocons {α : Type} (a : Option α) (b : Option (List α)) : Option (List α) := obin (fun x xs => some (x :: xs)) a b
theorem ei_cons {n : Nat} {tr : TA} {o1 : Option α} {o2 : Option (List α)} (h1 : EvO K ds .f ta o1) (h2 : EvI K ds n tr o2) : EvI K ds (n + 1) (tCons ta tr) (ocons o1 o2) := fun zs hz => by
  obtain ⟨x, xs, e1, e2, e3⟩ := obin_some hz
  cases e3
  obtain ⟨hl, h2⟩ := h2 xs e2
  exact ⟨by rw [List.length_cons, hl], fun B F M H σ Q E q => h1 x e1 B F M H σ _ E fun v F1 H1 x1 r1 => h2 B F1 M H1 σ _ (E.ext x1) fun vs F2 H2 x2 r2 => q _ F2 H2 (x1.trans x2) (.cons (r1.mono x2.sF) r2)⟩
theorem el_lst {n : Nat} {t : TA} {o : Option (List α)} (hn : n ≤ 100000) (h : EvI K ds n t o) : EvL K ds (tLst t) o := fun xs hx B F M H σ Q E q => by
  obtain ⟨hl, h⟩ := h xs hx
  refine h B F M H σ _ E fun vs F' H' e r => ⟨small (by rw [r.len, List.length_map, hl]; exact hn), fun p hp => ?_⟩
  exact q p vs F' _ (e.trans (Ext.new0 e.sub hp)) (none_of_same e.sub hp) (none_of_same e.sH hp) upd_same r
theorem ev_len {o : Option (List α)} (h : EvO K ds m te o) : EvO K ds .f (tCB (rLen K) (tCons te tNil)) (olen o) := by
  intro z hz B F M H σ Q E q
  cases o with
  | none => cases hz
  | some xs =>
    cases hz
    refine h xs rfl B F M H σ _ E fun v F' H' e r => ?_
    obtain ⟨p, vs, rfl, hp, ra⟩ := rp_list r
    refine ⟨p, vs, rfl, .inl (SqL.of (hp_H (E.ext e) _ _ hp)), ?_⟩
    have : (vs.length : Int) = (xs.length : Int) := by rw [ra.len, List.length_map]
    rw [this]
    exact q _ F' H' e (.int _)
def olen2 {α β : Type} (o : Option (α × β)) : Option Int := o.map fun _ => 2
theorem ev_len2 {o : Option (α × β)} (h : EvO K ds m te o) : EvO K ds .f (tCB (rLen K) (tCons te tNil)) (olen2 o) := by
  intro z hz B F M H σ Q E q
  cases o with
  | none => cases hz
  | some xs =>
    cases hz
    refine h xs rfl B F M H σ _ E fun v F' H' e r => ?_
    obtain ⟨p, a, b, rfl, hp, _⟩ := rp_pair r
    exact ⟨p, [a, b], rfl, .inr (SqT.of (hp_H (E.ext e) _ _ hp)), q _ F' H' e (.int _)⟩
/-- the script -/
theorem ev_lenS {i : Nat} {ns : List Int} (h : ds[i]? = some (.scr ns)) : EvO K ds .f (tCB (rLen K) (tCons (tVar i) tNil)) (some (ns.length : Int)) := by
  intro z hz B F M H σ Q E q
  cases hz
  obtain ⟨_, _, a, e, r⟩ := E.at h
  refine ⟨.ref a, e, a, ns.map V.int, rfl, .inl (E.sB.seq r), ?_⟩
  rw [List.length_map]
  exact q _ F H (Ext.refl E.sF) (.int _)
theorem ev_ixS {i : Nat} {ns : List Int} {o : Option Int} (h : ds[i]? = some (.scr ns)) (h2 : EvO K ds m tb o) : EvO K ds .f (tOp (rIxL K) (tVar i) tb) (oix (some ns) o) := by
  intro z hz B F M H σ Q E q
  obtain ⟨x, k, e1, e2, e3⟩ := obin_some hz
  cases e1
  obtain ⟨_, _, a, e, r⟩ := E.at h
  refine ⟨.ref a, e, h2 k e2 B F M H σ _ E fun w F' H' x rk => ⟨a, ns.map V.int, k, .int z, rfl, rp_int rk, x.sH.seq (E.sB.seq r), ?_, q _ F' H' x (.int z)⟩⟩
  rw [atI_map, e3]
  rfl
theorem ev_ix {o1 : Option (List α)} {o2 : Option Int} (h1 : EvO K ds m ta o1) (h2 : EvO K ds m2 tb o2) : EvO K ds m (tOp (rIxL K) ta tb) (oix o1 o2) := by
  intro z hz B F M H σ Q E q
  obtain ⟨xs, k, e1, e2, e3⟩ := obin_some hz
  refine ev2 h1 h2 e1 e2 E fun v w F' H' e r1 r2 => ?_
  obtain ⟨p, vs, rfl, hp, ra⟩ := rp_list r1
  obtain ⟨u, hu, ru⟩ := ra.at (i := k) (d := em z) (by rw [atI_map, e3]; rfl)
  exact ⟨p, vs, k, u, rfl, rp_int r2, SqL.of (hp_H (E.ext e) _ _ hp), hu, q _ F' H' e ru⟩
/-- an item of an own list -/
theorem ev_ixO {i : Nat} {xs : List α} {o : Option Int} (h : ds[i]? = some (.own (xs.map em))) (h2 : EvO K ds m tb o) : EvO K ds .f (tOp (rIxL K) (tVar i) tb) (oix (some xs) o) := by
  intro z hz B F M H σ Q E q
  obtain ⟨x, k, e1, e2, e3⟩ := obin_some hz
  cases e1
  obtain ⟨_, _, p, vs, e, hp, r, _⟩ := E.at h
  refine ⟨.ref p, e, h2 k e2 B F M H σ _ E fun w F' H' x rk => ?_⟩
  obtain ⟨u, hu, ru⟩ := r.at (i := k) (d := em z) (by rw [atI_map, e3]; rfl)
  exact ⟨p, vs, k, u, rfl, rp_int rk, SqL.of (x.sH _ _ hp), hu, q _ F' H' x (ru.mono x.sF)⟩
/-- a place of a tuple -/
theorem ev_fst {o : Option (α × β)} (h : EvO K ds m ta o) : EvO K ds m (tOp (rIxT K) ta (tC (.int 0))) (o.map (·.1)) := by
  intro z hz B F M H σ Q E q
  cases o with
  | none => cases hz
  | some x =>
    cases hz
    refine h x rfl B F M H σ _ E fun v F' H' e r => ?_
    obtain ⟨p, a, b, rfl, hp, ra, rb⟩ := rp_pair r
    exact ⟨p, [a, b], 0, a, rfl, rfl, SqT.of (hp_H (E.ext e) _ _ hp), rfl, q _ F' H' e ra⟩
theorem ev_snd {o : Option (α × β)} (h : EvO K ds m ta o) : EvO K ds m (tOp (rIxT K) ta (tC (.int 1))) (o.map (·.2)) := by
  intro z hz B F M H σ Q E q
  cases o with
  | none => cases hz
  | some x =>
    cases hz
    refine h x rfl B F M H σ _ E fun v F' H' e r => ?_
    obtain ⟨p, a, b, rfl, hp, ra, rb⟩ := rp_pair r
    exact ⟨p, [a, b], 1, b, rfl, rfl, SqT.of (hp_H (E.ext e) _ _ hp), rfl, q _ F' H' e rb⟩
theorem ev_t4a {o : Option (T4 α β γ δ)} (h : EvO K ds m ta o) : EvO K ds m (tOp (rIxT K) ta (tC (.int 0))) (o.map (·.a)) := by
  intro z hz B F M H σ Q E q
  cases o with
  | none => cases hz
  | some x =>
    cases hz
    refine h x rfl B F M H σ _ E fun v F' H' e r => ?_
    obtain ⟨p, a, b, c, d, rfl, hp, ra, rb, rc, rd⟩ := rp_t4 r
    exact ⟨p, [a, b, c, d], 0, a, rfl, rfl, SqT.of (hp_H (E.ext e) _ _ hp), rfl, q _ F' H' e ra⟩
theorem ev_t4b {o : Option (T4 α β γ δ)} (h : EvO K ds m ta o) : EvO K ds m (tOp (rIxT K) ta (tC (.int 1))) (o.map (·.b)) := by
  intro z hz B F M H σ Q E q
  cases o with
  | none => cases hz
  | some x =>
    cases hz
    refine h x rfl B F M H σ _ E fun v F' H' e r => ?_
    obtain ⟨p, a, b, c, d, rfl, hp, ra, rb, rc, rd⟩ := rp_t4 r
    exact ⟨p, [a, b, c, d], 1, b, rfl, rfl, SqT.of (hp_H (E.ext e) _ _ hp), rfl, q _ F' H' e rb⟩
theorem ev_t4c {o : Option (T4 α β γ δ)} (h : EvO K ds m ta o) : EvO K ds m (tOp (rIxT K) ta (tC (.int 2))) (o.map (·.c)) := by
  intro z hz B F M H σ Q E q
  cases o with
  | none => cases hz
  | some x =>
    cases hz
    refine h x rfl B F M H σ _ E fun v F' H' e r => ?_
    obtain ⟨p, a, b, c, d, rfl, hp, ra, rb, rc, rd⟩ := rp_t4 r
    exact ⟨p, [a, b, c, d], 2, c, rfl, rfl, SqT.of (hp_H (E.ext e) _ _ hp), rfl, q _ F' H' e rc⟩
theorem ev_t4d {o : Option (T4 α β γ δ)} (h : EvO K ds m ta o) : EvO K ds m (tOp (rIxT K) ta (tC (.int 3))) (o.map (·.d)) := by
  intro z hz B F M H σ Q E q
  cases o with
  | none => cases hz
  | some x =>
    cases hz
    refine h x rfl B F M H σ _ E fun v F' H' e r => ?_
    obtain ⟨p, a, b, c, d, rfl, hp, ra, rb, rc, rd⟩ := rp_t4 r
    exact ⟨p, [a, b, c, d], 3, d, rfl, rfl, SqT.of (hp_H (E.ext e) _ _ hp), rfl, q _ F' H' e rd⟩
/-- bounds of a slice -/
def EvB (K : PySem.W.Frag) (ds : List Sl) (t : TO) (o : Option (Option Int)) : Prop := ∀ x, o = some x → ∀ B F M H σ (Q : Option Int → Hp → Prop), Env K B F M H σ ds → (∀ F' H', Ext F H F' H' → Q x H') → t σ H Q
theorem eb_no : EvB K ds tNoPart (some none) := fun x hx B F M H σ Q E q => by cases hx; exact q F H (Ext.refl E.sF)
theorem eb_at {o : Option Int} (h : EvO K ds m te o) : EvB K ds (tPart te) (o.map some) := fun x hx B F M H σ Q E q => by
  cases o with
  | none => cases hx
  | some k =>
    cases hx
    exact h k rfl B F M H σ _ E fun v F' H' e r => ⟨k, rp_int r, q F' H' e⟩
theorem el_cut {tl th : TO} {o : Option (List α)} {ol oh : Option (Option Int)} (h : EvO K ds m te o) (hm : ∀ (x : α) B F M H σ v, Env K B F M H σ ds → Rp (hp m B F H) v (em x) → Rp F v (em x)) (hl : EvB K ds tl ol) (hh : EvB K ds th oh) : EvL K ds (tSl (rSlL K) te tl th) (ocut o ol oh) := by
  intro zs hz B F M H σ Q E q
  obtain ⟨xs, e1, hz⟩ := bind_some' hz
  obtain ⟨l, e2, hz⟩ := bind_some' hz
  obtain ⟨u, e3, hz⟩ := bind_some' hz
  cases hz
  refine h xs e1 B F M H σ _ E fun v F1 H1 x1 r1 => hl l e2 B F1 M H1 σ _ (E.ext x1) fun F2 H2 x2 => hh u e3 B F2 M H2 σ _ ((E.ext x1).ext x2) fun F3 H3 x3 => ?_
  obtain ⟨p, vs, rfl, hp, ra⟩ := rp_list r1
  have E3 := ((E.ext x1).ext x2).ext x3
  have s3 := (hp_mono (m := m) (B := B) x2).trans (hp_mono (m := m) (B := B) x3)
  refine ⟨p, vs, rfl, SqL.of (hp_H E3 _ _ (s3 _ _ hp)), fun n hn => q n _ F3 _ (((x1.trans x2).trans x3).trans (Ext.new0 E3.sF hn)) (none_of_same E3.sF hn) (none_of_same ((x1.sH.trans x2.sH).trans x3.sH) hn) upd_same ?_⟩
  rw [← cutG_map]
  have rb := (ra.mono s3)
  have conv : ∀ {vs : List V} {xs : List α}, RpA (Tw.hp m B F3 H3) vs (xs.map em) → RpA F3 vs (xs.map em) := by
    intro vs xs
    induction xs generalizing vs with
    | nil => intro r; cases r; exact .nil
    | cons x xs ih =>
      intro r
      cases r with
      | cons h r => exact .cons (hm x B F3 M H3 σ _ E3 h) (ih r)
  exact (conv rb).cut
theorem md_f {x : α} {B F M H σ v} (E : Env K B F M H σ ds) (h : Rp (hp .f B F H) v (em x)) : Rp F v (em x) := h
theorem el_cutF {tl th : TO} {o : Option (List α)} {ol oh : Option (Option Int)} (h : EvO K ds .f te o) (hl : EvB K ds tl ol) (hh : EvB K ds th oh) : EvL K ds (tSl (rSlL K) te tl th) (ocut o ol oh) := el_cut h (fun _ _ _ _ _ _ _ _ h => h) hl hh
theorem el_cutS [Scl α] {tl th : TO} {o : Option (List α)} {ol oh : Option (Option Int)} (h : EvO K ds m te o) (hl : EvB K ds tl ol) (hh : EvB K ds th oh) : EvL K ds (tSl (rSlL K) te tl th) (ocut o ol oh) := el_cut h (fun x _ _ _ _ _ _ _ h => Scl.any x _ _ _ h) hl hh
theorem el_cutX {i : Nat} {ns : List Int} {tl th : TO} {ol oh : Option (Option Int)} (h : ds[i]? = some (.scr ns)) (hl : EvB K ds tl ol) (hh : EvB K ds th oh) : EvL K ds (tSl (rSlL K) (tVar i) tl th) (ocut (some ns) ol oh) := by
  intro zs hz B F M H σ Q E q
  obtain ⟨xs, e1, hz⟩ := bind_some' hz
  obtain ⟨l, e2, hz⟩ := bind_some' hz
  obtain ⟨u, e3, hz⟩ := bind_some' hz
  cases e1
  cases hz
  obtain ⟨_, _, a, e, r⟩ := E.at h
  refine ⟨.ref a, e, hl l e2 B F M H σ _ E fun F2 H2 x2 => hh u e3 B F2 M H2 σ _ (E.ext x2) fun F3 H3 x3 => ?_⟩
  have E3 := (E.ext x2).ext x3
  refine ⟨a, _, rfl, E3.sB.seq r, fun n hn => q n _ F3 _ ((x2.trans x3).trans (Ext.new0 E3.sF hn)) (none_of_same E3.sF hn) (none_of_same (x2.sH.trans x3.sH) hn) upd_same ?_⟩
  rw [← cutG_map]
  exact RpA.cut (RpA.ofInts ns)
theorem conv_sc [Scl α] {H H' : Hp} : ∀ {vs : List V} {xs : List α}, RpA H vs (xs.map em) → RpA H' vs (xs.map em)
  | _, [], r => by cases r; exact .nil
  | _, x :: xs, r => by
    cases r with
    | cons h r => exact .cons (Scl.any x _ _ _ h) (conv_sc r)
theorem el_cat {o1 o2 : Option (List α)} (h1 : EvO K ds .f ta o1) (h2 : EvO K ds .f tb o2) : EvL K ds (tOp rCat ta tb) (ocat o1 o2) := by
  intro zs hz B F M H σ Q E q
  obtain ⟨xs, ys, e1, e2, e3⟩ := obin_some hz
  split at e3
  · rename_i hl
    cases e3
    refine ev2 h1 h2 e1 e2 E fun v w F' H' e r1 r2 => ?_
    obtain ⟨p, vs, rfl, hp, ra⟩ := rp_list r1
    obtain ⟨p2, vs2, rfl, hp2, ra2⟩ := rp_list r2
    refine ⟨p, p2, vs, vs2, rfl, rfl, e.sub _ _ hp, e.sub _ _ hp2, small (by rw [ra.len, ra2.len, List.length_map, List.length_map]; exact hl), fun n hn => q n _ F' _ (e.trans (Ext.new0 e.sub hn)) (none_of_same e.sub hn) (none_of_same e.sH hn) upd_same ?_⟩
    rw [List.map_append]
    exact ra.app ra2
  · cases e3
theorem el_catS [Scl α] {o1 o2 : Option (List α)} (h1 : EvO K ds m1 ta o1) (h2 : EvO K ds m2 tb o2) : EvL K ds (tOp rCat ta tb) (ocat o1 o2) := by
  intro zs hz B F M H σ Q E q
  obtain ⟨xs, ys, e1, e2, e3⟩ := obin_some hz
  split at e3
  · rename_i hl
    cases e3
    refine ev2 h1 h2 e1 e2 E fun v w F' H' e r1 r2 => ?_
    obtain ⟨p, vs, rfl, hp, ra⟩ := rp_list r1
    obtain ⟨p2, vs2, rfl, hp2, ra2⟩ := rp_list r2
    have E' := E.ext e
    refine ⟨p, p2, vs, vs2, rfl, rfl, hp_H E' _ _ hp, hp_H E' _ _ hp2, small (by rw [ra.len, ra2.len, List.length_map, List.length_map]; exact hl), fun n hn => q n _ F' _ (e.trans (Ext.new0 e.sub hn)) (none_of_same e.sub hn) (none_of_same e.sH hn) upd_same ?_⟩
    rw [List.map_append]
    exact (conv_sc ra).app (conv_sc ra2)
  · cases e3
theorem el_list {o : Option (List α)} (h : EvO K ds .f te o) : EvL K ds (tCB (rListOf K) (tCons te tNil)) o := by
  intro xs hx B F M H σ Q E q
  refine h xs hx B F M H σ _ E fun v F' H' e r => ?_
  obtain ⟨p, vs, rfl, hp, ra⟩ := rp_list r
  exact ⟨p, vs, rfl, .inl (SqL.of (e.sub _ _ hp)), fun n hn => q n _ F' _ (e.trans (Ext.new0 e.sub hn)) (none_of_same e.sub hn) (none_of_same e.sH hn) upd_same ra⟩
theorem el_listS [Scl α] {o : Option (List α)} (h : EvO K ds m te o) : EvL K ds (tCB (rListOf K) (tCons te tNil)) o := by
  intro xs hx B F M H σ Q E q
  refine h xs hx B F M H σ _ E fun v F' H' e r => ?_
  obtain ⟨p, vs, rfl, hp, ra⟩ := rp_list r
  exact ⟨p, vs, rfl, .inl (SqL.of (hp_H (E.ext e) _ _ hp)), fun n hn => q n _ F' _ (e.trans (Ext.new0 e.sub hn)) (none_of_same e.sub hn) (none_of_same e.sH hn) upd_same (conv_sc ra)⟩
theorem ev_in [Shp α] {o1 : Option α} {o2 : Option (List α)} (l : Shp.dep α + 1 ≤ 64) (h1 : EvO K ds m1 ta o1) (h2 : EvO K ds m2 tb o2) : EvO K ds .f (tOp (rInD K) ta tb) (oind o1 o2) := by
  intro z hz B F M H σ Q E q
  obtain ⟨x, xs, e1, e2, e3⟩ := obin_some hz
  cases e3
  refine ev2 h1 h2 e1 e2 E fun v w F' H' e r1 r2 => ⟨em x, xs.map em, (r1.mono (hp_H (E.ext e))).dp K, (r2.mono (hp_H (E.ext e))).dp K, shaped_em (by omega) x, shaped_em (α := List α) l xs, ?_⟩
  have := q _ F' H' e (Rp.bl _)
  rw [List.any_map]
  exact this
theorem ev_nin [Shp α] {o1 : Option α} {o2 : Option (List α)} (l : Shp.dep α + 1 ≤ 64) (h1 : EvO K ds m1 ta o1) (h2 : EvO K ds m2 tb o2) : EvO K ds .f (tOp (rNotInD K) ta tb) (onind o1 o2) := by
  intro z hz B F M H σ Q E q
  obtain ⟨x, xs, e1, e2, e3⟩ := obin_some hz
  cases e3
  refine ev2 h1 h2 e1 e2 E fun v w F' H' e r1 r2 => ⟨em x, xs.map em, (r1.mono (hp_H (E.ext e))).dp K, (r2.mono (hp_H (E.ext e))).dp K, shaped_em (by omega) x, shaped_em (α := List α) l xs, ?_⟩
  have := q _ F' H' e (Rp.bl _)
  rw [List.any_map]
  exact this
theorem ev_max2 {o1 o2 : Option Int} (h1 : EvO K ds m1 ta o1) (h2 : EvO K ds m2 tb o2) : EvO K ds .f (tCB rMax2 (tCons ta (tCons tb tNil))) (omax2 o1 o2) := by
  intro z hz B F M H σ Q E q
  obtain ⟨x, y, e1, e2, e3⟩ := obin_some hz
  cases e3
  exact ev2 h1 h2 e1 e2 E fun v w F' H' e r1 r2 => ⟨x, y, by rw [rp_int r1, rp_int r2], q _ F' H' e (.int _)⟩
theorem ev_min2 {o1 o2 : Option Int} (h1 : EvO K ds m1 ta o1) (h2 : EvO K ds m2 tb o2) : EvO K ds .f (tCB rMin2 (tCons ta (tCons tb tNil))) (omin2 o1 o2) := by
  intro z hz B F M H σ Q E q
  obtain ⟨x, y, e1, e2, e3⟩ := obin_some hz
  cases e3
  exact ev2 h1 h2 e1 e2 E fun v w F' H' e r1 r2 => ⟨x, y, by rw [rp_int r1, rp_int r2], q _ F' H' e (.int _)⟩
theorem ev_int1 {o : Option Int} (h : EvO K ds m te o) : EvO K ds .f (tCB rInt1 (tCons te tNil)) o := by
  intro z hz B F M H σ Q E q
  exact h z hz B F M H σ _ E fun v F' H' e r => .inl ⟨z, by rw [rp_int r], q _ F' H' e (.int _)⟩
theorem ev_intb {o : Option Bool} (h : EvO K ds m te o) : EvO K ds .f (tCB rInt1 (tCons te tNil)) (oints o) := by
  intro z hz B F M H σ Q E q
  cases o with
  | none => cases hz
  | some k =>
    cases hz
    exact h k rfl B F M H σ _ E fun v F' H' e r => .inr ⟨k, by rw [rp_bool r], q _ F' H' e (.int _)⟩
theorem ev_str1 {o : Option Int} (h : EvO K ds m te o) : EvO K ds .f (tCB rStr1 (tCons te tNil)) (ostr o) := by
  intro z hz B F M H σ Q E q
  obtain ⟨k, e1, e2⟩ := bind_some' hz
  split at e2
  · rename_i hl
    cases e2
    exact h k e1 B F M H σ _ E fun v F' H' e r => ⟨k, by rw [rp_int r], hl, q _ F' H' e (.str _)⟩
  · cases e2
theorem tyOf_rp {H : Hp} {v : V} {d : PyData} (r : Rp H v d) : TyX K H v (.type (tyN d)) ∧ tyN d ∈ ["NoneType", "bool", "int", "str", "list", "tuple"] := by
  cases r with
  | non => exact ⟨.base .non, by simp [tyN]⟩
  | bl b => exact ⟨.base (.bl b), by simp [tyN]⟩
  | int i => exact ⟨.base (.int i), by simp [tyN]⟩
  | str x => exact ⟨.base (.str x), by simp [tyN]⟩
  | lst h _ => exact ⟨.base (.lst h), by simp [tyN]⟩
  | tup h _ => exact ⟨.base (.tup h), by simp [tyN]⟩
theorem ev_isi {T : String} (k : KitOk T) {o : Option α} (h : EvO K ds m te o) : EvO K ds .f (tCB (rIsi K) (tCons te (tCons (tC (.ty T)) tNil))) (oisi T o) := by
  intro z hz B F M H σ Q E q
  cases o with
  | none => cases hz
  | some x =>
    cases hz
    refine h x rfl B F M H σ _ E fun v F' H' e r => ?_
    obtain ⟨t1, t2⟩ := tyOf_rp (K := K) (r.mono (hp_H (E.ext e)))
    have k2 := k _ t2
    obtain ⟨b, hb⟩ := Option.isSome_iff_exists.mp k2
    refine ⟨v, .ty T, _, _, b, rfl, .ty T, t1, kit_ty hb, ?_⟩
    have : b = isiD T (em x) := by unfold isiD; rw [hb]; rfl
    rw [this]
    exact q _ F' H' e (.bl _)
/-- a < b < c of numbers -/
theorem ev_chain {g g' : Int → Int → V} {k k' : Int → Int → Bool} {o1 o2 o3 : Option Int} (hg : ∀ i j, g i j = .bl (k i j)) (hg' : ∀ i j, g' i j = .bl (k' i j)) (h1 : EvO K ds m1 ta o1) (h2 : EvO K ds m2 tb o2) (h3 : EvO K ds m3 tc o3) :
    EvO K ds .f (tChain (rI0 g) (rI0 g') ta tb tc) (ochain (fun i j => some (k i j)) (fun i j => some (k' i j)) o1 o2 o3) := by
  intro z hz B F M H σ Q E q
  obtain ⟨x, e1, hz⟩ := bind_some' hz
  obtain ⟨y, e2, hz⟩ := bind_some' hz
  obtain ⟨b, e3, hz⟩ := bind_some' hz
  cases e3
  refine ev2 h1 h2 e1 e2 E fun v w F' H' e r1 r2 => ⟨x, y, rp_int r1, rp_int r2, k x y, hg x y, ?_⟩
  cases hk : k x y with
  | false =>
    rw [hk] at hz
    cases hz
    exact q _ F' H' e (.bl _)
  | true =>
    rw [hk] at hz
    obtain ⟨u, e4, hz⟩ := bind_some' hz
    cases hz
    refine h3 u e4 B F' M H' σ _ (E.ext e) fun w2 F2 H2 x2 r3 => ⟨y, u, rp_int r2, rp_int r3, ?_⟩
    rw [hg']
    exact q _ F2 H2 (e.trans x2) (.bl _)
end
end Tw
/-! Statements, loops, comprehensions, calls of own defs. -/
namespace Tw
open PySem L2

/-! ### a step: what is owned may change -/
structure Stp (F : Hp) (M : Addr → Prop) (H F' : Hp) (M' : Addr → Prop) (H' : Hp) : Prop where
  sF : Same F F'
  new : ∀ a, F' a ≠ none → F a ≠ none ∨ ((H a = none ∨ IsTp H a) ∨ M a)
  keep : ∀ b o, H b = some o → ¬ M b → H' b = some o
  mn : ∀ a, M' a → M a ∨ H a = none
theorem Stp.refl {F M H} : Stp F M H F M H := ⟨Same.refl _, fun _ h => .inl h, fun _ _ h _ => h, fun _ h => .inl h⟩
theorem Stp.ofExt {F M H F' H'} (e : Ext F H F' H') : Stp F M H F' M H' := ⟨e.sF, fun a h => (e.new a h).imp_right .inl, fun b o h _ => e.sH b o h, fun _ h => .inl h⟩
theorem Stp.trans {F M H F1 M1 H1 F2 M2 H2} (x : Stp F M H F1 M1 H1) (y : Stp F1 M1 H1 F2 M2 H2) : Stp F M H F2 M2 H2 := by
  have nb : ∀ a, H1 a = none → H a = none ∨ M a := fun a h => by
    cases e : H a with
    | none => exact .inl rfl
    | some o =>
      by_cases hm : M a
      · exact .inr hm
      · rw [x.keep a o e hm] at h; cases h
  refine ⟨x.sF.trans y.sF, fun a h => ?_, fun b o h hm => y.keep b o (x.keep b o h hm) fun z => ?_, fun a h => ?_⟩
  · rcases y.new a h with h | (h | ⟨ts, h⟩) | h
    · exact x.new a h
    · rcases nb a h with h | h
      · exact .inr (.inl (.inl h))
      · exact .inr (.inr h)
    · by_cases hm : M a
      · exact .inr (.inr hm)
      · cases e : H a with
        | none => exact .inr (.inl (.inl rfl))
        | some o =>
          have := x.keep a o e hm
          rw [h] at this
          cases this
          exact .inr (.inl (.inr ⟨ts, e⟩))
    · rcases x.mn a h with h | h
      · exact .inr (.inr h)
      · exact .inr (.inl (.inl h))
  · rcases x.mn b z with z | z
    · exact hm z
    · rw [h] at z; cases z
  · rcases y.mn a h with h | h
    · exact x.mn a h
    · exact (nb a h).symm

inductive Out | nx (ds : List Sl) | bk (ds : List Sl) | ct (ds : List Sl) | lp (ds : List Sl) | rt (s : Sl) | rd (s : Sl) (ds : List Sl) | xx (E : XK) (c : Value) (ds : List Sl)
def Fin (K : PySem.W.Frag) (B F : Hp) (M : Addr → Prop) (H : Hp) (out : Out) (D : Ends) : Prop := match out with
  | .nx ds => ∀ F' M' H' σ', Stp F M H F' M' H' → Env K B F' M' H' σ' ds → D.nx σ' H'
  | .bk ds => ∀ F' M' H' σ', Stp F M H F' M' H' → Env K B F' M' H' σ' ds → D.bk σ' H'
  | .ct ds => ∀ F' M' H' σ', Stp F M H F' M' H' → Env K B F' M' H' σ' ds → D.ct σ' H'
  | .lp ds => ∀ F' M' H' σ', Stp F M H F' M' H' → Env K B F' M' H' σ' ds → D.nx σ' H' ∧ D.ct σ' H'
  | .rt s => ∀ F' M' H' v, Stp F M H F' M' H' → Env K B F' M' H' [some v] [s] → D.rt v H'
  | .rd s ds => ∀ F' M' H' v σ', Stp F M H F' M' H' → Env K B F' M' H' (some v :: σ') (s :: ds) → D.rt v H'
  | .xx E c ds => ∀ F' M' H' σ', Stp F M H F' M' H' → Env K B F' M' H' σ' ds → E c none H'
theorem Fin.step {K B F M H F1 M1 H1 out D} (f : Fin K B F M H out D) (x : Stp F M H F1 M1 H1) : Fin K B F1 M1 H1 out D := by
  cases out with
  | nx ds => exact fun F' M' H' σ' y E => f F' M' H' σ' (x.trans y) E
  | bk ds => exact fun F' M' H' σ' y E => f F' M' H' σ' (x.trans y) E
  | ct ds => exact fun F' M' H' σ' y E => f F' M' H' σ' (x.trans y) E
  | lp ds => exact fun F' M' H' σ' y E => f F' M' H' σ' (x.trans y) E
  | rt s => exact fun F' M' H' v y E => f F' M' H' v (x.trans y) E
  | rd s ds => exact fun F' M' H' v σ' y E => f F' M' H' v σ' (x.trans y) E
  | xx E c ds => exact fun F' M' H' σ' y E => f F' M' H' σ' (x.trans y) E

def Out.isRt : Out → Bool
  | .rt _ => true
  | .rd _ _ => true
  | .xx _ _ _ => true
  | _ => false
theorem Fin.rt_any {K B F M H out} {D D' : Ends} (f : Fin K B F M H out D) (h : out.isRt = true) (e : D'.rt = D.rt := by rfl) : Fin K B F M H out D' := by
  cases out with
  | rt s => intro F' M' H' v st E; rw [e]; exact f F' M' H' v st E
  | rd s ds => intro F' M' H' v σ' st E; rw [e]; exact f F' M' H' v σ' st E
  | xx E c ds => exact f
  | nx ds => cases h
  | bk ds => cases h
  | ct ds => cases h
  | lp ds => cases h
def SvO (K : PySem.W.Frag) (ds : List Sl) (ts : TS) {τ : Type} (o : Option τ) (out : τ → Out) : Prop :=
  ∀ t, o = some t → ∀ B F M H σ D, Env K B F M H σ ds → Fin K B F M H (out t) D → ts D σ H

/-! ### targets -/
def Tg (K : PySem.W.Frag) (m : Md) (ds : List Sl) (g : TG) (js : List Nat) (d : PyData) (es : List Sl) : Prop :=
  ∀ B F M H σ x Q, Env K B F M H σ ds → Rp (hp m B F H) x d → (∀ σ', Env K B F M H σ' es → σ'.length = σ.length → (∀ i, i ∉ js → σ'[i]? = σ[i]?) → Q σ' H) → g x σ H Q
section
variable {K : PySem.W.Frag} {ds es : List Sl} {m : Md} {α β γ δ : Type} [Em α] [Em β] [Em γ] [Em δ]
theorem set_out {α : Type} {l : List α} {j : Nat} {x : α} : ∀ i, i ∉ [j] → (l.set j x)[i]? = l[i]? := fun i h => List.getElem?_set_ne fun e => h (by simp [e])
theorem tg_f {j : Nat} {d : PyData} (hj : j < ds.length) : Tg K .f ds (gName j) [j] d (ds.set j (.val d)) := fun B F M H σ x Q E r q =>
  q _ (E.setv hj r) (List.length_set) set_out
theorem tg_b {j : Nat} {d : PyData} (hj : j < ds.length) : Tg K .b ds (gName j) [j] d (ds.set j (.rd d)) := fun B F M H σ x Q E r q =>
  q _ (E.setrd hj r) (List.length_set) set_out
theorem tg_s [Scl α] {j : Nat} (y : α) (hj : j < ds.length) : Tg K m ds (gName j) [j] (em y) (ds.set j (.val (em y))) := fun B F M H σ x Q E r q =>
  q _ (E.setv hj (Scl.any y _ _ _ r)) (List.length_set) set_out
theorem tg_2 {t u : TG} {y : α × β} {d1 d2 : List Sl} {js ks : List Nat} (h1 : Tg K m ds t js (em y.1) d1) (h2 : Tg K m d1 u ks (em y.2) d2) : Tg K m ds (gTup K 2 (gCons t (gCons u gNil))) (js ++ ks) (em y) d2 := fun B F M H σ x Q E r q => by
  obtain ⟨p, a, b, rfl, hp, r1, r2⟩ := rp_pair r
  refine ⟨p, [a, b], rfl, SqT.of (hp_H E _ _ hp), rfl, a, [b], rfl, h1 B F M H σ a _ E r1 fun σ1 E1 l1 o1 => ⟨b, [], rfl, h2 B F M H σ1 b _ E1 r2 fun σ2 E2 l2 o2 => ⟨rfl, q σ2 E2 (l2.trans l1) fun i hi => ?_⟩⟩⟩
  rw [o2 i fun z => hi (List.mem_append.mpr (.inr z)), o1 i fun z => hi (List.mem_append.mpr (.inl z))]
theorem tg_3 {t u w : TG} {y : T3 α β γ} {d1 d2 d3 : List Sl} {js ks ls : List Nat} (h1 : Tg K m ds t js (em y.a) d1) (h2 : Tg K m d1 u ks (em y.b) d2) (h3 : Tg K m d2 w ls (em y.c) d3) : Tg K m ds (gTup K 3 (gCons t (gCons u (gCons w gNil)))) (js ++ (ks ++ ls)) (em y) d3 := fun B F M H σ x Q E r q => by
  obtain ⟨p, a, b, c, rfl, hp, r1, r2, r3⟩ := rp_t3 r
  refine ⟨p, [a, b, c], rfl, SqT.of (hp_H E _ _ hp), rfl, a, [b, c], rfl, h1 B F M H σ a _ E r1 fun σ1 E1 l1 o1 => ⟨b, [c], rfl, h2 B F M H σ1 b _ E1 r2 fun σ2 E2 l2 o2 => ⟨c, [], rfl, h3 B F M H σ2 c _ E2 r3 fun σ3 E3 l3 o3 => ⟨rfl, q σ3 E3 (l3.trans (l2.trans l1)) fun i hi => ?_⟩⟩⟩⟩
  simp only [List.mem_append, not_or] at hi
  rw [o3 i hi.2.2, o2 i hi.2.1, o1 i hi.1]
theorem tg_4 {t u w z : TG} {y : T4 α β γ δ} {d1 d2 d3 d4 : List Sl} {js ks ls ns : List Nat} (h1 : Tg K m ds t js (em y.a) d1) (h2 : Tg K m d1 u ks (em y.b) d2) (h3 : Tg K m d2 w ls (em y.c) d3) (h4 : Tg K m d3 z ns (em y.d) d4) : Tg K m ds (gTup K 4 (gCons t (gCons u (gCons w (gCons z gNil))))) (js ++ (ks ++ (ls ++ ns))) (em y) d4 := fun B F M H σ x Q E r q => by
  obtain ⟨p, a, b, c, d, rfl, hp, r1, r2, r3, r4⟩ := rp_t4 r
  refine ⟨p, [a, b, c, d], rfl, SqT.of (hp_H E _ _ hp), rfl, a, [b, c, d], rfl, h1 B F M H σ a _ E r1 fun σ1 E1 l1 o1 => ⟨b, [c, d], rfl, h2 B F M H σ1 b _ E1 r2 fun σ2 E2 l2 o2 => ⟨c, [d], rfl, h3 B F M H σ2 c _ E2 r3 fun σ3 E3 l3 o3 => ⟨d, [], rfl, h4 B F M H σ3 d _ E3 r4 fun σ4 E4 l4 o4 => ⟨rfl, q σ4 E4 (l4.trans (l3.trans (l2.trans l1))) fun i hi => ?_⟩⟩⟩⟩⟩
  simp only [List.mem_append, not_or] at hi
  rw [o4 i hi.2.2.2, o3 i hi.2.2.1, o2 i hi.2.1, o1 i hi.1]
end

/-! ### plain statements -/
section
variable {K : PySem.W.Frag} {ds es : List Sl} {ta tb tc te : TE} {t u w : TS} {g : TG} {m m1 m2 : Md} {α β γ τ : Type} [Em α] [Em β] [Em γ] {out : τ → Out}
theorem sv_asg {js : List Nat} {o : Option α} {r : α → Option τ} {d1 : α → List Sl} (h : EvO K ds m te o) (tg : ∀ y, Tg K m ds g js (em y) (d1 y)) (k : ∀ y, SvO K (d1 y) u (r y) out) : SvO K ds (tSeq (tAsg te g) u) (o.bind r) out := by
  intro x hx B F M H σ D E f
  obtain ⟨y, e1, e2⟩ := bind_some' hx
  refine h y e1 B F M H σ _ E fun v F' H' e r => tg y B F' M H' σ v _ (E.ext e) r fun σ' E' _ _ => ?_
  exact k y x e2 B F' M H' σ' D E' (f.step (.ofExt e))
/-- a new list, kept as this frame's own -/
theorem sv_asgL {i : Nat} {o : Option (List α)} {r : List α → Option τ} (hi : i < ds.length) (h : EvL K ds te o) (k : ∀ xs : List α, SvO K (ds.set i (.own (xs.map em))) u (r xs) out) : SvO K ds (tSeq (tAsg te (gName i)) u) (o.bind r) out := by
  intro x hx B F M H σ D E f
  obtain ⟨y, e1, e2⟩ := bind_some' hx
  refine h y e1 B F M H σ _ E fun p vs F' H' e h1 h2 h3 r => ?_
  have E' := E.ext e
  refine k y x e2 B F' _ H' _ D (E'.setown hi (none_of_same E.sB h2) h1 (fun z => E.mH p z h2) h3 r) (f.step ⟨e.sF, fun a z => (e.new a z).imp_right .inl, fun b o z _ => e.sH b o z, fun a z => ?_⟩)
  rcases z with z | rfl
  · exact .inl z
  · exact .inr h2
theorem sv_end {x : τ} (l : Le ds es) (ho : out x = .nx es ∨ out x = .lp es) : SvO K ds tNext (some x) out := by
  intro y hy B F M H σ D E f
  cases hy
  rcases ho with ho | ho
  · rw [ho] at f
    exact f F M H σ .refl (E.le l)
  · rw [ho] at f
    exact (f F M H σ .refl (E.le l)).1
theorem sv_cont {x : τ} (l : Le ds es) (ho : out x = .ct es ∨ out x = .lp es) : SvO K ds tCont (some x) out := by
  intro y hy B F M H σ D E f
  cases hy
  rcases ho with ho | ho
  · rw [ho] at f
    exact f F M H σ .refl (E.le l)
  · rw [ho] at f
    exact (f F M H σ .refl (E.le l)).2
theorem sv_brk {x : τ} (l : Le ds es) (ho : out x = .bk es) : SvO K ds tBreak (some x) out := by
  intro y hy B F M H σ D E f
  cases hy
  rw [ho] at f
  exact f F M H σ .refl (E.le l)
theorem Env.one {B F M H σ v d} (E : Env K B F M H σ ds) (r : Rp F v d) : Env K B F M H [some v] [.val d] :=
  ⟨rfl, E.sB, E.sF, E.mB, E.mF, E.mH, E.mT, fun _ _ => False, fun _ _ h => h.elim, fun _ _ _ h => h.elim, fun i => by
    cases i with
    | zero => exact ⟨v, rfl, r⟩
    | succ i => trivial⟩
theorem sv_ret {o : Option α} {w : α → τ} (h : EvO K ds .f te o) (ho : ∀ x, out (w x) = .rt (.val (em x))) : SvO K ds (tRet te) (o.map w) out := by
  intro z hz B F M H σ D E f
  cases o with
  | none => cases hz
  | some x =>
    cases hz
    rw [ho] at f
    exact h x rfl B F M H σ _ E fun v F' H' e r => f F' M H' v (.ofExt e) ((E.ext e).one r)
/-- an own list handed out, frozen -/
theorem sv_retF {i : Nat} {xs : List α} {w : List α → τ} (hi : ds[i]? = some (.own (xs.map em))) (ho : out (w xs) = .rt (.val (em xs))) : SvO K ds (tRet (tVar i)) (some (w xs)) out := by
  intro z hz B F M H σ D E f
  cases hz
  rw [ho] at f
  obtain ⟨len, sB, sF, mB, mF, mH, mT, foot, f1, f2, f3⟩ := E
  have h3 := f3 i
  rw [hi] at h3
  obtain ⟨p, vs, e, hp, r, hm⟩ := h3
  have hF := mF p (f1 i p hm)
  refine ⟨.ref p, e, f (upd F p (.lst vs)) (fun a => M a ∧ a ≠ p) H (.ref p) ⟨same_upd hF, fun a z => ?_, fun b o z _ => z, fun a z => .inl z.1⟩
    ⟨rfl, sB, fun b u z => ?_, fun a z => mB a z.1, fun a z => ?_, fun a z => mH a z.1, fun a xs z => mT a xs z.1, fun _ _ => False, fun _ _ h => h.elim, fun _ _ _ h => h.elim, fun i => ?_⟩⟩
  · by_cases ha : a = p
    · exact .inr (.inr (ha ▸ f1 i p hm))
    · rw [upd_ne ha] at z; exact .inl z
  · unfold L2.upd at z
    split at z
    · rename_i hb; rw [hb, hp]; exact z
    · exact sF b u z
  · rw [upd_ne z.2]; exact mF a z.1
  · cases i with
    | zero => exact ⟨_, rfl, .lst upd_same (r.mono (same_upd hF))⟩
    | succ i => trivial
/-- an own list handed out as the caller's own -/
theorem sv_retO {i : Nat} {xs : List α} {w : List α → τ} (hi : ds[i]? = some (.own (xs.map em))) (ho : out (w xs) = .rt (.own (xs.map em))) : SvO K ds (tRet (tVar i)) (some (w xs)) out := by
  intro z hz B F M H σ D E f
  cases hz
  rw [ho] at f
  obtain ⟨len, sB, sF, mB, mF, mH, mT, foot, f1, f2, f3⟩ := E
  have h3 := f3 i
  rw [hi] at h3
  obtain ⟨p, vs, e, hp, r, hm⟩ := h3
  refine ⟨.ref p, e, f F M H (.ref p) .refl ⟨rfl, sB, sF, mB, mF, mH, mT, fun j a => j = 0 ∧ a = p, fun j a z => z.2 ▸ f1 i p hm, fun j k a z1 z2 => z1.1.trans z2.1.symm, fun i => ?_⟩⟩
  cases i with
  | zero => exact ⟨p, vs, rfl, hp, r, rfl, rfl⟩
  | succ i => trivial
theorem sv_retL {o : Option (List α)} {w : List α → τ} (h : EvL K ds te o) (ho : ∀ xs, out (w xs) = .rt (.own (xs.map em))) : SvO K ds (tRet te) (o.map w) out := by
  intro z hz B F M H σ D E f
  cases o with
  | none => cases hz
  | some xs =>
    cases hz
    rw [ho] at f
    refine h xs rfl B F M H σ _ E fun p vs F' H' e h1 h2 h3 r => ?_
    have E' := E.ext e
    refine f F' (fun a => M a ∨ a = p) H' (.ref p) ⟨e.sF, fun a z => (e.new a z).imp_right .inl, fun b o z _ => e.sH b o z, fun a z => ?_⟩ ⟨rfl, E'.sB, E'.sF, fun a z => ?_, fun a z => ?_, fun a z => ?_, fun a xs z => ?_, fun j a => j = 0 ∧ a = p, fun j a z => .inr z.2, fun j k a z1 z2 => z1.1.trans z2.1.symm, fun i => ?_⟩
    · rcases z with z | rfl
      · exact .inl z
      · exact .inr h2
    · rcases z with z | rfl
      · exact E'.mB a z
      · exact none_of_same E.sB h2
    · rcases z with z | rfl
      · exact E'.mF a z
      · exact h1
    · rcases z with z | rfl
      · exact E'.mH a z
      · rw [h3]; exact fun z => nomatch z
    · rcases z with z | rfl
      · exact E'.mT a xs z
      · rw [h3]; exact fun z => nomatch z
    · cases i with
      | zero => exact ⟨p, vs, rfl, h3, r, rfl, rfl⟩
      | succ i => trivial
theorem sv_if {c : TT} {oc : Option Bool} {o1 o2 : Option τ} (h : EvT K ds c oc) (h1 : SvO K ds t o1 out) (h2 : SvO K ds u o2 out) : SvO K ds (tIfS c t u) (oite oc o1 o2) out := by
  intro x hx B F M H σ D E f
  obtain ⟨b, e1, e2⟩ := bind_some' hx
  refine h b e1 B F M H σ _ E fun F' H' e => ?_
  cases b with
  | true => exact h1 x e2 B F' M H' σ D (E.ext e) (f.step (.ofExt e))
  | false => exact h2 x e2 B F' M H' σ D (E.ext e) (f.step (.ofExt e))
/-- an if, then the rest, behind either branch -/
theorem sv_ifs {c : TT} {oc : Option Bool} {o1 o2 : Option τ} (h : EvT K ds c oc) (h1 : SvO K ds (tSeq t w) o1 out) (h2 : SvO K ds (tSeq u w) o2 out) : SvO K ds (tSeq (tIfS c t u) w) (oite oc o1 o2) out :=
  fun x hx B F M H σ D E f => sv_if (t := tSeq t w) (u := tSeq u w) h h1 h2 x hx B F M H σ D E f
/-- a statement that falls through, then the rest -/
theorem sv_then {τ' : Type} {o1 : Option τ'} {e1 : τ' → List Sl} {r : τ' → Option τ} (h : SvO K ds t o1 fun x => .nx (e1 x)) (k : ∀ x, SvO K (e1 x) u (r x) out) : SvO K ds (tSeq t u) (o1.bind r) out := by
  intro x hx B F M H σ D E f
  obtain ⟨y, e1, e2⟩ := bind_some' hx
  exact h y e1 B F M H σ _ E fun F' M' H' σ' s E' => k y x e2 B F' M' H' σ' D E' (f.step s)
theorem sv_assoc {o : Option τ} (h : SvO K ds (tSeq t (tSeq u w)) o out) : SvO K ds (tSeq (tSeq t u) w) o out := h
theorem sv_nx {o : Option τ} (h : SvO K ds u o out) : SvO K ds (tSeq tNext u) o out := h
theorem sv_dead {o : Option τ} (h : SvO K ds (tRet te) o out) : SvO K ds (tSeq (tRet te) u) o out := h
theorem sv_deadC {o : Option τ} (h : SvO K ds tCont o out) : SvO K ds (tSeq tCont u) o out := h
theorem sv_deadB {o : Option τ} (h : SvO K ds tBreak o out) : SvO K ds (tSeq tBreak u) o out := h
theorem sv_drop {o : Option α} {r : α → Option τ} (h : EvO K ds m te o) (k : ∀ x, SvO K ds u (r x) out) : SvO K ds (tSeq (tDrop te) u) (o.bind r) out := by
  intro x hx B F M H σ D E f
  obtain ⟨y, e1, e2⟩ := bind_some' hx
  exact h y e1 B F M H σ _ E fun v F' H' e _ => k y x e2 B F' M H' σ D (E.ext e) (f.step (.ofExt e))
theorem sv_aug {i : Nat} {f : Int → Int → Int} {o : Option Int} {x0 : Int} {r : Int → Option τ} (hi : i < ds.length) (hx : ds[i]? = some (.val (em x0))) (h : EvO K ds m te o) (k : ∀ y, SvO K (ds.set i (.val (em y))) u (r y) out) :
    SvO K ds (tSeq (tAug i te (ipI f)) u) ((o.map fun y => f x0 y).bind r) out := by
  intro x hx2 B F M H σ D E fin
  obtain ⟨y, e1, e2⟩ := bind_some' hx2
  cases o with
  | none => cases e1
  | some y0 =>
    cases e1
    obtain ⟨_, _, v, e, rv⟩ := E.at hx
    refine ⟨v, e, h y0 rfl B F M H σ _ E fun w F' H' e r => ⟨x0, y0, rp_int rv, rp_int r, ?_⟩⟩
    exact k _ x e2 B F' M H' _ D ((E.ext e).setv hi (.int _)) (fin.step (.ofExt e))

/-! ### own lists changed -/
def oapp {α : Type} (xs : List α) (x : α) : Option (List α) := if xs.length < 100000 then some (xs ++ [x]) else none
/-- the own list of slot i is another -/
theorem Env.chown {B F M H σ} (E : Env K B F M H σ ds) {i : Nat} {p : Addr} {ws : List V} {es' : List PyData} {foot : Nat → Addr → Prop} (f1 : ∀ i a, foot i a → M a) (f2 : ∀ i j a, foot i a → foot j a → i = j) (f3 : ∀ i, hold K B F H (ds[i]?.getD .no) (σ[i]?) (foot i))
    (hi : i < ds.length) (e : σ[i]? = some (some (.ref p))) (hm : foot i p) (r : RpA F ws es') : Env K B F M (upd H p (.lst ws)) σ (ds.set i (.own es')) := by
  have hM := f1 i p hm
  have sF : Same F (upd H p (.lst ws)) := same_upd2 E.sF (E.mF p hM)
  refine ⟨by rw [List.length_set, E.len], same_upd2 E.sB (E.mB p hM), sF, E.mB, E.mF, fun a z => ?_, fun a xs z => ?_, foot, f1, f2, fun j => ?_⟩
  · unfold L2.upd
    split
    · exact fun z => nomatch z
    · exact E.mH a z
  · unfold L2.upd
    split
    · exact fun z => nomatch z
    · exact E.mT a xs z
  · rw [getD_set ds i j _ hi]
    by_cases h : j = i
    · subst h
      rw [if_pos rfl]
      exact ⟨p, ws, e, upd_same, r, hm⟩
    · rw [if_neg h]
      refine (f3 j).mono (Same.refl _) (fun a o ha hz => ?_) E.sF sF
      rw [upd_ne fun z => h (f2 j i a ha (by rw [z]; exact hm))]
      exact hz
theorem sv_app {i : Nat} {xs : List α} {o : Option α} {r : List α → Option τ} (hi : i < ds.length) (hx : ds[i]? = some (.own (xs.map em))) (h : EvO K ds .f te o) (k : ∀ ys : List α, SvO K (ds.set i (.own (ys.map em))) u (r ys) out) :
    SvO K ds (tSeq (tDrop (tBM K "list" rAppend (tVar i) (tCons te tNil))) u) ((o.bind fun x => oapp xs x).bind r) out := by
  intro x hx2 B F M H σ D E fin
  obtain ⟨ys, e1, e2⟩ := bind_some' hx2
  obtain ⟨y, e3, e4⟩ := bind_some' e1
  obtain ⟨foot, f1, f2, f3⟩ := id E.ft
  have h3 := f3 i
  rw [hx] at h3
  obtain ⟨p, vs, e, hp, r1, hm⟩ := h3
  refine ⟨.ref p, e, .inl ⟨rfl, _, SqL.of hp⟩, h y e3 B F M H σ _ E fun v F' H' x r2 => ?_⟩
  unfold oapp at e4
  split at e4
  · rename_i hl
    cases e4
    have E' := E.ext x
    have hp' := x.sH _ _ hp
    have f3' : ∀ i, hold K B F' H' (ds[i]?.getD .no) (σ[i]?) (foot i) := fun i => (f3 i).mono x.sF (fun a o _ z => x.sH a o z) E.sF x.sub
    refine ⟨p, vs, v, rfl, rfl, hp', Nat.lt_of_lt_of_le (by rw [r1.len, List.length_map]; exact hl) (by decide : 100000 ≤ sizeLine), ?_⟩
    have r3 : RpA F' (vs ++ [v]) ((xs ++ [y]).map em) := by
      rw [List.map_append]
      exact (r1.mono x.sF).app (.cons r2 .nil)
    refine k _ _ e2 B F' M _ σ D (E'.chown f1 f2 f3' hi e hm r3) (fin.step ⟨x.sF, fun a z => (x.new a z).imp_right .inl, fun b o z nm => ?_, fun a z => .inl z⟩)
    rw [upd_ne fun q => nm (by rw [q]; exact f1 i p hm)]
    exact x.sH b o z
  · cases e4
def oset {α : Type} (xs : List α) (i : Int) (x : α) : Option (List α) := (ixN xs.length i).map fun j => xs.set j x
theorem sv_set {i : Nat} {xs : List α} {o : Option α} {oi : Option Int} {r : List α → Option τ} (hi : i < ds.length) (hx : ds[i]? = some (.own (xs.map em))) (h : EvO K ds .f te o) (h2 : EvO K ds m2 tb oi) (k : ∀ ys : List α, SvO K (ds.set i (.own (ys.map em))) u (r ys) out) :
    SvO K ds (tSeq (tAsg te (gSub (tVar i) tb rSetL)) u) ((o.bind fun x => oi.bind fun j => oset xs j x).bind r) out := by
  intro x hx2 B F M H σ D E fin
  obtain ⟨ys, e1, e2⟩ := bind_some' hx2
  obtain ⟨y, e3, e4⟩ := bind_some' e1
  obtain ⟨jj, e5, e6⟩ := bind_some' e4
  obtain ⟨foot, f1, f2, f3⟩ := id E.ft
  have h3 := f3 i
  rw [hx] at h3
  obtain ⟨p, vs, e, hp, r1, hm⟩ := h3
  refine h y e3 B F M H σ _ E fun v F' H' x r2 => ⟨.ref p, e, h2 jj e5 B F' M H' σ _ (E.ext x) fun w F2 H2 x2 r4 => ?_⟩
  unfold oset at e6
  cases hj : ixN xs.length jj with
  | none => rw [hj] at e6; cases e6
  | some j =>
    rw [hj] at e6
    cases e6
    have xx := x.trans x2
    have E' := E.ext xx
    have hp' := xx.sH _ _ hp
    have f3' : ∀ i, hold K B F2 H2 (ds[i]?.getD .no) (σ[i]?) (foot i) := fun i => (f3 i).mono xx.sF (fun a o _ z => xx.sH a o z) E.sF xx.sub
    refine ⟨p, vs, jj, j, rfl, rp_int r4, hp', by rw [r1.len, List.length_map]; exact hj, ?_⟩
    have r3 : RpA F2 (vs.set j v) ((xs.set j y).map em) := by
      rw [List.map_set]
      exact (r1.mono xx.sF).set (r2.mono x2.sF) j
    refine k _ _ e2 B F2 M _ σ D (E'.chown f1 f2 f3' hi e hm r3) (fin.step ⟨xx.sF, fun a z => (xx.new a z).imp_right .inl, fun b o z nm => ?_, fun a z => .inl z⟩)
    rw [upd_ne fun q => nm (by rw [q]; exact f1 i p hm)]
    exact xx.sH b o z
/-- an own list is frozen from here on -/
theorem sv_froze {i : Nat} {xs : List α} {o : Option τ} (hi : i < ds.length) (hx : ds[i]? = some (.own (xs.map em))) (k : SvO K (ds.set i (.val (em xs))) u o out) : SvO K ds u o out := by
  intro x hx2 B F M H σ D E fin
  obtain ⟨len, sB, sF, mB, mF, mH, mT, foot, f1, f2, f3⟩ := E
  have h3 := f3 i
  rw [hx] at h3
  obtain ⟨p, vs, e, hp, r, hm⟩ := h3
  have hF := mF p (f1 i p hm)
  have sF' : Same (upd F p (.lst vs)) H := fun b u z => by
    unfold L2.upd at z
    split at z
    · rename_i hb; rw [hb, hp]; exact z
    · exact sF b u z
  refine k x hx2 B (upd F p (.lst vs)) (fun a => M a ∧ a ≠ p) H σ D ⟨by rw [List.length_set, len], sB, sF', fun a z => mB a z.1, fun a z => by rw [upd_ne z.2]; exact mF a z.1, fun a z => mH a z.1, fun a xs z => mT a xs z.1, fun j a => foot j a ∧ j ≠ i, fun j a z => ⟨f1 j a z.1, fun q => z.2 (f2 j i a z.1 (q ▸ hm))⟩, fun j k a z1 z2 => f2 j k a z1.1 z2.1, fun j => ?_⟩
    (fin.step ⟨same_upd hF, fun a z => ?_, fun b o z _ => z, fun a z => .inl z.1⟩)
  · rw [getD_set ds i j _ hi]
    by_cases h : j = i
    · subst h
      rw [if_pos rfl]
      exact ⟨.ref p, e, .lst upd_same (r.mono (same_upd hF))⟩
    · rw [if_neg h]
      have q := (f3 j).mono (same_upd (o := HO.lst vs) hF) (fun a o _ z => z) sF sF'
      have : (fun a => foot j a ∧ j ≠ i) = foot j := by
        funext a
        simp [h]
      show hold K B (upd F p (HO.lst vs)) H (ds[j]?.getD Sl.no) σ[j]? (fun a => foot j a ∧ j ≠ i)
      rw [this]
      exact q
  · by_cases ha : a = p
    · exact .inr (.inr (ha ▸ f1 i p hm))
    · rw [upd_ne ha] at z; exact .inl z
end

/-! ### loops -/
inductive Flow (σ ρ : Type) | nx (s : σ) | bk (s : σ) | dn (r : ρ)
def loopM {α S ρ : Type} (f : S → α → Option (Flow S ρ)) : List α → S → Option (Flow S ρ)
  | [], s => some (.nx s)
  | x :: xs, s => (f s x).bind fun fl => match fl with | .nx s' => loopM f xs s' | .bk s' => some (.nx s') | .dn r => some (.dn r)
def whileM {S ρ : Type} (c : S → Option Bool) (f : S → Option (Flow S ρ)) : Nat → S → Option (Flow S ρ)
  | 0, _ => none
  | n + 1, s => (c s).bind fun b => if b then (f s).bind fun fl => match fl with | .nx s' => whileM c f n s' | .bk s' => some (.nx s') | .dn r => some (.dn r) else some (.nx s)
/-- what comes behind a loop -/
def after {S ρ τ : Type} (o : Option (Flow S ρ)) (k : S → Option τ) (d : ρ → Option τ) : Option τ := o.bind fun fl => match fl with | .nx s => k s | .bk s => k s | .dn r => d r
/-- something to be walked -/
def EvW (K : PySem.W.Frag) (ds : List Sl) (m : Md) (wi : TI) {α : Type} [Em α] (o : Option (List α)) : Prop := ∀ xs, o = some xs → ∀ B F M H σ R, Env K B F M H σ ds →
  (∀ J F' H' vs, Ext F H F' H' → L2.Walk J xs.length (fun H2 => Same F' H2 ∧ Same B H2) (L2.YAt vs) → m ≠ .h → RpA (hp m B F' H') vs (xs.map em) → R J H') → wi σ H R
section
variable {K : PySem.W.Frag} {ds es : List Sl} {ta tb tc te tl : TE} {t u w : TS} {g : TG} {wi : TI} {m m1 m2 : Md} {α β γ τ S ρ : Type} [Em α] [Em β] [Em γ] {out : τ → Out}
theorem ew_f {o : Option (List α)} (h : EvO K ds .f tl o) : EvW K ds .f (iList K tl) o := fun xs hx B F M H σ R E q => by
  refine h xs hx B F M H σ _ E fun v F' H' e r => ?_
  obtain ⟨p, vs, rfl, hp, ra⟩ := rp_list r
  refine ⟨p, rfl, ⟨vs, SqL.of (e.sub _ _ hp)⟩, q _ F' H' vs e ?_ (fun z => nomatch z) ra⟩
  have hl : xs.length = vs.length := by rw [ra.len, List.length_map]
  rw [hl]
  exact L2.Walk.mono L2.walk_list (fun H2 s => SqL.of (s.1 _ _ hp)) fun _ _ _ _ _ _ y => y
theorem ew_b {o : Option (List α)} (h : EvO K ds .b tl o) : EvW K ds .b (iList K tl) o := fun xs hx B F M H σ R E q => by
  refine h xs hx B F M H σ _ E fun v F' H' e r => ?_
  obtain ⟨p, vs, rfl, hp, ra⟩ := rp_list r
  refine ⟨p, rfl, ⟨vs, SqL.of ((E.ext e).sB _ _ hp)⟩, q _ F' H' vs e ?_ (fun z => nomatch z) ra⟩
  have hl : xs.length = vs.length := by rw [ra.len, List.length_map]
  rw [hl]
  exact L2.Walk.mono L2.walk_list (fun H2 s => SqL.of (s.2 _ _ hp)) fun _ _ _ _ _ _ y => y
/-- the script itself -/
theorem ew_scr {i : Nat} {ns : List Int} (h : ds[i]? = some (.scr ns)) : EvW K ds .f (iList K (tVar i)) (some ns) := fun xs hx B F M H σ R E q => by
  cases hx
  obtain ⟨_, _, a, e, r⟩ := E.at h
  refine ⟨.ref a, e, a, rfl, ⟨_, E.sB.seq r⟩, q _ F H _ (Ext.refl E.sF) ?_ (fun z => nomatch z) (RpA.ofInts ns)⟩
  have hl : ns.length = (ns.map V.int).length := by rw [List.length_map]
  rw [hl]
  exact L2.Walk.mono L2.walk_list (fun H2 s => s.2.seq r) fun _ _ _ _ _ _ y => y
def upto (n : Nat) (lo c : Int) : List Int := (List.range n).map fun i => lo + (i : Nat) * c
theorem upto_len (n : Nat) (lo c : Int) : (upto n lo c).length = n := by simp [upto]
theorem upto_get {n : Nat} {lo c : Int} {i : Nat} (h : i < n) : (upto n lo c)[i]? = some (lo + (i : Nat) * c) := by
  simp [upto, List.getElem?_map, h]
theorem walk_upto {J : It} {n : Nat} {lo c : Int} {G : Hp → Prop} (w : L2.Walk J n G (L2.YFn fun i => .int (lo + (i : Nat) * c))) (G' : Hp → Prop) (hg : ∀ H, G' H → G H) : L2.Walk J (upto n lo c).length G' (L2.YAt ((upto n lo c).map V.int)) := by
  rw [upto_len]
  refine L2.Walk.mono w hg fun i H x H' hi _ y => ⟨y.1, ?_⟩
  rw [List.getElem?_map, upto_get hi, y.2]
  rfl
def orange1 (o : Option Int) : Option (List Int) := o.bind fun n => if -(2 ^ 62) ≤ n ∧ n < 2 ^ 62 then some (upto n.toNat 0 1) else none
theorem ew_range1 {o : Option Int} (h : EvO K ds m te o) : EvW K ds .f (iRng1 (tCons te tNil)) (orange1 o) := fun xs hx B F M H σ R E q => by
  obtain ⟨n, e1, e2⟩ := bind_some' hx
  split at e2
  · rename_i hb
    cases e2
    refine h n e1 B F M H σ _ E fun v F' H' e r => ⟨n, by rw [rp_int r], hb.1, hb.2, q _ F' H' _ e ?_ (fun z => nomatch z) (RpA.ofInts _)⟩
    refine walk_upto (L2.Walk.mono (G' := fun _ => True) L2.walk_range (fun _ z => z) fun i H x H' _ _ y => ⟨y.1, ?_⟩) _ fun _ _ => trivial
    rw [y.2]
    show V.int _ = V.int _
    rw [Int.mul_one]
  · cases e2
def orange2 (o1 o2 : Option Int) : Option (List Int) := obin (fun i j => if -(2 ^ 62) ≤ i ∧ i < 2 ^ 62 ∧ -(2 ^ 62) ≤ j ∧ j < 2 ^ 62 then some (upto (j - i).toNat i 1) else none) o1 o2
theorem ew_range2 {o1 o2 : Option Int} (h1 : EvO K ds m1 ta o1) (h2 : EvO K ds m2 tb o2) : EvW K ds .f (iRng2 (tCons ta (tCons tb tNil))) (orange2 o1 o2) := fun xs hx B F M H σ R E q => by
  obtain ⟨i, j, e1, e2, e3⟩ := obin_some hx
  split at e3
  · rename_i hb
    cases e3
    refine ev2 h1 h2 e1 e2 E fun v w F' H' e r1 r2 => ⟨i, j, by rw [rp_int r1, rp_int r2], hb, q _ F' H' _ e ?_ (fun z => nomatch z) (RpA.ofInts _)⟩
    refine walk_upto (L2.Walk.mono (G' := fun _ => True) L2.walk_range (fun _ z => z) fun i H x H' _ _ y => ⟨y.1, ?_⟩) _ fun _ _ => trivial
    rw [y.2]
    show V.int _ = V.int _
    rw [Int.mul_one]
  · cases e3
/-- the number of turns of range(i, j, c) -/
def turns (i j c : Int) : Nat := if 0 < c then ((j - i + c - 1) / c).toNat else ((i - j + -c - 1) / -c).toNat
def RgOk (i j c : Int) : Prop := RgC i j c (turns i j c)
instance {i j c : Int} : Decidable (RgOk i j c) := by unfold RgOk RgC; infer_instance
def orange3 (o1 o2 o3 : Option Int) : Option (List Int) := o1.bind fun i => o2.bind fun j => o3.bind fun c => if RgOk i j c then some (upto (turns i j c) i c) else none
theorem ew_range3 {o1 o2 o3 : Option Int} (h1 : EvO K ds m1 ta o1) (h2 : EvO K ds m2 tb o2) (h3 : EvO K ds m tc o3) : EvW K ds .f (iRng3 (tCons ta (tCons tb (tCons tc tNil)))) (orange3 o1 o2 o3) := fun xs hx B F M H σ R E q => by
  obtain ⟨i, e1, hx⟩ := bind_some' hx
  obtain ⟨j, e2, hx⟩ := bind_some' hx
  obtain ⟨c, e3, hx⟩ := bind_some' hx
  split at hx
  · rename_i hb
    cases hx
    refine h1 i e1 B F M H σ _ E fun v1 F1 H1 x1 r1 => h2 j e2 B F1 M H1 σ _ (E.ext x1) fun v2 F2 H2 x2 r2 => h3 c e3 B F2 M H2 σ _ ((E.ext x1).ext x2) fun v3 F3 H3 x3 r3 =>
      ⟨i, j, c, turns i j c, by rw [rp_int r1, rp_int r2, rp_int r3], hb, q _ F3 H3 _ ((x1.trans x2).trans x3) ?_ (fun z => nomatch z) (RpA.ofInts _)⟩
    exact walk_upto L2.walk_rangeC _ fun _ _ => trivial
  · cases hx
theorem Env.sub {B F M H σ} (E : Env K B F M H σ ds) : Same F H ∧ Same B H := ⟨E.sF, E.sB⟩
theorem hp_FB {m : Md} (hm : m ≠ .h) {B F F' H H' : Hp} (s : Same F F') : Same (hp m B F H) (hp m B F' H') := by
  cases m with
  | f => exact s
  | b => exact Same.refl _
  | h => exact absurd rfl hm
theorem sv_for {js : List Nat} {o : Option (List α)} {E : S → List Sl} {s0 : S} {d1 : S → α → List Sl} {f : S → α → Option (Flow S ρ)} {bo : Flow S ρ → Out} {k : S → Option τ} {kd : ρ → Option τ}
    (hw : EvW K ds m wi o) (l0 : Le ds (E s0)) (tg : ∀ s x, Tg K m (E s) g js (em x) (d1 s x)) (body : ∀ s x, SvO K (d1 s x) t (f s x) bo) (b1 : ∀ s, bo (.nx s) = .lp (E s)) (b2 : ∀ s, bo (.bk s) = .bk (E s)) (b3 : ∀ r x, kd r = some x → bo (.dn r) = out x ∧ (bo (.dn r)).isRt = true)
    (rest : ∀ s, SvO K (E s) u (k s) out) : SvO K ds (tSeq (tFor wi g t) u) (o.bind fun xs => after (loopM f xs s0) k kd) out := by
  intro z hz B F M H σ D Ev fin
  obtain ⟨xs, e1, e2⟩ := bind_some' hz
  refine hw xs e1 B F M H σ _ Ev fun J F1 H1 vs x wk hm ra => ?_
  have E1 := Ev.ext x
  have fin1 := fin.step (.ofExt (M := M) x)
  refine L2.for_it wk (D := { D with nx := u D }) (fun i σ' H' => ∃ F' M' s, Stp F1 M H1 F' M' H' ∧ Env K B F' M' H' σ' (E s) ∧ after (loopM f (xs.drop i) s) k kd = some z) ⟨F1, M, s0, .refl, E1.le l0, e2⟩
    (fun i σ' H' _ ⟨F', M', s, st, E', _⟩ => ⟨st.sF.trans E'.sF, E'.sB⟩) ?_ ?_
  · rintro i v σ' H' H'' hi ⟨F', M', s, st, E', hk⟩ ⟨rfl, hv⟩
    obtain ⟨d, hd, rd⟩ := ra.getV hv
    rw [List.getElem?_map] at hd
    cases hy : xs[i]? with
    | none => rw [hy] at hd; cases hd
    | some y =>
      rw [hy] at hd
      cases hd
      have hdr : xs.drop i = y :: xs.drop (i + 1) := by
        have hlt := (List.getElem?_eq_some_iff.mp hy).1
        rw [List.drop_eq_getElem_cons hlt]
        rw [(List.getElem?_eq_some_iff.mp hy).2]
      rw [hdr] at hk
      unfold after at hk
      obtain ⟨fl, hfl, hk⟩ := bind_some' hk
      simp only [loopM] at hfl
      obtain ⟨fb, hfb, hfl⟩ := bind_some' hfl
      refine tg s y B F' M' H'' σ' v _ E' (rd.mono (hp_FB hm st.sF)) fun σ2 E2 _ _ => ?_
      refine body s y fb hfb B F' M' H'' σ2 _ E2 ?_
      cases fb with
      | nx s' =>
        rw [b1]
        intro F3 M3 H3 σ3 st3 E3
        have : after (loopM f (xs.drop (i + 1)) s') k kd = some z := by unfold after; rw [show loopM f (xs.drop (i + 1)) s' = some fl from hfl]; exact hk
        exact ⟨⟨F3, M3, s', st.trans st3, E3, this⟩, ⟨F3, M3, s', st.trans st3, E3, this⟩⟩
      | bk s' =>
        rw [b2]
        cases hfl
        intro F3 M3 H3 σ3 st3 E3
        exact rest s' z hk B F3 M3 H3 σ3 D E3 (fin1.step (st.trans st3))
      | dn r =>
        cases hfl
        obtain ⟨q1, q2⟩ := b3 r z hk
        exact Fin.rt_any (q1 ▸ fin1.step st) q2
  · rintro σ' H' ⟨F', M', s, st, E', hk⟩
    rw [show xs.drop xs.length = [] from List.drop_length] at hk
    exact rest s z hk B F' M' H' σ' D E' (fin1.step st)
theorem sv_while {E : S → List Sl} {s0 : S} {c : S → Option Bool} {tt : TT} {f : S → Option (Flow S ρ)} {bo : Flow S ρ → Out} {k : S → Option τ} {kd : ρ → Option τ} {n : Nat}
    (l0 : Le ds (E s0)) (hc : ∀ s, EvT K (E s) tt (c s)) (body : ∀ s, SvO K (E s) t (f s) bo) (b1 : ∀ s, bo (.nx s) = .lp (E s)) (b2 : ∀ s, bo (.bk s) = .bk (E s)) (b3 : ∀ r x, kd r = some x → bo (.dn r) = out x ∧ (bo (.dn r)).isRt = true)
    (rest : ∀ s, SvO K (E s) u (k s) out) : SvO K ds (tSeq (tWhile tt t) u) (after (whileM c f n s0) k kd) out := by
  intro z hz B F M H σ D Ev fin
  refine ⟨fun i σ' H' => ∃ F' M' s, Stp F M H F' M' H' ∧ Env K B F' M' H' σ' (E s) ∧ after (whileM c f i s) k kd = some z, ⟨n, F, M, s0, .refl, Ev.le l0, hz⟩, ?_⟩
  rintro i σ' H' ⟨F', M', s, st, E', hk⟩
  cases i with
  | zero => cases hk
  | succ i =>
    unfold after at hk
    obtain ⟨fl, hfl, hk⟩ := bind_some' hk
    simp only [whileM] at hfl
    obtain ⟨b, hb, hfl⟩ := bind_some' hfl
    refine hc s b hb B F' M' H' σ' _ E' fun F1 H1 x => ?_
    have st1 := st.trans (.ofExt (M := M') x)
    have E1 := E'.ext x
    cases b with
    | false =>
      cases hfl
      exact rest s z hk B F1 M' H1 σ' D E1 (fin.step st1)
    | true =>
      obtain ⟨fb, hfb, hfl⟩ := bind_some' (show (f s).bind _ = some fl from hfl)
      show ∃ N, _
      refine ⟨fun σ2 H2 => ∃ F' M' s, Stp F M H F' M' H2 ∧ Env K B F' M' H2 σ2 (E s) ∧ after (whileM c f i s) k kd = some z, fun σ2 H2 h2 => ⟨i, Nat.lt_succ_self i, h2⟩, ?_⟩
      refine body s fb hfb B F1 M' H1 σ' _ E1 ?_
      cases fb with
      | nx s' =>
        rw [b1]
        intro F3 M3 H3 σ3 st3 E3
        have : after (whileM c f i s') k kd = some z := by unfold after; rw [show whileM c f i s' = some fl from hfl]; exact hk
        exact ⟨⟨F3, M3, s', st1.trans st3, E3, this⟩, ⟨F3, M3, s', st1.trans st3, E3, this⟩⟩
      | bk s' =>
        rw [b2]
        cases hfl
        intro F3 M3 H3 σ3 st3 E3
        exact rest s' z hk B F3 M3 H3 σ3 D E3 (fin.step (st1.trans st3))
      | dn r =>
        cases hfl
        obtain ⟨q1, q2⟩ := b3 r z hk
        exact Fin.rt_any (q1 ▸ fin.step st1) q2
end

/-! ### comprehensions -/
def wipeD (ds : List Sl) : List Nat → List Sl
  | [] => ds
  | v :: vs => (wipeD ds vs).set v .no
theorem Env.setno {K B F M H σ ds} (E : Env K B F M H σ ds) {i : Nat} : Env K B F M H (σ.set i none) (ds.set i .no) := by
  obtain ⟨len, sB, sF, mB, mF, mH, mT, foot, f1, f2, f3⟩ := E
  refine ⟨by rw [List.length_set, List.length_set, len], sB, sF, mB, mF, mH, mT, foot, f1, f2, fun j => ?_⟩
  by_cases h : j = i
  · subst h
    by_cases hl : j < ds.length
    · rw [List.getElem?_set_self hl]; trivial
    · rw [List.getElem?_eq_none (by rw [List.length_set]; omega)]; trivial
  · rw [List.getElem?_set_ne (fun e => h e.symm), List.getElem?_set_ne (fun e => h e.symm)]
    exact f3 j
theorem Env.wipe {K B F M H σ ds} (E : Env K B F M H σ ds) : ∀ vs, Env K B F M H (L2.wipe σ vs) (wipeD ds vs)
  | [] => E
  | v :: vs => (E.wipe vs).setno
theorem wipe_at (σ : L2.St) (i : Nat) : ∀ vs : List Nat, i ∉ vs → (L2.wipe σ vs)[i]? = σ[i]?
  | [], _ => rfl
  | v :: vs, h => by
    simp only [List.mem_cons, not_or] at h
    show ((L2.wipe σ vs).set v none)[i]? = _
    rw [List.getElem?_set_ne (fun e => h.1 e.symm), wipe_at σ i vs h.2]
theorem wipe_no (σ : L2.St) (i : Nat) (hi : i < σ.length) : ∀ vs : List Nat, i ∈ vs → (L2.wipe σ vs)[i]? = some none
  | [], h => by cases h
  | v :: vs, h => by
    show ((L2.wipe σ vs).set v none)[i]? = _
    by_cases e : v = i
    · subst e
      rw [List.getElem?_set_self (by rw [L2.wipe_length]; exact hi)]
    · rw [List.getElem?_set_ne e]
      exact wipe_no σ i hi vs ((List.mem_cons.mp h).resolve_left fun z => e z.symm)
theorem wipe_eq {σ σ2 : L2.St} {vs js : List Nat} (hl : σ2.length = (L2.wipe σ vs).length) (hj : ∀ i ∈ js, i ∈ vs) (ho : ∀ i, i ∉ js → σ2[i]? = (L2.wipe σ vs)[i]?) : L2.wipe σ2 vs = L2.wipe σ vs := by
  rw [L2.wipe_length] at hl
  refine List.ext_getElem? fun i => ?_
  by_cases h : i ∈ vs
  · by_cases hi : i < σ.length
    · rw [wipe_no σ i hi vs h, wipe_no σ2 i (by omega) vs h]
    · rw [List.getElem?_eq_none (by rw [L2.wipe_length]; omega), List.getElem?_eq_none (by rw [L2.wipe_length]; omega)]
  · rw [wipe_at σ2 i vs h, ho i fun z => h (hj i z)]
def ocomp {α β : Type} (c : α → Option Bool) (k : α → Option β) : List α → Option (List β)
  | [] => some []
  | x :: xs => (c x).bind fun b => if b then (k x).bind fun y => (ocomp c k xs).bind fun ys => some (y :: ys) else ocomp c k xs
theorem ocomp_len {α β : Type} {c : α → Option Bool} {k : α → Option β} : ∀ {xs : List α} {ys : List β}, ocomp c k xs = some ys → ys.length ≤ xs.length
  | [], ys, h => by cases h; exact Nat.le_refl _
  | x :: xs, ys, h => by
    simp only [ocomp] at h
    obtain ⟨b, _, h⟩ := bind_some' h
    cases b with
    | false => exact Nat.le_succ_of_le (ocomp_len (show ocomp c k xs = some ys from h))
    | true =>
      obtain ⟨y, _, h⟩ := bind_some' (show (k x).bind _ = some ys from h)
      obtain ⟨zs, h1, h⟩ := bind_some' h
      cases h
      have := ocomp_len h1
      simp only [List.length_cons]
      omega
def olc {α β : Type} (o : Option (List α)) (c : α → Option Bool) (k : α → Option β) : Option (List β) := o.bind fun xs => if xs.length ≤ 100000 then ocomp c k xs else none
section
variable {K : PySem.W.Frag} {ds es : List Sl} {ta tb tc te tl : TE} {tt : TT} {g : TG} {wi : TI} {m m1 m2 : Md} {α β γ τ S ρ : Type} [Em α] [Em β] [Em γ]
theorem et_yes : EvT K ds tYes (some true) := fun b hb B F M H σ Q E q => by cases hb; exact q F H (Ext.refl E.sF)
theorem el_lc {vs js : List Nat} {o : Option (List α)} {d1 : α → List Sl} {c : α → Option Bool} {k : α → Option β} (hw : EvW K ds m wi o) (tg : ∀ x, Tg K m (wipeD ds vs) g js (em x) (d1 x)) (hj : ∀ i ∈ js, i ∈ vs)
    (ht : ∀ x, EvT K (d1 x) tt (c x)) (he : ∀ x, EvO K (d1 x) .f te (k x)) : EvL K ds (tLc wi g tt te vs) (olc o c k) := by
  intro ys hy B F M H σ Q Ev q
  obtain ⟨xs, e1, e2⟩ := bind_some' hy
  split at e2
  · rename_i hlen
    refine hw xs e1 B F M H σ _ Ev fun J F1 H1 vl x wk hm ra D hD => ?_
    have E1 := Ev.ext x
    have DF1 : F1 D = none := none_of_same x.sub hD
    have DB : B D = none := none_of_same E1.sB hD
    refine L2.lc_it wk (fun i H' => ∃ F' acc done todo, Ext F1 H1 F' H' ∧ F' D = none ∧ H' D = some (.lst acc) ∧ RpA F' acc (done.map em) ∧ ocomp c k (xs.drop i) = some todo ∧ done ++ todo = ys) ⟨F1, [], [], ys, .new0 x.sub hD, DF1, upd_same, .nil, e2, rfl⟩
      (fun i H' _ ⟨F', acc, dn, td, xx, _⟩ => ⟨xx.sF.trans xx.sub, E1.sB.trans xx.sH⟩) ?_ ?_
    · rintro i v H' H'' hi ⟨F', acc, dn, td, xx, dF, dH, ra2, hk, hd⟩ ⟨rfl, hv⟩
      obtain ⟨d, hd', rd⟩ := ra.getV hv
      rw [List.getElem?_map] at hd'
      cases hy : xs[i]? with
      | none => rw [hy] at hd'; cases hd'
      | some y =>
        rw [hy] at hd'
        cases hd'
        have hdr : xs.drop i = y :: xs.drop (i + 1) := by
          have hlt := (List.getElem?_eq_some_iff.mp hy).1
          rw [List.drop_eq_getElem_cons hlt]
          rw [(List.getElem?_eq_some_iff.mp hy).2]
        rw [hdr] at hk
        simp only [ocomp] at hk
        obtain ⟨b, hb, hk⟩ := bind_some' hk
        have E2 := (E1.ext xx).wipe vs
        refine tg y B F' M H'' _ v _ E2 (rd.mono (hp_FB hm xx.sF)) fun σ2 E3 l3 o3 => ⟨wipe_eq l3 hj o3, ?_⟩
        refine ht y b hb B F' M H'' σ2 _ E3 fun F3 H3 x3 => ?_
        have dF3 : ∀ {G : Hp}, (∀ a, G a ≠ none → F' a ≠ none ∨ (H'' a = none ∨ IsTp H'' a)) → G D = none := fun {G} hn => by
          cases z : G D with
          | none => rfl
          | some o =>
            rcases hn D (by rw [z]; exact fun z => nomatch z) with h | h | ⟨ts, h⟩
            · exact absurd dF h
            · rw [dH] at h; cases h
            · rw [dH] at h; cases h
        cases b with
        | false => exact ⟨F3, acc, dn, td, xx.trans x3, dF3 x3.new, x3.sH _ _ dH, ra2.mono x3.sF, hk, hd⟩
        | true =>
          obtain ⟨z, hz, hk⟩ := bind_some' (show (k y).bind _ = some td from hk)
          obtain ⟨zs, hzs, hk⟩ := bind_some' hk
          cases hk
          show te σ2 H3 _
          refine he y z hz B F3 M H3 σ2 _ (E3.ext x3) fun w F4 H4 x4 rw4 => ?_
          have x34 := x3.trans x4
          have hacc : acc.length = dn.length := by rw [ra2.len, List.length_map]
          have hle : dn.length + (z :: zs).length ≤ xs.length := by
            have h1 := congrArg List.length hd
            rw [List.length_append] at h1
            have h2 := ocomp_len e2
            omega
          refine ⟨acc, x34.sH _ _ dH, Nat.lt_of_lt_of_le (show acc.length < 100001 by simp only [List.length_cons] at hle; omega) (by decide), F4, acc ++ [w], dn ++ [z], zs, ?_, dF3 x34.new, upd_same, ?_, hzs, by rw [List.append_assoc]; exact hd⟩
          · have xa := xx.trans x34
            exact ⟨xa.sF, same_upd2 xa.sH hD, same_upd2 xa.sub (dF3 x34.new), xa.new⟩
          · rw [List.map_append]
            exact (ra2.mono x34.sF).app (.cons rw4 .nil)
    · rintro H' ⟨F', acc, dn, td, xx, dF, dH, ra2, hk, hd⟩
      rw [show xs.drop xs.length = [] from List.drop_length] at hk
      cases hk
      rw [List.append_nil] at hd
      subst hd
      exact q D acc F' H' (x.trans xx) dF (none_of_same x.sH hD) dH ra2
  · cases e2
end

/-! ### own defs -/
inductive Ar | f (d : PyData) | r (d : PyData) | t (od : OD) | s (ns : List Int) | di (kvs : List (Int × PyData)) | dp (kvs : List ((Int × Int) × PyData))
def Ar.sl : Ar → Sl
  | .f d => .val d
  | .r d => .rd d
  | .t od => .rt od
  | .s ns => .scr ns
  | .di kvs => .rdi kvs
  | .dp kvs => .rdp kvs
def AOk (K : PySem.W.Frag) (F H : Hp) : List V → List Ar → Prop
  | [], [] => True
  | v :: vs, .f d :: l => Rp F v d ∧ AOk K F H vs l
  | v :: vs, .r d :: l => Rp H v d ∧ AOk K F H vs l
  | v :: vs, .t od :: l => (∃ ms, Ow F H v od ms) ∧ AOk K F H vs l
  | v :: vs, .s ns :: l => (∃ a, v = .ref a ∧ SqL K H a (ns.map V.int)) ∧ AOk K F H vs l
  | v :: vs, .di kvs :: l => (∃ p kv, v = .ref p ∧ H p = some (diO kv) ∧ KvR H kv kvs) ∧ AOk K F H vs l
  | v :: vs, .dp kvs :: l => (∃ p kv, v = .ref p ∧ H p = some (dpO kv) ∧ KvR H kv kvs) ∧ AOk K F H vs l
  | _, _ => False
theorem AOk.len {K F H} : ∀ {vs : List V} {l : List Ar}, AOk K F H vs l → vs.length = l.length
  | [], [], _ => rfl
  | v :: vs, .f d :: l, h => by simp [AOk.len h.2]
  | v :: vs, .r d :: l, h => by simp [AOk.len h.2]
  | v :: vs, .t d :: l, h => by simp [AOk.len h.2]
  | v :: vs, .s d :: l, h => by simp [AOk.len h.2]
  | v :: vs, .di d :: l, h => by simp [AOk.len h.2]
  | v :: vs, .dp d :: l, h => by simp [AOk.len h.2]
  | [], _ :: _, h => h.elim
  | _ :: _, [], h => h.elim
theorem AOk.at {K F H} : ∀ {vs : List V} {l : List Ar}, AOk K F H vs l → ∀ i : Nat, hold K H F H (((l.map Ar.sl)[i]?).getD .no) (vs[i]?.map some) fun _ => False
  | [], [], _, i => by simp only [List.map_nil, List.getElem?_nil]; trivial
  | v :: vs, .f d :: l, h, 0 => ⟨v, rfl, h.1⟩
  | v :: vs, .r d :: l, h, 0 => ⟨v, rfl, h.1⟩
  | v :: vs, .t d :: l, h, 0 => ⟨v, rfl, h.1⟩
  | v :: vs, .s d :: l, h, 0 => by obtain ⟨a, rfl, q⟩ := h.1; exact ⟨a, rfl, q⟩
  | v :: vs, .di d :: l, h, 0 => by obtain ⟨p, kv, rfl, q⟩ := h.1; exact ⟨p, kv, rfl, q⟩
  | v :: vs, .dp d :: l, h, 0 => by obtain ⟨p, kv, rfl, q⟩ := h.1; exact ⟨p, kv, rfl, q⟩
  | v :: vs, .f d :: l, h, i + 1 => by simpa using AOk.at h.2 i
  | v :: vs, .r d :: l, h, i + 1 => by simpa using AOk.at h.2 i
  | v :: vs, .t d :: l, h, i + 1 => by simpa using AOk.at h.2 i
  | v :: vs, .s d :: l, h, i + 1 => by simpa using AOk.at h.2 i
  | v :: vs, .di d :: l, h, i + 1 => by simpa using AOk.at h.2 i
  | v :: vs, .dp d :: l, h, i + 1 => by simpa using AOk.at h.2 i
  | [], _ :: _, h, _ => h.elim
  | _ :: _, [], h, _ => h.elim
/-- a def that hands back data | a new list -/
def spP (K : PySem.W.Frag) {τ β : Type} [Em β] (A : τ → List Ar) (f : τ → Option β) : Sp := fun vs H Q _ => ∃ F t b, Same F H ∧ AOk K F H vs (A t) ∧ f t = some b ∧ ∀ v F' H', Ext F H F' H' → Rp F' v (em b) → Q v H'
def spL (K : PySem.W.Frag) {τ β : Type} [Em β] (A : τ → List Ar) (f : τ → Option (List β)) : Sp := fun vs H Q _ => ∃ F t b, Same F H ∧ AOk K F H vs (A t) ∧ f t = some b ∧
  ∀ p ws F' H', Ext F H F' H' → F' p = none → H p = none → H' p = some (.lst ws) → RpA F' ws (b.map em) → Q (.ref p) H'
def EvA (K : PySem.W.Frag) (ds : List Sl) (ta : TA) {τ : Type} (o : Option τ) (A : τ → List Ar) : Prop := ∀ t, o = some t → ∀ B F M H σ Q, Env K B F M H σ ds → (∀ vs F' H', Ext F H F' H' → AOk K F' H' vs (A t) → Q vs H') → ta σ H Q
def oarg {α τ : Type} (a : Option α) (b : Option τ) : Option (α × τ) := obin (fun x t => some (x, t)) a b
theorem AOk.mono {K F H F' H'} (x : Ext F H F' H') : ∀ {vs : List V} {l : List Ar}, AOk K F H vs l → AOk K F' H' vs l
  | [], [], _ => trivial
  | v :: vs, .f d :: l, h => ⟨h.1.mono x.sF, AOk.mono x h.2⟩
  | v :: vs, .r d :: l, h => ⟨h.1.mono x.sH, AOk.mono x h.2⟩
  | v :: vs, .t d :: l, h => ⟨by obtain ⟨ms, q⟩ := h.1; exact ⟨ms, q.same x.sF x.sH⟩, AOk.mono x h.2⟩
  | v :: vs, .s d :: l, h => ⟨by obtain ⟨a, e, q⟩ := h.1; exact ⟨a, e, x.sH.seq q⟩, AOk.mono x h.2⟩
  | v :: vs, .di d :: l, h => ⟨by obtain ⟨p, kv, e, q, r⟩ := h.1; exact ⟨p, kv, e, x.sH _ _ q, r.mono x.sH⟩, AOk.mono x h.2⟩
  | v :: vs, .dp d :: l, h => ⟨by obtain ⟨p, kv, e, q, r⟩ := h.1; exact ⟨p, kv, e, x.sH _ _ q, r.mono x.sH⟩, AOk.mono x h.2⟩
  | [], _ :: _, h => h.elim
  | _ :: _, [], h => h.elim
section
variable {K : PySem.W.Frag} {ds : List Sl} {ta tb tc te : TE} {tr : TA} {m m1 m2 : Md} {α β γ τ : Type} [Em α] [Em β] [Em γ]
theorem ea_nil : EvA K ds tNil (some ()) fun _ => [] := fun t _ B F M H σ Q E q => q [] F H (Ext.refl E.sF) trivial
theorem ea_f {o : Option α} {os : Option τ} {A : τ → List Ar} (h : EvO K ds .f te o) (hr : EvA K ds tr os A) : EvA K ds (tCons te tr) (oarg o os) fun t => .f (em t.1) :: A t.2 := fun t ht B F M H σ Q E q => by
  obtain ⟨x, y, e1, e2, e3⟩ := obin_some ht
  cases e3
  exact h x e1 B F M H σ _ E fun v F1 H1 x1 r1 => hr y e2 B F1 M H1 σ _ (E.ext x1) fun vs F2 H2 x2 r2 => q _ F2 H2 (x1.trans x2) ⟨r1.mono x2.sF, r2⟩
theorem ea_r {o : Option α} {os : Option τ} {A : τ → List Ar} (h : EvO K ds m te o) (hr : EvA K ds tr os A) : EvA K ds (tCons te tr) (oarg o os) fun t => .r (em t.1) :: A t.2 := fun t ht B F M H σ Q E q => by
  obtain ⟨x, y, e1, e2, e3⟩ := obin_some ht
  cases e3
  exact h x e1 B F M H σ _ E fun v F1 H1 x1 r1 => hr y e2 B F1 M H1 σ _ (E.ext x1) fun vs F2 H2 x2 r2 => q _ F2 H2 (x1.trans x2) ⟨r1.mono ((hp_H (E.ext x1)).trans x2.sH), r2⟩
theorem ea_s {i : Nat} {ns : List Int} {os : Option τ} {A : τ → List Ar} (h : ds[i]? = some (.scr ns)) (hr : EvA K ds tr os A) : EvA K ds (tCons (tVar i) tr) (oarg (some ns) os) fun t => .s t.1 :: A t.2 := fun t ht B F M H σ Q E q => by
  obtain ⟨x, y, e1, e2, e3⟩ := obin_some ht
  cases e3
  cases e1
  obtain ⟨_, _, a, e, r⟩ := E.at h
  exact ⟨.ref a, e, hr y e2 B F M H σ _ E fun vs F2 H2 x2 r2 => q _ F2 H2 x2 ⟨⟨a, rfl, x2.sH.seq (E.sB.seq r)⟩, r2⟩⟩
theorem ev_call {o : Option τ} {A : τ → List Ar} {f : τ → Option β} {XE : XK} (h : EvA K ds tr o A) : EvO K ds .f (tCall (spP K A f) [] XE tr) (o.bind f) := fun b hb B F M H σ Q E q => by
  obtain ⟨t, e1, e2⟩ := bind_some' hb
  refine h t e1 B F M H σ _ E fun vs F1 H1 x1 a1 => ?_
  show spP K A f (vs ++ []) H1 Q XE
  rw [List.append_nil]
  exact ⟨F1, t, b, x1.sub, a1, e2, fun v F' H' x r => q v F' H' (x1.trans x) r⟩
theorem el_call {o : Option τ} {A : τ → List Ar} {f : τ → Option (List β)} {XE : XK} (h : EvA K ds tr o A) : EvL K ds (tCall (spL K A f) [] XE tr) (o.bind f) := fun b hb B F M H σ Q E q => by
  obtain ⟨t, e1, e2⟩ := bind_some' hb
  refine h t e1 B F M H σ _ E fun vs F1 H1 x1 a1 => ?_
  show spL K A f (vs ++ []) H1 Q XE
  rw [List.append_nil]
  exact ⟨F1, t, b, x1.sub, a1, e2, fun p ws F' H' x h1 h2 h3 r => q p ws F' H' (x1.trans x) h1 (none_of_same x1.sH h2) h3 r⟩
end
section
variable {P : Program} {w : World} {K : PySem.W.Frag} {mg : Str → Option Value} {base : Heap} {τ β : Type} [Em β]
theorem env_start {F H : Hp} {vs : List V} {l : List Ar} (N : List Str) (s : Same F H) (a : AOk K F H vs l) : Env K H F (fun _ => False) H (L2.start N vs) (l.map Ar.sl ++ List.replicate (N.length - l.length) Sl.no) := by
  have hl := a.len
  refine ⟨by simp [L2.start, hl], Same.refl _, s, fun _ h => h.elim, fun _ h => h.elim, fun _ h => h.elim, fun _ _ h => h.elim, fun _ _ => False, fun _ _ h => h, fun _ _ _ h => h.elim, fun i => ?_⟩
  by_cases hi : i < l.length
  · have h1 : (l.map Ar.sl ++ List.replicate (N.length - l.length) Sl.no)[i]? = (l.map Ar.sl)[i]? := List.getElem?_append_left (by rw [List.length_map]; exact hi)
    have h2 : (L2.start N vs)[i]? = vs[i]?.map some := by
      unfold L2.start
      rw [List.getElem?_append_left (by rw [List.length_map]; omega), List.getElem?_map]
    rw [h1, h2]
    exact a.at i
  · have h1 : (l.map Ar.sl ++ List.replicate (N.length - l.length) Sl.no)[i]?.getD Sl.no = Sl.no := by
      rw [List.getElem?_append_right (by rw [List.length_map]; omega)]
      cases h : (List.replicate (N.length - l.length) Sl.no)[i - (l.map Ar.sl).length]? with
      | none => rfl
      | some z => exact (List.mem_replicate.mp (List.mem_of_getElem? h)).2
    rw [h1]
    trivial
/-- a def's body by its statements' judgement -/
theorem fn_pure {x qual : Str} {st : Stmt} {f : Addr} {fd : FuncData} {N ps : List Str} {k : Nat} {A : τ → List Ar} {g : τ → Option β} (F : Fun K x qual st f fd) (S : FnScope N ps (defScope st)) (hA : ∀ t, (A t).length = ps.length)
    (body : ∀ (cdv : Value) (A' : Around) (outer : List PySem.Env) (s : Shared) (H : Hp) (E : XK), Room k (A'.deeper (PyProof.Rows.envOfC qual (defScope st) s.heap.objs.size f cdv)) →
      ∃ t, PSs (cxOf CX0 P w K mg base N qual (defScope st) f cdv A' outer s H E).nox (defBody st) t ∧ ∀ z, SvO K ((A z).map Ar.sl ++ List.replicate (N.length - (A z).length) Sl.no) t (g z) fun b => .rt (.val (em b))) : FnOk P w K mg base CX0 (k + 1) f fd ps (spP K A g) := by
  refine F.ok S (fun vs H Q E h => ?_) (fun cdv A' outer s H vs Q E hr h => ?_)
  · obtain ⟨_, t, _, _, a, _⟩ := h
    rw [a.len, hA]
  · obtain ⟨F0, z, b, sm, a, e, q⟩ := h
    obtain ⟨t, hp, hb⟩ := body cdv A' outer s H E hr
    refine ⟨t, hp, hb z b e H F0 _ H _ _ (env_start N sm a) fun F' M' H' v st E' => ?_⟩
    obtain ⟨m, _, u, e2, r⟩ := E'.at (i := 0) rfl
    cases e2
    exact q v F' H' ⟨st.sF, fun c o z => st.keep c o z (fun h => h), E'.sF, fun c z => (st.new c z).imp_right fun h => h.resolve_right fun h => h⟩ r
theorem fn_list {x qual : Str} {st : Stmt} {f : Addr} {fd : FuncData} {N ps : List Str} {k : Nat} {A : τ → List Ar} {g : τ → Option (List β)} (F : Fun K x qual st f fd) (S : FnScope N ps (defScope st)) (hA : ∀ t, (A t).length = ps.length)
    (body : ∀ (cdv : Value) (A' : Around) (outer : List PySem.Env) (s : Shared) (H : Hp) (E : XK), Room k (A'.deeper (PyProof.Rows.envOfC qual (defScope st) s.heap.objs.size f cdv)) →
      ∃ t, PSs (cxOf CX0 P w K mg base N qual (defScope st) f cdv A' outer s H E).nox (defBody st) t ∧ ∀ z, SvO K ((A z).map Ar.sl ++ List.replicate (N.length - (A z).length) Sl.no) t (g z) fun b => .rt (.own (b.map em))) : FnOk P w K mg base CX0 (k + 1) f fd ps (spL K A g) := by
  refine F.ok S (fun vs H Q E h => ?_) (fun cdv A' outer s H vs Q E hr h => ?_)
  · obtain ⟨_, t, _, _, a, _⟩ := h
    rw [a.len, hA]
  · obtain ⟨F0, z, b, sm, a, e, q⟩ := h
    obtain ⟨t, hp, hb⟩ := body cdv A' outer s H E hr
    refine ⟨t, hp, hb z b e H F0 _ H _ _ (env_start N sm a) fun F' M' H' v st E' => ?_⟩
    obtain ⟨m, hm, p, ws, e2, hpp, r, mp⟩ := E'.at (i := 0) rfl
    cases e2
    have hM := hm p mp
    have e' : Ext F0 H F' H' := ⟨st.sF, fun c o z => st.keep c o z (fun h => h), E'.sF, fun c z => (st.new c z).imp_right fun h => h.resolve_right fun h => h⟩
    exact q p ws F' H' e' (E'.mF p hM) (E'.mB p hM) hpp r
end
end Tw
/-! Further rules; a law's end. -/
namespace Tw
open PySem L2
def fuel : Nat := 1000000
theorem ilt {n : Nat} {ds : List Sl} (i : Nat) (h : ds.length = n) (h2 : i < n) : i < ds.length := by omega
theorem hu65 {k : Nat} {A : Around} (hr : Room k A) : A.units + 65 < cLine := by have := hr.un; omega
def otoi (o : Option PyData) : Option Int := o.bind fun d => match d with | .int i => some i | _ => none
def osum (o : Option (List Int)) : Option Int := o.map fun xs => xs.sum
def oall (o : Option (List Bool)) : Option Bool := o.map fun xs => xs.all id
def oany (o : Option (List Bool)) : Option Bool := o.map fun xs => xs.any id
def insI (x : Int) : List Int → List Int
  | [] => [x]
  | y :: ys => if x ≤ y then x :: y :: ys else y :: insI x ys
def sortI : List Int → List Int
  | [] => []
  | x :: xs => insI x (sortI xs)
def osortI (o : Option (List Int)) : Option (List Int) := o.map sortI
section
variable {K : PySem.W.Frag} {ds es : List Sl} {ta tb tc te : TE} {t u w : TS} {m m1 m2 : Md} {α β γ τ : Type} [Em α] [Em β] [Em γ] {out : τ → Out}
theorem ev_any {o : Option α} (h : EvO K ds m te o) : EvO K ds m te (o.map em) := fun x hx => by
  cases o with
  | none => cases hx
  | some y => cases hx; exact h y rfl
theorem ev_toi {o : Option PyData} (h : EvO K ds m te o) : EvO K ds .f te (otoi o) := fun x hx B F M H σ Q E q => by
  obtain ⟨d, e1, e2⟩ := bind_some' hx
  cases d with
  | int i =>
    cases e2
    refine h _ e1 B F M H σ _ E fun v F' H' e r => ?_
    have r : Rp _ v (.int _) := r
    cases r
    exact q _ F' H' e (.int _)
  | _ => cases e2
theorem sv_ret0 {o : Option α} {out : α → Out} (h : EvO K ds .f te o) (ho : ∀ x, out x = .rt (.val (em x))) : SvO K ds (tRet te) o out := by
  intro x hx B F M H σ D E f
  rw [ho] at f
  exact h x hx B F M H σ _ E fun v F' H' e r => f F' M H' v (.ofExt e) ((E.ext e).one r)
theorem sv_par {i j : Nat} {o1 : Option α} {o2 : Option β} {r : α → β → Option τ} (hi : i < ds.length) (hj : j < ds.length) (h1 : EvO K ds .f ta o1) (h2 : EvO K ds .f tb o2)
    (k : ∀ x y, SvO K ((ds.set i (.val (em x))).set j (.val (em y))) u (r x y) out) : SvO K ds (tSeq (tPar i j (tCons ta (tCons tb tNil))) u) (o1.bind fun x => o2.bind fun y => r x y) out := by
  intro z hz B F M H σ D E f
  obtain ⟨x, e1, hz⟩ := bind_some' hz
  obtain ⟨y, e2, hz⟩ := bind_some' hz
  exact ev2 h1 h2 e1 e2 E fun v w F' H' e r1 r2 => ⟨v, w, rfl, k x y z hz B F' M H' _ D (((E.ext e).setv hi r1).setv (by rw [List.length_set]; exact hj) r2) (f.step (.ofExt e))⟩
theorem ev_sum {o : Option (List Int)} (h : EvO K ds m te o) : EvO K ds .f (tCB (rSum K) (tCons te tNil)) (osum o) := by
  intro z hz B F M H σ Q E q
  cases o with
  | none => cases hz
  | some xs =>
    cases hz
    refine h xs rfl B F M H σ _ E fun v F' H' e r => ?_
    obtain ⟨p, vs, rfl, hp, ra⟩ := rp_list r
    have := RpA.ints (ns := xs) ra
    subst this
    exact ⟨p, xs, rfl, SqL.of (hp_H (E.ext e) _ _ hp), q _ F' H' e (.int _)⟩
theorem ev_all {o : Option (List Bool)} (h : EvO K ds m te o) : EvO K ds .f (tCB (rAll K) (tCons te tNil)) (oall o) := by
  intro z hz B F M H σ Q E q
  cases o with
  | none => cases hz
  | some xs =>
    cases hz
    refine h xs rfl B F M H σ _ E fun v F' H' e r => ?_
    obtain ⟨p, vs, rfl, hp, ra⟩ := rp_list r
    have := RpA.bools (ns := xs) ra
    subst this
    exact ⟨p, xs, rfl, SqL.of (hp_H (E.ext e) _ _ hp), q _ F' H' e (.bl _)⟩
theorem ev_any' {o : Option (List Bool)} (h : EvO K ds m te o) : EvO K ds .f (tCB (rAny K) (tCons te tNil)) (oany o) := by
  intro z hz B F M H σ Q E q
  cases o with
  | none => cases hz
  | some xs =>
    cases hz
    refine h xs rfl B F M H σ _ E fun v F' H' e r => ?_
    obtain ⟨p, vs, rfl, hp, ra⟩ := rp_list r
    have := RpA.bools (ns := xs) ra
    subst this
    exact ⟨p, xs, rfl, SqL.of (hp_H (E.ext e) _ _ hp), q _ F' H' e (.bl _)⟩
end
/-! ### a law's end -/
theorem law_end {l : PySem.W.OpenLaw} {lv : Nat} {q : Program} {loose : List Str} {XP : (Str → Option Value) → Heap → Prop} {YP : World → Heap → Prop} {d : DefRec} {K : Params → PySem.W.Frag} {x : Str} {A : List Int × Unit → List Ar} {g : List Int × Unit → Option Bool}
    (hn : l.most = some 63) (hdf : d.params.defaults = []) (hr : Room lv callerA) (hY : ∀ (w : World) (h : Heap), YP w h → (K w.params).In h) (hA : ∀ t, A t = [.s t.1])
    (F : ∀ (w : World) (mg : Str → Option Value) (fa : Addr) (h : Heap), (K w.params).In h → h.Ns mainGlobals mg → mg d.name = some (.ref fa) →
      ∃ fd : FuncData, (∀ (s : Shared) (u : Value), BindsTo s fd ⟨[u], []⟩ [(x, u)]) ∧ (∀ base : Heap, (K w.params).In base → base.Ns mainGlobals mg → FnOk l.prog w (K w.params) mg base CX0 lv fa fd [x] (spP (K w.params) A g)))
    (ht : ∀ ns : List Int, ns.length ≤ 63 → g (ns, ()) = some true) : PySem.W.WalkO q loose XP YP l.row.toRowW d [] (fun f vs => PySem.call f vs) :=
  L2.walk_of (n := 63) (k := lv) (x := x) (CX := fun _ => CX0) (sp := fun w => spP (K w.params) A g) hn (by decide) hdf hr hY F
    (fun w H a ns hl _ hS => ⟨H, (ns, ()), true, Same.refl H, by rw [hA]; exact ⟨⟨a, rfl, hS⟩, trivial⟩, ht ns hl, fun v F' H' _ r => rp_bool r⟩) fun _ _ _ _ _ z => z
end Tw
/-! list.index, list.count, sorted of numbers and of pairs, unpacking a list. -/
namespace Tw
open PySem L2
def oidx {α : Type} [Em α] (o : Option (List α)) (y : Option α) : Option Int := obin (fun xs y => (xs.findIdx? fun z => PyData.eqv (em z) (em y)).map fun j : Nat => (j : Int)) o y
def ocnt (o : Option (List Int)) (y : Option Int) : Option Int := obin (fun xs y => some ((xs.count y : Nat) : Int)) o y
section
variable {K : PySem.W.Frag} {ds es : List Sl} {ta tb tc te : TE} {t u w : TS} {m m1 m2 : Md} {α β γ τ : Type} [Em α] [Em β] [Em γ] {out : τ → Out}
theorem ev_index [Shp α] {o1 : Option (List α)} {o2 : Option α} (l : Shp.dep α + 1 ≤ 64) (h1 : EvO K ds m1 ta o1) (h2 : EvO K ds m2 tb o2) : EvO K ds .f (tBM K "list" (rIndexD K) ta (tCons tb tNil)) (oidx o1 o2) := by
  intro z hz B F M H σ Q E q
  obtain ⟨xs, y, e1, e2, e3⟩ := obin_some hz
  cases hf : xs.findIdx? (fun z => PyData.eqv (em z) (em y)) with
  | none => rw [hf] at e3; cases e3
  | some j =>
    rw [hf] at e3
    cases e3
    refine h1 xs e1 B F M H σ _ E fun v F1 H1 x1 r1 => ?_
    have E1 := E.ext x1
    obtain ⟨p, vs, rfl, hp, ra⟩ := rp_list r1
    refine ⟨.inl ⟨rfl, vs, .inl (.inl (hp_H E1 _ _ hp))⟩, h2 y e2 B F1 M H1 σ _ E1 fun w F2 H2 x2 r2 => ?_⟩
    have E2 := E1.ext x2
    obtain ⟨hj, hp1, hp2⟩ := List.findIdx?_eq_some_iff_getElem.mp hf
    refine ⟨p, w, em y, xs.map em, j, em (xs[j]'hj), rfl, rfl, ((r1.mono (hp_mono x2)).mono (hp_H E2)).dp K, (r2.mono (hp_H E2)).dp K, shaped_em (α := List α) l xs, shaped_em (by omega) y, ?_, hp1, ?_, q _ F2 H2 (x1.trans x2) (.int _)⟩
    · rw [List.getElem?_map, List.getElem?_eq_getElem hj]; rfl
    · intro i z' hi hz'
      rw [List.getElem?_map, List.getElem?_eq_getElem (by omega)] at hz'
      cases hz'
      have := hp2 i hi
      simpa using this
theorem ev_count {o1 : Option (List Int)} {o2 : Option Int} (h1 : EvO K ds m1 ta o1) (h2 : EvO K ds m2 tb o2) : EvO K ds .f (tBM K "list" (rCntI K) ta (tCons tb tNil)) (ocnt o1 o2) := by
  intro z hz B F M H σ Q E q
  obtain ⟨xs, y, e1, e2, e3⟩ := obin_some hz
  cases e3
  refine h1 xs e1 B F M H σ _ E fun v F1 H1 x1 r1 => ?_
  have E1 := E.ext x1
  obtain ⟨p, vs, rfl, hp, ra⟩ := rp_list r1
  have := RpA.ints (ns := xs) ra
  subst this
  refine ⟨.inl ⟨rfl, _, .inl (.inl (hp_H E1 _ _ hp))⟩, h2 y e2 B F1 M H1 σ _ E1 fun w F2 H2 x2 r2 => ?_⟩
  exact ⟨p, xs, y, rfl, by rw [rp_int r2], .inl (.inl (x2.sH _ _ (hp_H E1 _ _ hp))), q _ F2 H2 (x1.trans x2) (.int _)⟩
end
/-! ### sorted -/
theorem perm_insI (x : Int) : ∀ ys : List Int, (insI x ys).Perm (x :: ys)
  | [] => List.Perm.refl _
  | y :: ys => by
    unfold insI
    split
    · exact List.Perm.refl _
    · exact ((perm_insI x ys).cons y).trans (List.Perm.swap x y ys)
theorem perm_sortI : ∀ xs : List Int, (sortI xs).Perm xs
  | [] => List.Perm.refl _
  | x :: xs => (perm_insI x (sortI xs)).trans ((perm_sortI xs).cons x)
theorem insI_mem {x y : Int} {ys : List Int} : y ∈ insI x ys ↔ y = x ∨ y ∈ ys := by
  rw [(perm_insI x ys).mem_iff, List.mem_cons]
theorem sorted_insI (x : Int) : ∀ {ys : List Int}, ys.Pairwise (· ≤ ·) → (insI x ys).Pairwise (· ≤ ·)
  | [], _ => by simp [insI]
  | y :: ys, h => by
    obtain ⟨h1, h2⟩ := List.pairwise_cons.mp h
    unfold insI
    split
    · rename_i hx
      refine List.pairwise_cons.mpr ⟨fun z hz => ?_, h⟩
      rcases List.mem_cons.mp hz with rfl | hz
      · exact hx
      · exact Int.le_trans hx (h1 z hz)
    · rename_i hx
      refine List.pairwise_cons.mpr ⟨fun z hz => ?_, sorted_insI x h2⟩
      rcases insI_mem.mp hz with rfl | hz
      · omega
      · exact h1 z hz
theorem sorted_sortI : ∀ xs : List Int, (sortI xs).Pairwise (· ≤ ·)
  | [] => List.Pairwise.nil
  | x :: xs => sorted_insI x (sorted_sortI xs)
theorem uniq_sorted : ∀ {xs ys : List Int}, xs.Perm ys → xs.Pairwise (· ≤ ·) → ys.Pairwise (· ≤ ·) → xs = ys
  | [], ys, p, _, _ => (List.Perm.nil_eq p)
  | x :: xs, [], p, _, _ => by simpa using p.length_eq
  | x :: xs, y :: ys, p, h1, h2 => by
    obtain ⟨a1, a2⟩ := List.pairwise_cons.mp h1
    obtain ⟨b1, b2⟩ := List.pairwise_cons.mp h2
    have e : x = y := by
      have m1 : x ∈ y :: ys := p.mem_iff.mp (by simp)
      have m2 : y ∈ x :: xs := p.mem_iff.mpr (by simp)
      rcases List.mem_cons.mp m1 with h | h
      · exact h
      · rcases List.mem_cons.mp m2 with h' | h'
        · exact h'.symm
        · exact Int.le_antisymm (a1 y h') (b1 x h)
    subst e
    rw [uniq_sorted (p.cons_inv) a2 b2]
abbrev PP := Int × Int
def leP (a b : PP) : Bool := decide (a.1 < b.1) || (decide (a.1 = b.1) && decide (a.2 ≤ b.2))
theorem leP_iff {a b : PP} : leP a b = true ↔ a.1 < b.1 ∨ (a.1 = b.1 ∧ a.2 ≤ b.2) := by simp [leP]
theorem leP_tot (a b : PP) : leP a b = true ∨ leP b a = true := by rw [leP_iff, leP_iff]; omega
theorem leP_anti {a b : PP} (h1 : leP a b = true) (h2 : leP b a = true) : a = b := by
  rw [leP_iff] at h1 h2
  obtain ⟨a1, a2⟩ := a
  obtain ⟨b1, b2⟩ := b
  simp only [Prod.mk.injEq]
  simp only at h1 h2
  omega
theorem leP_tr {a b c : PP} (h1 : leP a b = true) (h2 : leP b c = true) : leP a c = true := by
  rw [leP_iff] at *
  omega
def insP (x : PP) : List PP → List PP
  | [] => [x]
  | y :: ys => if leP x y then x :: y :: ys else y :: insP x ys
def sortP : List PP → List PP
  | [] => []
  | x :: xs => insP x (sortP xs)
theorem perm_insP (x : PP) : ∀ ys : List PP, (insP x ys).Perm (x :: ys)
  | [] => List.Perm.refl _
  | y :: ys => by
    unfold insP
    split
    · exact List.Perm.refl _
    · exact ((perm_insP x ys).cons y).trans (List.Perm.swap x y ys)
theorem perm_sortP : ∀ xs : List PP, (sortP xs).Perm xs
  | [] => List.Perm.refl _
  | x :: xs => (perm_insP x (sortP xs)).trans ((perm_sortP xs).cons x)
theorem insP_mem {x y : PP} {ys : List PP} : y ∈ insP x ys ↔ y = x ∨ y ∈ ys := by
  rw [(perm_insP x ys).mem_iff, List.mem_cons]
theorem sorted_insP (x : PP) : ∀ {ys : List PP}, ys.Pairwise (fun a b => leP a b = true) → (insP x ys).Pairwise (fun a b => leP a b = true)
  | [], _ => by simp [insP]
  | y :: ys, h => by
    obtain ⟨h1, h2⟩ := List.pairwise_cons.mp h
    unfold insP
    split
    · rename_i hx
      refine List.pairwise_cons.mpr ⟨fun z hz => ?_, h⟩
      rcases List.mem_cons.mp hz with rfl | hz
      · exact hx
      · exact leP_tr hx (h1 z hz)
    · rename_i hx
      refine List.pairwise_cons.mpr ⟨fun z hz => ?_, sorted_insP x h2⟩
      rcases insP_mem.mp hz with rfl | hz
      · exact (leP_tot z y).resolve_left hx
      · exact h1 z hz
theorem sorted_sortP : ∀ xs : List PP, (sortP xs).Pairwise (fun a b => leP a b = true)
  | [] => List.Pairwise.nil
  | x :: xs => sorted_insP x (sorted_sortP xs)
theorem uniq_sortedP : ∀ {xs ys : List PP}, xs.Perm ys → xs.Pairwise (fun a b => leP a b = true) → ys.Pairwise (fun a b => leP a b = true) → xs = ys
  | [], ys, p, _, _ => (List.Perm.nil_eq p)
  | x :: xs, [], p, _, _ => by simpa using p.length_eq
  | x :: xs, y :: ys, p, h1, h2 => by
    obtain ⟨a1, a2⟩ := List.pairwise_cons.mp h1
    obtain ⟨b1, b2⟩ := List.pairwise_cons.mp h2
    have e : x = y := by
      have m1 : x ∈ y :: ys := p.mem_iff.mp (by simp)
      have m2 : y ∈ x :: xs := p.mem_iff.mpr (by simp)
      rcases List.mem_cons.mp m1 with h | h
      · exact h
      · rcases List.mem_cons.mp m2 with h' | h'
        · exact h'.symm
        · exact leP_anti (a1 y h') (b1 x h)
    subst e
    rw [uniq_sortedP (p.cons_inv) a2 b2]
def osortP (o : Option (List PP)) : Option (List PP) := o.map sortP

def keyP (H : Hp) : V → PP
  | .ref t => match H t with
    | some (.tup [.int i, .int j]) => (i, j)
    | _ => (0, 0)
  | _ => (0, 0)
theorem keyP_of {H : Hp} {v : V} {x : PP} (r : Rp H v (em x)) : keyP H v = x ∧ ∃ t, v = .ref t ∧ H t = some (.tup [.int x.1, .int x.2]) := by
  obtain ⟨p, a, b, rfl, hp, r1, r2⟩ := rp_pair r
  rw [rp_int r1, rp_int r2] at hp
  refine ⟨?_, p, rfl, hp⟩
  show (match H p with | some (.tup [.int i, .int j]) => (i, j) | _ => (0, 0)) = x
  rw [hp]
theorem keys_map {H : Hp} : ∀ {vs : List V} {ps : List PP}, RpA H vs (ps.map em) → vs.map (keyP H) = ps ∧ ∀ v ∈ vs, Rp H v (em (keyP H v))
  | _, [], r => by cases r; exact ⟨rfl, fun v h => by cases h⟩
  | _, p :: ps, r => by
    cases r with
    | cons h r =>
      obtain ⟨h1, h2⟩ := keys_map r
      refine ⟨by rw [List.map_cons, h1, (keyP_of h).1], fun v hv => ?_⟩
      rcases List.mem_cons.mp hv with rfl | hv
      · rw [(keyP_of h).1]; exact h
      · exact h2 v hv
theorem rpa_keys {H : Hp} {k : V → PP} : ∀ {vs : List V}, (∀ v ∈ vs, Rp H v (em (k v))) → RpA H vs ((vs.map k).map em)
  | [], _ => .nil
  | v :: vs, h => .cons (h v (by simp)) (rpa_keys fun w hw => h w (by simp [hw]))
theorem lexB_le {a b : PP} (h : SrtO.lexB b a = false) : leP a b = true := by
  rw [leP_iff]
  have : ¬ (b.1 < a.1 ∨ (b.1 = a.1 ∧ b.2 < a.2)) := by
    intro hc
    rw [SrtO.lexB_iff.mpr hc] at h
    cases h
  omega
theorem sorted_run {K : PySem.W.Frag} {F H : Hp} {p : Addr} {vs : List V} {ps : List PP} {Q : VK} (hp : SqL K H p vs) (sF : Same F H) (r : RpA F vs (ps.map em))
    (q : ∀ n ys, H n = none → RpA F ys ((sortP ps).map em) → Q (.ref n) (upd H n (.lst ys))) : L2.rSortedPO K [.ref p] H Q := by
  obtain ⟨h1, h2⟩ := keys_map r
  refine ⟨p, vs, keyP F, rfl, hp, fun x hx => ?_, fun ys n hs st hn => q n ys hn ?_⟩
  · obtain ⟨e, t, rfl, ht⟩ := keyP_of (h2 x hx)
    exact ⟨t, rfl, sF _ _ ht⟩
  · have hy : ∀ v ∈ ys, Rp F v (em (keyP F v)) := fun v hv => h2 v (st.perm.mem_iff.mp hv)
    have e : ys.map (keyP F) = sortP ps := by
      refine uniq_sortedP ?_ ?_ (sorted_sortP ps)
      · refine (st.perm.map (keyP F)).trans ?_
        rw [h1]
        exact (perm_sortP ps).symm
      · refine List.pairwise_map.mpr (hs.imp fun {a b} h => lexB_le h)
    rw [← e]
    exact rpa_keys hy
section
variable {K : PySem.W.Frag} {ds es : List Sl} {ta tb tc te : TE} {t u w : TS} {g g2 : TG} {m m1 m2 : Md} {α β γ τ : Type} [Em α] [Em β] [Em γ] {out : τ → Out}
theorem el_sortP {o : Option (List PP)} (h : EvO K ds .f te o) : EvL K ds (tCB (L2.rSortedPO K) (tCons te tNil)) (osortP o) := by
  intro xs hx B F M H σ Q E q
  cases o with
  | none => cases hx
  | some ps =>
    cases hx
    refine h ps rfl B F M H σ _ E fun v F' H' e r => ?_
    obtain ⟨p, vs, rfl, hp, ra⟩ := rp_list r
    exact sorted_run (SqL.of (e.sub _ _ hp)) e.sub ra fun n ys hn ry => q n ys F' _ (e.trans (Ext.new0 e.sub hn)) (none_of_same e.sub hn) (none_of_same e.sH hn) upd_same ry
theorem el_sortPO {i : Nat} {ps : List PP} (h : ds[i]? = some (.own (ps.map em))) : EvL K ds (tCB (L2.rSortedPO K) (tCons (tVar i) tNil)) (osortP (some ps)) := by
  intro xs hx B F M H σ Q E q
  cases hx
  obtain ⟨_, _, p, vs, e, hp, r, _⟩ := E.at h
  exact ⟨.ref p, e, sorted_run (SqL.of hp) E.sF r fun n ys hn ry => q n ys F _ (Ext.new0 E.sF hn) (none_of_same E.sF hn) hn upd_same ry⟩
theorem el_sortI {o : Option (List Int)} (h : EvO K ds m te o) : EvL K ds (tCB (L2.rSortedI K) (tCons te tNil)) (osortI o) := by
  intro xs hx B F M H σ Q E q
  cases o with
  | none => cases hx
  | some ns =>
    cases hx
    refine h ns rfl B F M H σ _ E fun v F' H' e r => ?_
    obtain ⟨p, vs, rfl, hp, ra⟩ := rp_list r
    have := RpA.ints (ns := ns) ra
    subst this
    refine ⟨p, ns, rfl, SqL.of (hp_H (E.ext e) _ _ hp), fun ns' n hpm hst hn => q n _ F' _ (e.trans (Ext.new0 e.sub hn)) (none_of_same e.sub hn) (none_of_same e.sH hn) upd_same ?_⟩
    have e2 : ns' = sortI ns := uniq_sorted (hpm.trans (perm_sortI ns).symm) hst (sorted_sortI ns)
    rw [e2]
    exact RpA.ofInts _
def oun2 (o : Option (List α)) : Option (α × α) := o.bind fun xs => match xs with | [a, b] => some (a, b) | _ => none
theorem sv_unl2 {js ks : List Nat} {o : Option (List α)} {r : α × α → Option τ} {d1 d2 : α × α → List Sl} (h : EvO K ds m te o) (t1 : ∀ y : α × α, Tg K m ds g js (em y.1) (d1 y)) (t2 : ∀ y : α × α, Tg K m (d1 y) g2 ks (em y.2) (d2 y)) (k : ∀ y, SvO K (d2 y) u (r y) out) :
    SvO K ds (tSeq (tAsg te (L2.gUnl K 2 (gCons g (gCons g2 gNil)))) u) ((oun2 o).bind r) out := by
  intro x hx B F M H σ D E f
  obtain ⟨y, e1, e2⟩ := bind_some' hx
  obtain ⟨xs, e3, e4⟩ := bind_some' e1
  match xs, e4 with
  | [a, b], e4 =>
    cases e4
    refine h _ e3 B F M H σ _ E fun v F' H' e r => ?_
    obtain ⟨p, vs, rfl, hp, ra⟩ := rp_list r
    cases ra with
    | cons r1 ra =>
      cases ra with
      | cons r2 ra =>
        cases ra
        have E' := E.ext e
        refine ⟨p, _, rfl, SqL.of (hp_H E' _ _ hp), rfl, _, _, rfl, t1 (a, b) B F' M H' σ _ _ E' r1 fun σ1 E1 _ _ => ⟨_, _, rfl, t2 (a, b) B F' M H' σ1 _ _ E1 r2 fun σ2 E2 _ _ => ⟨rfl, k _ x e2 B F' M H' σ2 D E2 (f.step (.ofExt e))⟩⟩⟩
end
end Tw
/-! list.pop; dicts. -/
namespace Tw
open PySem L2
def emD {κ β : Type} [Em β] (kvs : List (κ × β)) : List (κ × PyData) := kvs.map fun x => (x.1, em x.2)
section
variable {κ κ' ν : Type} [DecidableEq κ] [DecidableEq κ']
def dput (kvs : List (κ × ν)) (k : κ) (v : ν) : List (κ × ν) := if (kvs.any fun x => decide (x.1 = k)) = true then kvs.map (fun x => if x.1 = k then (x.1, v) else x) else kvs ++ [(k, v)]
def dget (kvs : List (κ × ν)) (k : κ) : Option ν := (kvs.find? fun x => decide (x.1 = k)).map (·.2)
def ddrop (kvs : List (κ × ν)) (k : κ) : List (κ × ν) := kvs.filter fun x => decide (x.1 ≠ k)
def mapK (f : κ → κ') (kv : List (κ × V)) : List (κ' × V) := kv.map fun x => (f x.1, x.2)
theorem putK_map {f : κ → κ'} (hf : ∀ a b, f a = f b → a = b) (kv : List (κ × V)) (k : κ) (v : V) : L2.putK (mapK f kv) (f k) v = mapK f (dput kv k v) := by
  unfold L2.putK dput mapK
  have h1 : ((kv.map fun x => (f x.1, x.2)).any fun x => decide (x.1 = f k)) = kv.any fun x => decide (x.1 = k) := by
    rw [List.any_map]
    congr 1
    funext x
    by_cases h : x.1 = k
    · simp [h]
    · have : ¬ f x.1 = f k := fun e => h (hf _ _ e)
      simp [h, this]
  rw [h1]
  split
  · rw [List.map_map, List.map_map]
    refine List.map_congr_left fun x _ => ?_
    by_cases h : x.1 = k
    · simp [h]
    · have : ¬ f x.1 = f k := fun e => h (hf _ _ e)
      simp [h, this]
  · rw [List.map_append]; rfl
theorem valV_map {f : κ → κ'} (hf : ∀ a b, f a = f b → a = b) (kv : List (κ × V)) (k : κ) : L2.valV (mapK f kv) (f k) = dget kv k := by
  unfold L2.valV dget mapK
  rw [List.find?_map, Option.map_map]
  have h1 : ((fun x : κ' × V => decide (x.1 = f k)) ∘ fun x : κ × V => (f x.1, x.2)) = fun x => decide (x.1 = k) := by
    funext x
    by_cases h : x.1 = k
    · simp [h]
    · have : ¬ f x.1 = f k := fun e => h (hf _ _ e)
      simp [h, this]
  rw [h1]
  rfl
theorem dropK_map {f : κ → κ'} (hf : ∀ a b, f a = f b → a = b) (kv : List (κ × V)) (k : κ) : L2.dropK (mapK f kv) (f k) = mapK f (ddrop kv k) := by
  unfold L2.dropK ddrop mapK
  rw [List.filter_map]
  congr 1
  refine List.filter_congr fun x _ => ?_
  by_cases h : x.1 = k
  · simp [h]
  · have : ¬ f x.1 = f k := fun e => h (hf _ _ e)
    simp [h, this]
theorem KvR.keys {F : Hp} : ∀ {xs : List (κ × V)} {ys : List (κ × PyData)}, KvR F xs ys → xs.map (·.1) = ys.map (·.1)
  | _, _, .nil => rfl
  | _, _, .cons _ r => by simp only [List.map_cons]; rw [KvR.keys r]
theorem KvR.len {F : Hp} : ∀ {xs : List (κ × V)} {ys : List (κ × PyData)}, KvR F xs ys → xs.length = ys.length
  | _, _, .nil => rfl
  | _, _, .cons _ r => by simp only [List.length_cons]; rw [KvR.len r]
theorem KvR.any {F : Hp} (k : κ) : ∀ {xs : List (κ × V)} {ys : List (κ × PyData)}, KvR F xs ys → (xs.any fun x => decide (x.1 = k)) = ys.any fun x => decide (x.1 = k)
  | _, _, .nil => rfl
  | _, _, .cons _ r => by simp only [List.any_cons]; rw [KvR.any k r]
theorem KvR.get {F : Hp} (k : κ) : ∀ {xs : List (κ × V)} {ys : List (κ × PyData)}, KvR F xs ys → (dget xs k = none ∧ dget ys k = none) ∨ ∃ v d, dget xs k = some v ∧ dget ys k = some d ∧ Rp F v d
  | _, _, .nil => .inl ⟨rfl, rfl⟩
  | _, _, .cons (k := k0) (xs := xs) (ys := ys) h r => by
    by_cases e : k0 = k
    · refine .inr ⟨_, _, ?_, ?_, h⟩
      · unfold dget; rw [List.find?_cons_of_pos (by simp [e])]; rfl
      · unfold dget; rw [List.find?_cons_of_pos (by simp [e])]; rfl
    · have h1 : ∀ (ν : Type) (v : ν) (zs : List (κ × ν)), dget ((k0, v) :: zs) k = dget zs k := fun ν v zs => by unfold dget; rw [List.find?_cons_of_neg (by simp [e])]
      rw [h1, h1]
      exact KvR.get k r
theorem KvR.app {F : Hp} : ∀ {xs xs' : List (κ × V)} {ys ys' : List (κ × PyData)}, KvR F xs ys → KvR F xs' ys' → KvR F (xs ++ xs') (ys ++ ys')
  | _, _, _, _, .nil, q => q
  | _, _, _, _, .cons h r, q => .cons h (KvR.app r q)
theorem KvR.upd {F : Hp} {k : κ} {v : V} {d : PyData} (h : Rp F v d) : ∀ {xs : List (κ × V)} {ys : List (κ × PyData)}, KvR F xs ys → KvR F (xs.map fun x => if x.1 = k then (x.1, v) else x) (ys.map fun x => if x.1 = k then (x.1, d) else x)
  | _, _, .nil => .nil
  | _, _, .cons (k := k0) h' r => by
    simp only [List.map_cons]
    by_cases e : k0 = k
    · rw [if_pos e, if_pos e]; exact .cons h (KvR.upd h r)
    · rw [if_neg e, if_neg e]; exact .cons h' (KvR.upd h r)
theorem KvR.put {F : Hp} {k : κ} {v : V} {d : PyData} (h : Rp F v d) {xs : List (κ × V)} {ys : List (κ × PyData)} (r : KvR F xs ys) : KvR F (dput xs k v) (dput ys k d) := by
  unfold dput
  rw [r.any k]
  split
  · exact r.upd h
  · exact r.app (.cons h .nil)
theorem KvR.drop {F : Hp} {k : κ} : ∀ {xs : List (κ × V)} {ys : List (κ × PyData)}, KvR F xs ys → KvR F (ddrop xs k) (ddrop ys k)
  | _, _, .nil => .nil
  | _, _, .cons (k := k0) h r => by
    unfold ddrop
    by_cases e : k0 = k
    · rw [List.filter_cons_of_neg (by simp [e]), List.filter_cons_of_neg (by simp [e])]
      exact KvR.drop r
    · rw [List.filter_cons_of_pos (by simp [e]), List.filter_cons_of_pos (by simp [e])]
      exact .cons h (KvR.drop r)
end
theorem emD_put {κ β : Type} [DecidableEq κ] [Em β] (kvs : List (κ × β)) (k : κ) (v : β) : dput (emD kvs) k (em v) = emD (dput kvs k v) := by
  unfold dput emD
  have h1 : ((kvs.map fun x => (x.1, em x.2)).any fun x => decide (x.1 = k)) = kvs.any fun x => decide (x.1 = k) := by rw [List.any_map]; rfl
  rw [h1]
  split
  · rw [List.map_map, List.map_map]
    refine List.map_congr_left fun x _ => ?_
    by_cases h : x.1 = k
    · simp [h]
    · simp [h]
  · rw [List.map_append]; rfl
theorem emD_get {κ β : Type} [DecidableEq κ] [Em β] (kvs : List (κ × β)) (k : κ) : dget (emD kvs) k = (dget kvs k).map em := by
  unfold dget emD
  rw [List.find?_map, Option.map_map, Option.map_map]
  rfl
theorem emD_drop {κ β : Type} [DecidableEq κ] [Em β] (kvs : List (κ × β)) (k : κ) : ddrop (emD kvs) k = emD (ddrop kvs k) := by
  unfold ddrop emD
  rw [List.filter_map]
  rfl
def odput {κ β : Type} [DecidableEq κ] (kvs : List (κ × β)) (k : κ) (v : β) : Option (List (κ × β)) := if kvs.length < 100000 then some (dput kvs k v) else none
def odget {κ β : Type} [DecidableEq κ] (kvs : List (κ × β)) (k : Option κ) : Option β := k.bind fun k => dget kvs k
def odgetO {κ β : Type} [DecidableEq κ] (kvs : List (κ × β)) (k : Option κ) : Option (Option β) := k.map fun k => dget kvs k
def odin {κ β : Type} [DecidableEq κ] (k : Option κ) (kvs : List (κ × β)) : Option Bool := k.map fun k => (dget kvs k).isSome
def odnin {κ β : Type} [DecidableEq κ] (k : Option κ) (kvs : List (κ × β)) : Option Bool := k.map fun k => !(dget kvs k).isSome
def odpop {κ β : Type} [DecidableEq κ] (kvs : List (κ × β)) (k : κ) : Option (β × List (κ × β)) := (dget kvs k).map fun v => (v, ddrop kvs k)
def opop {α : Type} (xs : List α) : Option (α × List α) := xs.getLast?.map fun x => (x, xs.dropLast)
theorem RpA.last {H : Hp} : ∀ {vs : List V} {ds : List PyData} {d : PyData}, RpA H vs ds → ds.getLast? = some d → ∃ v, vs[vs.length - 1]? = some v ∧ Rp H v d := by
  intro vs ds d r h
  rw [List.getLast?_eq_getElem?] at h
  rw [r.len]
  exact r.get h
theorem RpA.dropLast {H : Hp} {vs : List V} {ds : List PyData} (r : RpA H vs ds) : RpA H vs.dropLast ds.dropLast := by
  rw [List.dropLast_eq_take, List.dropLast_eq_take, r.len]
  exact r.take _
section
variable {K : PySem.W.Frag} {ds es : List Sl} {ta tb tc te : TE} {t u w : TS} {g g2 : TG} {m m1 m2 : Md} {α β γ τ : Type} [Em α] [Em β] [Em γ] {out : τ → Out}
/-- an own list's last item taken off -/
theorem pop_run {i : Nat} {xs : List α} {z : α × List α} (hi : i < ds.length) (hx : ds[i]? = some (.own (xs.map em))) (hz : opop xs = some z) {B F M H σ} {Q : VK} (E : Env K B F M H σ ds)
    (q : ∀ v H', Stp F M H F M H' → Env K B F M H' σ (ds.set i (.own (z.2.map em))) → Rp F v (em z.1) → Q v H') : tBM0 K "list" rPop (tVar i) σ H Q := by
  obtain ⟨foot, f1, f2, f3⟩ := id E.ft
  have h3 := f3 i
  rw [hx] at h3
  obtain ⟨p, vs, e, hp, r, hm⟩ := h3
  unfold opop at hz
  cases hl : xs.getLast? with
  | none => rw [hl] at hz; cases hz
  | some x =>
    rw [hl] at hz
    cases hz
    obtain ⟨v, hv, rv⟩ := r.last (d := em x) (by rw [List.getLast?_map, hl]; rfl)
    refine ⟨.ref p, e, .inl ⟨rfl, _, SqL.of hp⟩, p, vs, v, rfl, rfl, hp, hv, ?_⟩
    have r2 : RpA F vs.dropLast (xs.dropLast.map em) := by
      rw [List.map_dropLast]; exact r.dropLast
    refine q v _ ⟨Same.refl _, fun a z => .inl z, fun b o z nm => ?_, fun a z => .inl z⟩ (E.chown f1 f2 f3 hi e hm r2) rv
    rw [upd_ne fun q => nm (by rw [q]; exact f1 i p hm)]
    exact z
theorem sv_pop {i j : Nat} {xs : List α} {r : α × List α → Option τ} (hi : i < ds.length) (hj : j < ds.length) (hx : ds[i]? = some (.own (xs.map em))) (k : ∀ y, SvO K ((ds.set i (.own (y.2.map em))).set j (.val (em y.1))) u (r y) out) :
    SvO K ds (tSeq (tAsg (tBM0 K "list" rPop (tVar i)) (gName j)) u) ((opop xs).bind r) out := by
  intro x hx2 B F M H σ D E fin
  obtain ⟨z, e1, e2⟩ := bind_some' hx2
  exact pop_run hi hx e1 E fun v H' st E' rv => k z x e2 B F M H' _ D (E'.setv (by rw [List.length_set]; exact hj) rv) (fin.step st)
theorem sv_popD {i : Nat} {xs : List α} {r : α × List α → Option τ} (hi : i < ds.length) (hx : ds[i]? = some (.own (xs.map em))) (k : ∀ y, SvO K (ds.set i (.own (y.2.map em))) u (r y) out) :
    SvO K ds (tSeq (tDrop (tBM0 K "list" rPop (tVar i))) u) ((opop xs).bind r) out := by
  intro x hx2 B F M H σ D E fin
  obtain ⟨z, e1, e2⟩ := bind_some' hx2
  exact pop_run hi hx e1 E fun v H' st E' rv => k z x e2 B F M H' _ D E' (fin.step st)
/-- a new own thing at slot i -/
theorem Env.setnew {B F M H σ} (E : Env K B F M H σ ds) {i : Nat} (hi : i < ds.length) {p : Addr} {sl : Sl} (hB : B p = none) (hF : F p = none) (hM : ¬ M p) (hp : H p ≠ none) (hT : ∀ xs, H p ≠ some (.tup xs)) (h : hold K B F H sl (some (some (.ref p))) (fun a => a = p)) :
    Env K B F (fun a => M a ∨ a = p) H (σ.set i (some (.ref p))) (ds.set i sl) := by
  obtain ⟨len, sB, sF, mB, mF, mH, mT, foot, f1, f2, f3⟩ := E
  refine ⟨by rw [List.length_set, List.length_set, len], sB, sF, fun a ha => ?_, fun a ha => ?_, fun a ha => ?_, fun a xs ha => ?_, fun j a => if j = i then a = p else foot j a, fun j a ha => ?_, fun j k a h1 h2 => ?_, fun j => ?_⟩
  · rcases ha with ha | rfl
    · exact mB a ha
    · exact hB
  · rcases ha with ha | rfl
    · exact mF a ha
    · exact hF
  · rcases ha with ha | rfl
    · exact mH a ha
    · exact hp
  · rcases ha with ha | rfl
    · exact mT a xs ha
    · exact hT xs
  · by_cases h : j = i
    · simp only [if_pos h] at ha; exact .inr ha
    · simp only [if_neg h] at ha; exact .inl (f1 j a ha)
  · by_cases hj : j = i
    · by_cases hk : k = i
      · rw [hj, hk]
      · simp only [if_pos hj] at h1
        simp only [if_neg hk] at h2
        exact absurd (h1 ▸ f1 k a h2) hM
    · by_cases hk : k = i
      · simp only [if_neg hj] at h1
        simp only [if_pos hk] at h2
        exact absurd (h2 ▸ f1 j a h1) hM
      · simp only [if_neg hj] at h1
        simp only [if_neg hk] at h2
        exact f2 j k a h1 h2
  · rw [getD_set ds i j _ hi]
    by_cases h' : j = i
    · subst h'
      rw [if_pos rfl, List.getElem?_set_self (by omega)]
      simp only [if_pos]
      exact h
    · rw [if_neg h', List.getElem?_set_ne (fun e => h' e.symm)]
      have := f3 j
      show hold K B F H _ _ (fun a => if j = i then a = p else foot j a)
      simp only [if_neg h']
      exact this
/-- the own thing of slot i changes where it stands -/
theorem Env.chres {B F M H σ} (E : Env K B F M H σ ds) {i : Nat} {p : Addr} {o : HO} {sl : Sl} {foot : Nat → Addr → Prop} (f1 : ∀ i a, foot i a → M a) (f2 : ∀ i j a, foot i a → foot j a → i = j) (f3 : ∀ i, hold K B F H (ds[i]?.getD .no) (σ[i]?) (foot i))
    (hi : i < ds.length) (hm : foot i p) (ho : ∀ xs, o ≠ .tup xs) (h : hold K B F (upd H p o) sl (σ[i]?) (foot i)) : Env K B F M (upd H p o) σ (ds.set i sl) := by
  have hM := f1 i p hm
  have sF : Same F (upd H p o) := same_upd2 E.sF (E.mF p hM)
  refine ⟨by rw [List.length_set, E.len], same_upd2 E.sB (E.mB p hM), sF, E.mB, E.mF, fun a z => ?_, fun a xs z => ?_, foot, f1, f2, fun j => ?_⟩
  · unfold L2.upd
    split
    · exact fun z => nomatch z
    · exact E.mH a z
  · unfold L2.upd
    split
    · exact fun z => ho xs (Option.some.inj z)
    · exact E.mT a xs z
  · rw [getD_set ds i j _ hi]
    by_cases h' : j = i
    · subst h'
      rw [if_pos rfl]
      exact h
    · rw [if_neg h']
      refine (f3 j).mono (Same.refl _) (fun a o ha hz => ?_) E.sF sF
      rw [upd_ne fun z => h' (f2 j i a ha (by rw [z]; exact hm))]
      exact hz
theorem hold.no {B F H : Hp} {s : Option (Option V)} {m : Addr → Prop} : hold K B F H .no s m := trivial

def kyP (k : PP) : List L2.Key := [Sum.inl k.1, Sum.inl k.2]
theorem kyP_inj (a b : PP) (h : kyP a = kyP b) : a = b := by
  obtain ⟨a1, a2⟩ := a
  obtain ⟨b1, b2⟩ := b
  unfold kyP at h
  simp only [List.cons.injEq, Sum.inl.injEq, and_true] at h
  rw [h.1, h.2]
def rLenDK : List V → Hp → VK → Prop := fun xs H Q => ∃ a kvs, xs = [V.ref a] ∧ H a = some (.dK kvs) ∧ Q (.int (kvs.length : Nat)) H
theorem c_lenD {X : Cx} : CallR X (.builtin "len") rLenDK := call_lenD

/-! ### keys that are whole numbers -/
theorem sv_dnewI {i : Nat} {o : Option τ} (hi : i < ds.length) (k : SvO K (ds.set i (.di (emD ([] : List (Int × β))))) u o out) : SvO K ds (tSeq (tAsg tDNewK (gName i)) u) o out := by
  intro x hx B F M H σ D E fin
  intro p hp
  have e : Ext F H F (upd H p (diO [])) := Ext.new0 E.sF hp
  have E' := E.ext e
  refine k x hx B F _ _ _ D (E'.setnew hi (none_of_same E.sB hp) (none_of_same E.sF hp) (fun z => E.mH p z hp) (by show upd H p (diO []) p ≠ none; rw [upd_same]; exact fun z => nomatch z) (fun xs => by show upd H p (diO []) p ≠ some (.tup xs); rw [upd_same]; exact fun z => nomatch z) ⟨p, [], rfl, upd_same, .nil, rfl⟩) (fin.step ⟨e.sF, fun a z => .inl z, fun b o z _ => e.sH b o z, fun a z => ?_⟩)
  rcases z with z | rfl
  · exact .inl z
  · exact .inr hp
theorem sv_dputI {i : Nat} {kvs : List (Int × β)} {o : Option β} {ok : Option Int} {r : List (Int × β) → Option τ} (hi : i < ds.length) (hx : ds[i]? = some (.di (emD kvs))) (h : EvO K ds .f te o) (hk : EvO K ds m tb ok) (k : ∀ ys : List (Int × β), SvO K (ds.set i (.di (emD ys))) u (r ys) out) :
    SvO K ds (tSeq (sDPut (tVar i) tb te) u) ((o.bind fun x => ok.bind fun k => odput kvs k x).bind r) out := by
  intro x hx2 B F M H σ D E fin
  obtain ⟨ys, e1, e2⟩ := bind_some' hx2
  obtain ⟨y, e3, e4⟩ := bind_some' e1
  obtain ⟨kk, e5, e6⟩ := bind_some' e4
  obtain ⟨foot, f1, f2, f3⟩ := id E.ft
  have h3 := f3 i
  rw [hx] at h3
  obtain ⟨p, kv, e, hp, r1, hm⟩ := h3
  refine h y e3 B F M H σ _ E fun v F' H' x r2 => ⟨.ref p, e, hk kk e5 B F' M H' σ _ (E.ext x) fun w F2 H2 x2 r4 => ?_⟩
  unfold odput at e6
  split at e6
  · rename_i hl
    cases e6
    have xx := x.trans x2
    have E' := E.ext xx
    have hp' := xx.sH _ _ hp
    have f3' : ∀ i, hold K B F2 H2 (ds[i]?.getD .no) (σ[i]?) (foot i) := fun i => (f3 i).mono xx.sF (fun a o _ z => xx.sH a o z) E.sF xx.sub
    have hlen : kv.length < sizeLine := Nat.lt_of_lt_of_le (by rw [r1.len]; unfold emD; rw [List.length_map]; exact hl) (by decide : 100000 ≤ sizeLine)
    have hput : DPut H2 p w v (upd H2 p (diO (dput kv kk v))) := by
      rw [rp_int r4]
      have e := putK_map (κ' := L2.Key) (f := Sum.inl) (fun a b h => Sum.inl.inj h) kv kk v
      have := DPut.k (H := H2) (a := p) (k := Sum.inl kk) (v := v) (kvs := mapK Sum.inl kv) hp' (by unfold mapK; rw [List.length_map]; exact hlen)
      rw [e] at this
      exact this
    refine ⟨p, upd H2 p (diO (dput kv kk v)), rfl, hput, ?_⟩
    have r3 : KvR F2 (dput kv kk v) (emD (dput kvs kk y)) := by
      rw [← emD_put]
      exact (r1.mono xx.sF).put (r2.mono x2.sF)
    refine k _ _ e2 B F2 M _ σ D (E'.chres f1 f2 f3' hi hm (fun _ z => nomatch z) ⟨p, _, e, upd_same, r3, hm⟩) (fin.step ⟨xx.sF, fun a z => (xx.new a z).imp_right .inl, fun b o z nm => ?_, fun a z => .inl z⟩)
    rw [upd_ne fun q => nm (by rw [q]; exact f1 i p hm)]
    exact xx.sH b o z
  · cases e6
/-- where the dict of a slot stands, own or handed in -/
theorem datI {i : Nat} {kvs : List (Int × PyData)} (hx : ds[i]? = some (.di kvs) ∨ ds[i]? = some (.rdi kvs)) {B F M H σ} (E : Env K B F M H σ ds) : ∃ p kv, σ[i]? = some (some (.ref p)) ∧ H p = some (diO kv) ∧ KvR H kv kvs := by
  rcases hx with hx | hx
  · obtain ⟨_, _, p, kv, e, hp, r, _⟩ := E.at hx
    exact ⟨p, kv, e, hp, r.mono E.sF⟩
  · obtain ⟨_, _, p, kv, e, hp, r⟩ := E.at hx
    exact ⟨p, kv, e, E.sB _ _ hp, r.mono E.sB⟩
theorem dgetI_run {kv : List (Int × V)} {p : Addr} {H : Hp} {w : V} {kk : Int} (hp : H p = some (diO kv)) (r : Rp H w (em kk)) : DGet H p w (dget kv kk) := by
  rw [rp_int r]
  have e := valV_map (κ' := L2.Key) (f := Sum.inl) (fun a b h => Sum.inl.inj h) kv kk
  have := DGet.k (H := H) (a := p) (k := Sum.inl kk) (kvs := mapK Sum.inl kv) hp
  rw [e] at this
  exact this
theorem ev_dinI {i : Nat} {kvs : List (Int × β)} {ok : Option Int} (hx : ds[i]? = some (.di (emD kvs)) ∨ ds[i]? = some (.rdi (emD kvs))) (hk : EvO K ds m tb ok) : EvO K ds .f (tDIn tb (tVar i)) (odin ok kvs) := by
  intro z hz B F M H σ Q E q
  cases ok with
  | none => cases hz
  | some kk =>
    cases hz
    refine hk kk rfl B F M H σ _ E fun w F' H' x r => ?_
    obtain ⟨p, kv, e, hp, rk⟩ := datI hx (E.ext x)
    refine ⟨.ref p, e, p, _, rfl, dgetI_run hp (r.mono (hp_H (E.ext x))), ?_⟩
    have : (dget kv kk).isSome = (dget kvs kk).isSome := by
      have g := emD_get kvs kk
      rcases rk.get kk with ⟨a, b⟩ | ⟨v, d, a, b, _⟩
      · rw [a]; rw [b] at g; cases h : dget kvs kk with
        | none => rfl
        | some y => rw [h] at g; cases g
      · rw [a]; rw [b] at g; cases h : dget kvs kk with
        | none => rw [h] at g; cases g
        | some y => rfl
    rw [this]
    exact q _ F' H' x (.bl _)
theorem ev_dninI {i : Nat} {kvs : List (Int × β)} {ok : Option Int} (hx : ds[i]? = some (.di (emD kvs)) ∨ ds[i]? = some (.rdi (emD kvs))) (hk : EvO K ds m tb ok) : EvO K ds .f (tDNotIn tb (tVar i)) (odnin ok kvs) := by
  intro z hz B F M H σ Q E q
  cases ok with
  | none => cases hz
  | some kk =>
    cases hz
    refine hk kk rfl B F M H σ _ E fun w F' H' x r => ?_
    obtain ⟨p, kv, e, hp, rk⟩ := datI hx (E.ext x)
    refine ⟨.ref p, e, p, _, rfl, dgetI_run hp (r.mono (hp_H (E.ext x))), ?_⟩
    have : (dget kv kk).isSome = (dget kvs kk).isSome := by
      have g := emD_get kvs kk
      rcases rk.get kk with ⟨a, b⟩ | ⟨v, d, a, b, _⟩
      · rw [a]; rw [b] at g; cases h : dget kvs kk with
        | none => rfl
        | some y => rw [h] at g; cases g
      · rw [a]; rw [b] at g; cases h : dget kvs kk with
        | none => rw [h] at g; cases g
        | some y => rfl
    rw [this]
    exact q _ F' H' x (.bl _)
/-- d[k], of an own dict | of one that is handed in -/
theorem ev_dgetI {i : Nat} {kvs : List (Int × β)} {ok : Option Int} (hx : ds[i]? = some (.di (emD kvs))) (hk : EvO K ds m tb ok) : EvO K ds .f (tDGet (tVar i) tb) (odget kvs ok) := by
  intro z hz B F M H σ Q E q
  obtain ⟨kk, e1, e2⟩ := bind_some' hz
  obtain ⟨_, _, p, kv, e, hp, r1, _⟩ := E.at hx
  refine ⟨.ref p, e, hk kk e1 B F M H σ _ E fun w F' H' x r => ?_⟩
  have E' := E.ext x
  have g := emD_get kvs kk
  rw [e2] at g
  rcases (r1.mono x.sF).get kk with ⟨a, b⟩ | ⟨v, d, a, b, rv⟩
  · rw [b] at g; cases g
  · rw [b] at g
    cases g
    have dg := dgetI_run (x.sH _ _ hp) (r.mono (hp_H E'))
    rw [a] at dg
    exact ⟨p, v, rfl, dg, q v F' H' x rv⟩
theorem ev_dgetRI {i : Nat} {kvs : List (Int × β)} {ok : Option Int} (hx : ds[i]? = some (.rdi (emD kvs))) (hk : EvO K ds m tb ok) : EvO K ds .b (tDGet (tVar i) tb) (odget kvs ok) := by
  intro z hz B F M H σ Q E q
  obtain ⟨kk, e1, e2⟩ := bind_some' hz
  obtain ⟨_, _, p, kv, e, hp, r1⟩ := E.at hx
  refine ⟨.ref p, e, hk kk e1 B F M H σ _ E fun w F' H' x r => ?_⟩
  have E' := E.ext x
  have g := emD_get kvs kk
  rw [e2] at g
  rcases r1.get kk with ⟨a, b⟩ | ⟨v, d, a, b, rv⟩
  · rw [b] at g; cases g
  · rw [b] at g
    cases g
    have dg := dgetI_run (E'.sB _ _ hp) (r.mono (hp_H E'))
    rw [a] at dg
    exact ⟨p, v, rfl, dg, q v F' H' x rv⟩
theorem ev_dlenI {i : Nat} {kvs : List (Int × β)} (hx : ds[i]? = some (.di (emD kvs)) ∨ ds[i]? = some (.rdi (emD kvs))) : EvO K ds .f (tCB rLenDK (tCons (tVar i) tNil)) (some (kvs.length : Int)) := by
  intro z hz B F M H σ Q E q
  cases hz
  obtain ⟨p, kv, e, hp, rk⟩ := datI hx E
  refine ⟨.ref p, e, p, _, rfl, hp, ?_⟩
  have : ((List.map (fun x : Int × V => ((Sum.inl x.1 : L2.Key), x.2)) kv).length : Int) = (kvs.length : Int) := by
    have := rk.len
    unfold emD at this
    rw [List.length_map] at this
    rw [List.length_map, this]
  rw [this]
  exact q _ F H (Ext.refl E.sF) (.int _)
theorem ea_dI {tr : TA} {i : Nat} {kvs : List (Int × β)} {os : Option τ} {A : τ → List Ar} (hx : ds[i]? = some (.di (emD kvs)) ∨ ds[i]? = some (.rdi (emD kvs))) (hr : EvA K ds tr os A) : EvA K ds (tCons (tVar i) tr) (oarg (some kvs) os) fun t => .di (emD t.1) :: A t.2 := fun t ht B F M H σ Q E q => by
  obtain ⟨x, y, e1, e2, e3⟩ := obin_some ht
  cases e3
  cases e1
  obtain ⟨p, kv, e, hp, rk⟩ := datI hx E
  exact ⟨.ref p, e, hr y e2 B F M H σ _ E fun vs F2 H2 x2 r2 => q _ F2 H2 x2 ⟨⟨p, kv, rfl, x2.sH _ _ hp, rk.mono x2.sH⟩, r2⟩⟩

/-! ### keys that are pairs -/
theorem sv_dnewP {i : Nat} {o : Option τ} (hi : i < ds.length) (k : SvO K (ds.set i (.dp (emD ([] : List (PP × β))))) u o out) : SvO K ds (tSeq (tAsg tDNewT (gName i)) u) o out := by
  intro x hx B F M H σ D E fin
  intro p hp
  have e : Ext F H F (upd H p (dpO [])) := Ext.new0 E.sF hp
  have E' := E.ext e
  refine k x hx B F _ _ _ D (E'.setnew hi (none_of_same E.sB hp) (none_of_same E.sF hp) (fun z => E.mH p z hp) (by show upd H p (dpO []) p ≠ none; rw [upd_same]; exact fun z => nomatch z) (fun xs => by show upd H p (dpO []) p ≠ some (.tup xs); rw [upd_same]; exact fun z => nomatch z) ⟨p, [], rfl, upd_same, .nil, rfl⟩) (fin.step ⟨e.sF, fun a z => .inl z, fun b o z _ => e.sH b o z, fun a z => ?_⟩)
  rcases z with z | rfl
  · exact .inl z
  · exact .inr hp
theorem sv_dputP {i : Nat} {kvs : List (PP × β)} {o : Option β} {ok : Option PP} {r : List (PP × β) → Option τ} (hi : i < ds.length) (hx : ds[i]? = some (.dp (emD kvs))) (h : EvO K ds .f te o) (hk : EvO K ds m tb ok) (k : ∀ ys : List (PP × β), SvO K (ds.set i (.dp (emD ys))) u (r ys) out) :
    SvO K ds (tSeq (sDPut (tVar i) tb te) u) ((o.bind fun x => ok.bind fun k => odput kvs k x).bind r) out := by
  intro x hx2 B F M H σ D E fin
  obtain ⟨ys, e1, e2⟩ := bind_some' hx2
  obtain ⟨y, e3, e4⟩ := bind_some' e1
  obtain ⟨kk, e5, e6⟩ := bind_some' e4
  obtain ⟨foot, f1, f2, f3⟩ := id E.ft
  have h3 := f3 i
  rw [hx] at h3
  obtain ⟨p, kv, e, hp, r1, hm⟩ := h3
  refine h y e3 B F M H σ _ E fun v F' H' x r2 => ⟨.ref p, e, hk kk e5 B F' M H' σ _ (E.ext x) fun w F2 H2 x2 r4 => ?_⟩
  unfold odput at e6
  split at e6
  · rename_i hl
    cases e6
    have xx := x.trans x2
    have E' := E.ext xx
    have hp' := xx.sH _ _ hp
    have f3' : ∀ i, hold K B F2 H2 (ds[i]?.getD .no) (σ[i]?) (foot i) := fun i => (f3 i).mono xx.sF (fun a o _ z => xx.sH a o z) E.sF xx.sub
    have hlen : kv.length < sizeLine := Nat.lt_of_lt_of_le (by rw [r1.len]; unfold emD; rw [List.length_map]; exact hl) (by decide : 100000 ≤ sizeLine)
    have hput : DPut H2 p w v (upd H2 p (dpO (dput kv kk v))) := by
      obtain ⟨b, x1, x2', rfl, hb, ra, rb⟩ := rp_pair (r4.mono (hp_H E'))
      rw [rp_int ra, rp_int rb] at hb
      have e := putK_map (κ' := List L2.Key) (f := kyP) kyP_inj kv kk v
      have := DPut.t (H := H2) (a := p) (b := b) (k := kyP kk) (v := v) (kvs := mapK kyP kv) hp' hb (by unfold mapK; rw [List.length_map]; exact hlen)
      rw [e] at this
      exact this
    refine ⟨p, upd H2 p (dpO (dput kv kk v)), rfl, hput, ?_⟩
    have r3 : KvR F2 (dput kv kk v) (emD (dput kvs kk y)) := by
      rw [← emD_put]
      exact (r1.mono xx.sF).put (r2.mono x2.sF)
    refine k _ _ e2 B F2 M _ σ D (E'.chres f1 f2 f3' hi hm (fun _ z => nomatch z) ⟨p, _, e, upd_same, r3, hm⟩) (fin.step ⟨xx.sF, fun a z => (xx.new a z).imp_right .inl, fun b o z nm => ?_, fun a z => .inl z⟩)
    rw [upd_ne fun q => nm (by rw [q]; exact f1 i p hm)]
    exact xx.sH b o z
  · cases e6
/-- where the dict of a slot stands, own or handed in -/
theorem datP {i : Nat} {kvs : List (PP × PyData)} (hx : ds[i]? = some (.dp kvs) ∨ ds[i]? = some (.rdp kvs)) {B F M H σ} (E : Env K B F M H σ ds) : ∃ p kv, σ[i]? = some (some (.ref p)) ∧ H p = some (dpO kv) ∧ KvR H kv kvs := by
  rcases hx with hx | hx
  · obtain ⟨_, _, p, kv, e, hp, r, _⟩ := E.at hx
    exact ⟨p, kv, e, hp, r.mono E.sF⟩
  · obtain ⟨_, _, p, kv, e, hp, r⟩ := E.at hx
    exact ⟨p, kv, e, E.sB _ _ hp, r.mono E.sB⟩
theorem dgetP_run {kv : List (PP × V)} {p : Addr} {H : Hp} {w : V} {kk : PP} (hp : H p = some (dpO kv)) (r : Rp H w (em kk)) : DGet H p w (dget kv kk) := by
  obtain ⟨b, x1, x2', rfl, hb, ra, rb⟩ := rp_pair r
  rw [rp_int ra, rp_int rb] at hb
  have e := valV_map (κ' := List L2.Key) (f := kyP) kyP_inj kv kk
  have := DGet.t (H := H) (a := p) (b := b) (k := kyP kk) (kvs := mapK kyP kv) hp hb
  rw [e] at this
  exact this
theorem ev_dinP {i : Nat} {kvs : List (PP × β)} {ok : Option PP} (hx : ds[i]? = some (.dp (emD kvs)) ∨ ds[i]? = some (.rdp (emD kvs))) (hk : EvO K ds m tb ok) : EvO K ds .f (tDIn tb (tVar i)) (odin ok kvs) := by
  intro z hz B F M H σ Q E q
  cases ok with
  | none => cases hz
  | some kk =>
    cases hz
    refine hk kk rfl B F M H σ _ E fun w F' H' x r => ?_
    obtain ⟨p, kv, e, hp, rk⟩ := datP hx (E.ext x)
    refine ⟨.ref p, e, p, _, rfl, dgetP_run hp (r.mono (hp_H (E.ext x))), ?_⟩
    have : (dget kv kk).isSome = (dget kvs kk).isSome := by
      have g := emD_get kvs kk
      rcases rk.get kk with ⟨a, b⟩ | ⟨v, d, a, b, _⟩
      · rw [a]; rw [b] at g; cases h : dget kvs kk with
        | none => rfl
        | some y => rw [h] at g; cases g
      · rw [a]; rw [b] at g; cases h : dget kvs kk with
        | none => rw [h] at g; cases g
        | some y => rfl
    rw [this]
    exact q _ F' H' x (.bl _)
theorem ev_dninP {i : Nat} {kvs : List (PP × β)} {ok : Option PP} (hx : ds[i]? = some (.dp (emD kvs)) ∨ ds[i]? = some (.rdp (emD kvs))) (hk : EvO K ds m tb ok) : EvO K ds .f (tDNotIn tb (tVar i)) (odnin ok kvs) := by
  intro z hz B F M H σ Q E q
  cases ok with
  | none => cases hz
  | some kk =>
    cases hz
    refine hk kk rfl B F M H σ _ E fun w F' H' x r => ?_
    obtain ⟨p, kv, e, hp, rk⟩ := datP hx (E.ext x)
    refine ⟨.ref p, e, p, _, rfl, dgetP_run hp (r.mono (hp_H (E.ext x))), ?_⟩
    have : (dget kv kk).isSome = (dget kvs kk).isSome := by
      have g := emD_get kvs kk
      rcases rk.get kk with ⟨a, b⟩ | ⟨v, d, a, b, _⟩
      · rw [a]; rw [b] at g; cases h : dget kvs kk with
        | none => rfl
        | some y => rw [h] at g; cases g
      · rw [a]; rw [b] at g; cases h : dget kvs kk with
        | none => rw [h] at g; cases g
        | some y => rfl
    rw [this]
    exact q _ F' H' x (.bl _)
/-- d[k], of an own dict | of one that is handed in -/
theorem ev_dgetP {i : Nat} {kvs : List (PP × β)} {ok : Option PP} (hx : ds[i]? = some (.dp (emD kvs))) (hk : EvO K ds m tb ok) : EvO K ds .f (tDGet (tVar i) tb) (odget kvs ok) := by
  intro z hz B F M H σ Q E q
  obtain ⟨kk, e1, e2⟩ := bind_some' hz
  obtain ⟨_, _, p, kv, e, hp, r1, _⟩ := E.at hx
  refine ⟨.ref p, e, hk kk e1 B F M H σ _ E fun w F' H' x r => ?_⟩
  have E' := E.ext x
  have g := emD_get kvs kk
  rw [e2] at g
  rcases (r1.mono x.sF).get kk with ⟨a, b⟩ | ⟨v, d, a, b, rv⟩
  · rw [b] at g; cases g
  · rw [b] at g
    cases g
    have dg := dgetP_run (x.sH _ _ hp) (r.mono (hp_H E'))
    rw [a] at dg
    exact ⟨p, v, rfl, dg, q v F' H' x rv⟩
theorem ev_dgetRP {i : Nat} {kvs : List (PP × β)} {ok : Option PP} (hx : ds[i]? = some (.rdp (emD kvs))) (hk : EvO K ds m tb ok) : EvO K ds .b (tDGet (tVar i) tb) (odget kvs ok) := by
  intro z hz B F M H σ Q E q
  obtain ⟨kk, e1, e2⟩ := bind_some' hz
  obtain ⟨_, _, p, kv, e, hp, r1⟩ := E.at hx
  refine ⟨.ref p, e, hk kk e1 B F M H σ _ E fun w F' H' x r => ?_⟩
  have E' := E.ext x
  have g := emD_get kvs kk
  rw [e2] at g
  rcases r1.get kk with ⟨a, b⟩ | ⟨v, d, a, b, rv⟩
  · rw [b] at g; cases g
  · rw [b] at g
    cases g
    have dg := dgetP_run (E'.sB _ _ hp) (r.mono (hp_H E'))
    rw [a] at dg
    exact ⟨p, v, rfl, dg, q v F' H' x rv⟩
theorem ev_dlenP {i : Nat} {kvs : List (PP × β)} (hx : ds[i]? = some (.dp (emD kvs)) ∨ ds[i]? = some (.rdp (emD kvs))) : EvO K ds .f (tCB rLenT (tCons (tVar i) tNil)) (some (kvs.length : Int)) := by
  intro z hz B F M H σ Q E q
  cases hz
  obtain ⟨p, kv, e, hp, rk⟩ := datP hx E
  refine ⟨.ref p, e, p, _, rfl, hp, ?_⟩
  have : ((List.map (fun x : PP × V => (([Sum.inl x.1.1, Sum.inl x.1.2] : List L2.Key), x.2)) kv).length : Int) = (kvs.length : Int) := by
    have := rk.len
    unfold emD at this
    rw [List.length_map] at this
    rw [List.length_map, this]
  rw [this]
  exact q _ F H (Ext.refl E.sF) (.int _)
theorem ea_dP {tr : TA} {i : Nat} {kvs : List (PP × β)} {os : Option τ} {A : τ → List Ar} (hx : ds[i]? = some (.dp (emD kvs)) ∨ ds[i]? = some (.rdp (emD kvs))) (hr : EvA K ds tr os A) : EvA K ds (tCons (tVar i) tr) (oarg (some kvs) os) fun t => .dp (emD t.1) :: A t.2 := fun t ht B F M H σ Q E q => by
  obtain ⟨x, y, e1, e2, e3⟩ := obin_some ht
  cases e3
  cases e1
  obtain ⟨p, kv, e, hp, rk⟩ := datP hx E
  exact ⟨.ref p, e, hr y e2 B F M H σ _ E fun vs F2 H2 x2 r2 => q _ F2 H2 x2 ⟨⟨p, kv, rfl, x2.sH _ _ hp, rk.mono x2.sH⟩, r2⟩⟩
end
end Tw
/-! sorted over a dict with tuple keys; in over a tuple; slices with a step; tuples joined. -/
namespace TwL
open PySem PySem.W PySem.Calls PyProof.Rows PyProof.V PySem.Spec
section
variable {prog : Program} {w : World} {A : Around} {E : Value → Shared → Prop} {s : Shared} {d : Addr} {es : Array DictEntry} {ep : Nat}
theorem walks_raw (hh : A.handled = none) (I d : Addr) (hne : d ≠ I) (es : Array DictEntry) (ep : Nat) :
    Walks prog w A I [I, d] [I] es.size (fun i v => ∃ en, es[i]? = some en ∧ en.key = v) (fun i h => h.IsKeyIter I d i es.size ep ∧ DT.Raw h d es ep) where
  sub := fun b hb => by simp at hb; simp [hb]
  frame := fun _ _ _ st hk => ⟨st.1.at fun o e => hk I (by simp) o e, st.2.at' fun o e => hk d (by simp) o e⟩
  item := fun i s Q E hi st hQ => by
    obtain ⟨o, ho, hx, hdt⟩ := id st.2
    refine L2.next_key_item st.1 ho hdt rfl (en := es[i]) (by simp [hi]) fun h' st' sb => ?_
    exact hQ es[i].key h' s.toks ⟨es[i], by simp [hi], rfl⟩ ⟨st', st.2.at' fun o e => (sb.2 d hne).trans e⟩ fun b o hb e => (sb.2 b (fun h => hb (by simp [h]))).trans e
  done := fun s Q E st hQ => by
    obtain ⟨o, ho, hx, hdt⟩ := id st.2
    exact L2.next_key_end hh st.1 ho hdt rfl (Nat.le_refl _) fun h' he' => hQ h' s.toks fun b o hb e => he' b o (fun h => hb (by simp [h])) e
  self := fun _ _ _ _ st hQ => wpAny_pyIter_keyiter st.1 hQ
theorem kdl_raw (lo : (d == sysModules) = false) : KdlSrc prog w "dict" d d es.size (fun i v => ∃ en, es[i]? = some en ∧ en.key = v) (fun h => DT.Raw h d es ep) where
  type := fun _ hm => hm.typeIs
  there := fun _ hm => ⟨hm.lt, hm.lt⟩
  keep := fun _ _ hm hk => hm.at' fun o e => hk d (.inl rfl) o e
  notList := by decide
  notTuple := by decide
  hint := fun _ _ _ _ hm hq => kdl_hint_dict hm.typeIs hq
  iter := fun A s hh hm => by
    obtain ⟨o, ho, hx, hdt⟩ := id hm
    exact ⟨_, _, (fun _ _ hq => L2.iter_keys lo ho hx hdt hq), walks_raw hh _ d (Nat.ne_of_lt hm.lt) es ep, ⟨⟨_, Heap.get?_push_size _ rfl, rfl, rfl⟩, hm.push _⟩⟩
end
end TwL
namespace L2
open PySem PySem.Spec PyProof.Rows
/-- the items that a slice with a step takes -/
def pickG {α : Type} (xs : List α) (lo hi st : Option Int) : List α := (sliceRange (sliceBounds lo hi st xs.length).1 (sliceBounds lo hi st xs.length).2.1 (sliceBounds lo hi st xs.length).2.2).filterMap fun i => xs[i]?
theorem pickG_map {α β : Type} (f : α → β) (xs : List α) (lo hi st : Option Int) : pickG (xs.map f) lo hi st = (pickG xs lo hi st).map f := by
  unfold pickG
  rw [List.length_map, List.map_filterMap]
  congr 1
  funext i
  rw [List.getElem?_map]
theorem vals_filter {xs : List V} {us : List Value} (r : Vals xs us) : ∀ js : List Nat, Vals (js.filterMap fun i => xs[i]?) (js.filterMap fun i => us[i]?)
  | [] => .nil
  | j :: js => by
    rw [List.filterMap_cons, List.filterMap_cons]
    cases e : xs[j]? with
    | none =>
      rw [r.none_of e]
      exact vals_filter r js
    | some x =>
      obtain ⟨u, e2, h⟩ := r.get e
      rw [e2]
      exact .cons h (vals_filter r js)
theorem pickG_vals {xs : List V} {us : List Value} (r : Vals xs us) (lo hi st : Option Int) : Vals (pickG xs lo hi st) (slicePick us.toArray lo hi st).toList := by
  unfold pickG slicePick
  rw [List.size_toArray, r.length]
  have := vals_filter r (sliceRange (sliceBounds lo hi st us.length).1 (sliceBounds lo hi st us.length).2.1 (sliceBounds lo hi st us.length).2.2)
  simpa using this
theorem pickG_len {α : Type} (xs : List α) (lo hi st : Option Int) : (pickG xs lo hi st).length ≤ xs.length := by
  have h := slicePick_size_le (xs.map fun _ => Value.none).toArray lo hi st
  have e : (slicePick (xs.map fun _ => Value.none).toArray lo hi st).size = (pickG (xs.map fun _ => Value.none) lo hi st).length := by
    unfold slicePick pickG
    simp
  rw [e, pickG_map, List.length_map, List.size_toArray, List.length_map] at h
  exact h
def tSl3 (K : PySem.W.Frag) (te : TE) (tl th ts : TO) : TE := fun σ H Q => te σ H fun x H1 => tl σ H1 fun l H2 => th σ H2 fun u H3 => ts σ H3 fun o H4 => o ≠ some 0 ∧ ∃ a xs, x = .ref a ∧ SqL K H4 a xs ∧ ∀ p, H4 p = none → Q (.ref p) (upd H4 p (.lst (pickG xs l u o)))
section
variable {X : Cx}
theorem pe_slice3 {e es : Expr} {lo hi : Option Expr} {te : TE} {tl th ts : TO} {p2 pos : Pos} (he : PE X e te) (hl : PO X lo tl) (hu : PO X hi th) (hst : PO X (some es) ts) : PE X (.Subscript e (.Slice lo hi (some es) p2) pos) (tSl3 X.K te tl th ts) := by
  refine ⟨fun pins s σ H Q I h => ?_⟩
  refine Subscript_ (thn (he.run pins s σ H _ I h) fun v s1 ⟨x, H1, I1, r1, q1⟩ => ?_)
  refine wpAny_Slice (thn (hl.run pins s1 σ H1 _ I1 q1) fun vl s2 ⟨l, H2, I2, pl, q2⟩ => thn (hu.run pins s2 σ H2 _ I2 q2) fun vu s3 ⟨u, H3, I3, pu, q3⟩ => thn (hst.run pins s3 σ H3 _ I3 q3) fun vs s4 ⟨o, H4, I4, ps, q4⟩ => ?_)
  obtain ⟨h0, a, xs, ex, hx, q⟩ := q4
  subst ex
  cases r1
  have I5 : Inv X pins σ H4 { s4 with heap := s4.heap.push { cls := .type "slice", data := .fields #[vl, vu, vs] } } := I4.kept (t' := s4.toks) fun b ob q => Heap.get?_push_of_some _ q
  obtain ⟨its, r, ht, hz⟩ := I5.list hx
  have hlen := r.length
  show wpAny (model X.prog X.w) X.A (subscriptTail e (.Slice lo hi (some es) p2) (.ref a) (.ref s4.heap.objs.size)) (EP X pins σ Q) X.xe { s4 with heap := s4.heap.push { cls := .type "slice", data := .fields #[vl, vu, vs] } }
  refine tail_any (ops := [.ref a, .ref s4.heap.objs.size]) ht.isList.typeIs (PySem.slot_list_getitem.lookup) ?_ (by with_unfolding_all rfl)
  refine wpAny_getItem_list_slice ht.isList (Heap.IsSliceOf.new _ vl vu vs) pl pu ps h0 ?_ (by rw [List.size_toArray]; omega)
  refine ⟨.ref _, _, I5.laid (t' := s4.toks) (o := .lst (pickG xs l u o)) (fun b ob q => Heap.get?_push_of_some _ q) (Nat.le_refl _) ?_, rfl, q _ (I5.hok.fresh (Nat.le_refl _))⟩
  exact ⟨Nat.le_trans (pickG_len xs l u o) hz, _, 0, pickG_vals r l u o, Heap.get?_push_size _ rfl⟩
/-- x in a tuple, data of any depth -/
def rInTD (K : PySem.W.Frag) : R2 := fun x y H Q => ∃ d ds, Dp K H x d ∧ Dp K H y (.tuple ds) ∧ SeqAt.shaped d = true ∧ SeqAt.shaped (.tuple ds) = true ∧ Q (.bl (ds.any fun z => PyData.eqv z d)) H
theorem op_inTD (hu : X.A.units + 65 < cLine) : OpR X (compareOp .In) (rInTD X.K) := by
  intro pins s σ H x y v u Q I rx ry h
  obtain ⟨d, ds, hd, he, sd, se, q⟩ := h
  obtain ⟨as, r1⟩ := Dp.reads I d x v hd rx
  obtain ⟨bs, r2⟩ := Dp.reads I (.tuple ds) y u he ry
  exact SeqAt.in_tuple_reads r2 r1 (SeqAt.canLay_of_shaped se) (SeqAt.canLay_of_shaped sd) (room_in_shaped sd hu) ⟨.bl _, H, I, rfl, q⟩
end
end L2

namespace Tw
open PySem L2
def ostep {α : Type} (o : Option (List α)) (lo hi st : Option (Option Int)) : Option (List α) := o.bind fun xs => lo.bind fun l => hi.bind fun h => st.bind fun k => if k ≠ some 0 then some (pickG xs l h k) else none
def oint2 {α : Type} [Em α] (a : Option α) (b : Option (α × α)) : Option Bool := obin (fun x y => some (PyData.eqv (em y.1) (em x) || PyData.eqv (em y.2) (em x))) a b
theorem rpa_filter {H : Hp} {vs : List V} {ds : List PyData} (r : RpA H vs ds) : ∀ js : List Nat, RpA H (js.filterMap fun i => vs[i]?) (js.filterMap fun i => ds[i]?)
  | [] => .nil
  | j :: js => by
    rw [List.filterMap_cons, List.filterMap_cons]
    cases e : ds[j]? with
    | none =>
      have e2 : vs[j]? = none := by
        rw [List.getElem?_eq_none_iff] at e ⊢
        rw [r.len]; exact e
      rw [e2]
      exact rpa_filter r js
    | some x =>
      obtain ⟨u, e2, h⟩ := r.get e
      rw [e2]
      exact .cons h (rpa_filter r js)
theorem RpA.pick {H : Hp} {vs : List V} {ds : List PyData} (r : RpA H vs ds) (lo hi st : Option Int) : RpA H (pickG vs lo hi st) (pickG ds lo hi st) := by
  unfold pickG
  rw [r.len]
  exact rpa_filter r _
/-- a tuple of two own lists -/
def own2 (ds es : List PyData) : Rs where
  h := fun F H v M => ∃ p l1 l2 ws us, v = .ref p ∧ F p = some (.tup [.ref l1, .ref l2]) ∧ l1 ≠ l2 ∧ M l1 ∧ M l2 ∧ H l1 = some (.lst ws) ∧ H l2 = some (.lst us) ∧ RpA F ws ds ∧ RpA F us es
  mono := fun {F H F' H' v M} sF kp s1 s2 ⟨p, l1, l2, ws, us, e, hp, hn, m1, m2, h1, h2, r1, r2⟩ => ⟨p, l1, l2, ws, us, e, sF _ _ hp, hn, m1, m2, kp _ _ m1 h1, kp _ _ m2 h2, r1.mono sF, r2.mono sF⟩
def EvL2 (K : PySem.W.Frag) (ds : List Sl) (te : TE) {α β : Type} [Em α] [Em β] (o : Option (List α × List β)) : Prop := ∀ xs, o = some xs →
  ∀ B F M H σ Q, Env K B F M H σ ds → (∀ p l1 l2 ws us F' H', Ext F H F' H' → F' p = some (.tup [.ref l1, .ref l2]) → l1 ≠ l2 → F' l1 = none → F' l2 = none → H l1 = none → H l2 = none → H' l1 = some (.lst ws) → H' l2 = some (.lst us) → RpA F' ws (xs.1.map em) → RpA F' us (xs.2.map em) → Q (.ref p) H') → te σ H Q
def spT (K : PySem.W.Frag) {τ α β : Type} [Em α] [Em β] (A : τ → List Ar) (f : τ → Option (List α × List β)) : Sp := fun vs H Q _ => ∃ F t b, Same F H ∧ AOk K F H vs (A t) ∧ f t = some b ∧
  ∀ p l1 l2 ws us F' H', Ext F H F' H' → F' p = some (.tup [.ref l1, .ref l2]) → l1 ≠ l2 → F' l1 = none → F' l2 = none → H l1 = none → H l2 = none → H' l1 = some (.lst ws) → H' l2 = some (.lst us) → RpA F' ws (b.1.map em) → RpA F' us (b.2.map em) → Q (.ref p) H'
section
variable {K : PySem.W.Frag} {ds es : List Sl} {ta tb tc te : TE} {tr : TA} {t u w : TS} {g : TG} {m m1 m2 : Md} {α β γ τ : Type} [Em α] [Em β] [Em γ] {out : τ → Out}
theorem ev_join {o : Option (Option α)} (h : EvO K ds m te o) : EvO K ds m te (o.bind id) := fun x hx => by
  cases o with
  | none => cases hx
  | some y => cases (show y = some x from hx); exact h _ rfl
theorem el_step [Scl α] {tl th ts : TO} {o : Option (List α)} {ol oh os : Option (Option Int)} (h : EvO K ds m te o) (hl : EvB K ds tl ol) (hh : EvB K ds th oh) (hs : EvB K ds ts os) : EvL K ds (L2.tSl3 K te tl th ts) (ostep o ol oh os) := by
  intro zs hz B F M H σ Q E q
  obtain ⟨xs, e1, hz⟩ := bind_some' hz
  obtain ⟨l, e2, hz⟩ := bind_some' hz
  obtain ⟨u, e3, hz⟩ := bind_some' hz
  obtain ⟨k, e4, hz⟩ := bind_some' hz
  split at hz
  · rename_i hk
    cases hz
    refine h xs e1 B F M H σ _ E fun v F1 H1 x1 r1 => ?_
    obtain ⟨p, vs, rfl, hp, ra⟩ := rp_list r1
    have E1 := E.ext x1
    refine hl l e2 B F1 M H1 σ _ E1 fun F2 H2 x2 => hh u e3 B F2 M H2 σ _ (E1.ext x2) fun F3 H3 x3 => hs k e4 B F3 M H3 σ _ ((E1.ext x2).ext x3) fun F4 H4 x4 => ?_
    have X := (x1.trans x2).trans (x3.trans x4)
    have X1 := x2.trans (x3.trans x4)
    have E4 := ((E1.ext x2).ext x3).ext x4
    refine ⟨hk, p, vs, rfl, SqL.of (X1.sH _ _ (hp_H E1 _ _ hp)), fun n hn => q n _ F4 _ (X.trans (Ext.new0 E4.sF hn)) (none_of_same E4.sF hn) (none_of_same X.sH hn) upd_same ?_⟩
    rw [← pickG_map]
    exact (conv_sc (H' := F4) ra).pick l u k
  · cases hz
theorem ev_inT2 [Shp α] {o1 : Option α} {o2 : Option (α × α)} (l : Shp.dep α + 1 ≤ 64) (h1 : EvO K ds m1 ta o1) (h2 : EvO K ds m2 tb o2) : EvO K ds .f (tOp (L2.rInTD K) ta tb) (oint2 o1 o2) := by
  intro z hz B F M H σ Q E q
  obtain ⟨x, y, e1, e2, e3⟩ := obin_some hz
  cases e3
  refine ev2 h1 h2 e1 e2 E fun v w F' H' e r1 r2 => ⟨em x, [em y.1, em y.2], (r1.mono (hp_H (E.ext e))).dp K, (r2.mono (hp_H (E.ext e))).dp K, shaped_em (by omega) x, shaped_em (α := α × α) (by show max (Shp.dep α) (Shp.dep α) + 1 ≤ 64; omega) y, ?_⟩
  have := q _ F' H' e (Rp.bl _)
  simpa using this
theorem ev_L2 {o : Option (List α × List β)} (h : EvL2 K ds te o) : EvO K ds .f te o := fun xs hx B F M H σ Q E q =>
  h xs hx B F M H σ Q E fun p l1 l2 ws us F' H' e hp hn h1 h2 k1 k2 g1 g2 r1 r2 => by
    have e1 := e.froze h1 k1 g1
    have h2' : upd F' l1 (.lst ws) l2 = none := by rw [upd_ne (fun z => hn z.symm)]; exact h2
    have e2 := e1.froze h2' k2 g2
    have s1 : Same F' (upd F' l1 (.lst ws)) := same_upd h1
    have s2 : Same (upd F' l1 (.lst ws)) (upd (upd F' l1 (.lst ws)) l2 (.lst us)) := same_upd h2'
    refine q _ _ _ e2 (.tup (s2 _ _ (s1 _ _ hp)) (.cons (.lst (s2 _ _ upd_same) (r1.mono (s1.trans s2))) (.cons (.lst upd_same (r2.mono (s1.trans s2))) .nil)))
theorem el2_call {o : Option τ} {A : τ → List Ar} {f : τ → Option (List α × List β)} {XE : XK} (h : EvA K ds tr o A) : EvL2 K ds (tCall (spT K A f) [] XE tr) (o.bind f) := fun b hb B F M H σ Q E q => by
  obtain ⟨t, e1, e2⟩ := bind_some' hb
  refine h t e1 B F M H σ _ E fun vs F1 H1 x1 a1 => ?_
  show spT K A f (vs ++ []) H1 Q XE
  rw [List.append_nil]
  exact ⟨F1, t, b, x1.sub, a1, e2, fun p l1 l2 ws us F' H' x hp hn h1 h2 k1 k2 => q p l1 l2 ws us F' H' (x1.trans x) hp hn h1 h2 (none_of_same x1.sH k1) (none_of_same x1.sH k2)⟩
theorem ev_own2 {i : Nat} (x : List α × List β) (h : ds[i]? = some (.res (own2 (x.1.map em) (x.2.map em)))) : EvO K ds .h (tVar i) (some x) := by
  intro y hy B F M H σ Q E q
  cases hy
  obtain ⟨m, _, v, e, p, l1, l2, ws, us, rfl, hp, _, _, _, h1, h2, r1, r2⟩ := E.at h
  exact ⟨.ref p, e, q _ F H (Ext.refl E.sF) (.tup (E.sF _ _ hp) (.cons (.lst h1 (r1.mono E.sF)) (.cons (.lst h2 (r2.mono E.sF)) .nil)))⟩
/-- a thing with a footprint is stored -/
theorem Env.setres {B F M H σ} (E : Env K B F M H σ ds) {i : Nat} (hi : i < ds.length) {v : V} {R : Rs} {N : Addr → Prop} (hB : ∀ a, N a → B a = none) (hF : ∀ a, N a → F a = none) (hM : ∀ a, N a → ¬ M a) (hH : ∀ a, N a → H a ≠ none) (hT : ∀ a xs, N a → H a ≠ some (.tup xs)) (r : R.h F H v N) :
    Env K B F (fun a => M a ∨ N a) H (σ.set i (some v)) (ds.set i (.res R)) := by
  obtain ⟨len, sB, sF, mB, mF, mH, mT, foot, f1, f2, f3⟩ := E
  refine ⟨by rw [List.length_set, List.length_set, len], sB, sF, fun a ha => ha.elim (mB a) (hB a), fun a ha => ha.elim (mF a) (hF a), fun a ha => ha.elim (mH a) (hH a), fun a xs ha => ha.elim (mT a xs) (hT a xs), fun j a => if j = i then N a else foot j a, fun j a ha => ?_, fun j k a h1 h2 => ?_, fun j => ?_⟩
  · by_cases h : j = i
    · simp only [if_pos h] at ha; exact .inr ha
    · simp only [if_neg h] at ha; exact .inl (f1 j a ha)
  · by_cases hj : j = i
    · by_cases hk : k = i
      · rw [hj, hk]
      · simp only [if_pos hj] at h1
        simp only [if_neg hk] at h2
        exact absurd (f1 k a h2) (hM a h1)
    · by_cases hk : k = i
      · simp only [if_neg hj] at h1
        simp only [if_pos hk] at h2
        exact absurd (f1 j a h1) (hM a h2)
      · simp only [if_neg hj] at h1
        simp only [if_neg hk] at h2
        exact f2 j k a h1 h2
  · rw [getD_set ds i j _ hi]
    by_cases h : j = i
    · subst h
      rw [if_pos rfl]
      refine ⟨v, List.getElem?_set_self (by omega), ?_⟩
      simp only [if_pos]
      exact r
    · rw [if_neg h, List.getElem?_set_ne (fun e => h e.symm)]
      have := f3 j
      show hold K B F H _ _ (fun a => if j = i then N a else foot j a)
      simp only [if_neg h]
      exact this
theorem sv_asgL2 {i : Nat} {o : Option (List α × List β)} {r : List α × List β → Option τ} (hi : i < ds.length) (h : EvL2 K ds te o) (k : ∀ xs : List α × List β, SvO K (ds.set i (.res (own2 (xs.1.map em) (xs.2.map em)))) u (r xs) out) : SvO K ds (tSeq (tAsg te (gName i)) u) (o.bind r) out := by
  intro x hx B F M H σ D E f
  obtain ⟨y, e1, e2⟩ := bind_some' hx
  refine h y e1 B F M H σ _ E fun p l1 l2 ws us F' H' e hp hn h1 h2 k1 k2 g1 g2 r1 r2 => ?_
  have E' := E.ext e
  refine k y x e2 B F' _ H' _ D (E'.setres hi (N := fun a => a = l1 ∨ a = l2) ?_ ?_ ?_ ?_ ?_ ⟨p, l1, l2, ws, us, rfl, hp, hn, .inl rfl, .inr rfl, g1, g2, r1, r2⟩) (f.step ⟨e.sF, fun a z => (e.new a z).imp_right .inl, fun b o z _ => e.sH b o z, fun a z => ?_⟩)
  · rintro a (rfl | rfl)
    · exact none_of_same E.sB k1
    · exact none_of_same E.sB k2
  · rintro a (rfl | rfl)
    · exact h1
    · exact h2
  · rintro a (rfl | rfl) z
    · exact E.mH _ z k1
    · exact E.mH _ z k2
  · rintro a (rfl | rfl)
    · rw [g1]; exact fun z => nomatch z
    · rw [g2]; exact fun z => nomatch z
  · rintro a xs (rfl | rfl)
    · rw [g1]; exact fun z => nomatch z
    · rw [g2]; exact fun z => nomatch z
  · rcases z with z | rfl | rfl
    · exact .inl z
    · exact .inr k1
    · exact .inr k2
/-- two own lists handed out in a tuple -/
theorem sv_ret2 {i j : Nat} {xs : List α} {ys : List β} {w : List α × List β → τ} (hn : i ≠ j) (hi : ds[i]? = some (.own (xs.map em))) (hj : ds[j]? = some (.own (ys.map em))) (ho : out (w (xs, ys)) = .rt (.res (own2 (xs.map em) (ys.map em)))) :
    SvO K ds (tRet (tTup (tCons (tVar i) (tCons (tVar j) tNil)))) (some (w (xs, ys))) out := by
  intro z hz B F M H σ D E f
  cases hz
  rw [ho] at f
  obtain ⟨len, sB, sF, mB, mF, mH, mT, foot, f1, f2, f3⟩ := id E
  have h3 := f3 i
  rw [hi] at h3
  obtain ⟨l1, vs, e, hp, r, hm⟩ := h3
  have h4 := f3 j
  rw [hj] at h4
  obtain ⟨l2, us, e', hp', r', hm'⟩ := h4
  have hne : l1 ≠ l2 := fun z => hn (f2 i j l1 hm (by rw [z]; exact hm'))
  refine ⟨.ref l1, e, .ref l2, e', by show 2 ≤ sizeLine; decide, fun n hnn => ?_⟩
  have X := Ext.new1 (o := .tup [.ref l1, .ref l2]) sF hnn
  have E2 := E.ext X
  refine f _ M _ (.ref n) (.ofExt X) ⟨rfl, E2.sB, E2.sF, E2.mB, E2.mF, E2.mH, E2.mT, fun k a => k = 0 ∧ (a = l1 ∨ a = l2), ?_, fun j k a z1 z2 => z1.1.trans z2.1.symm, fun k => ?_⟩
  · rintro k a ⟨_, rfl | rfl⟩
    · exact f1 i _ hm
    · exact f1 j _ hm'
  · cases k with
    | zero => exact ⟨.ref n, rfl, n, l1, l2, vs, us, rfl, upd_same, hne, ⟨rfl, .inl rfl⟩, ⟨rfl, .inr rfl⟩, X.sH _ _ hp, X.sH _ _ hp', r.mono X.sF, r'.mono X.sF⟩
    | succ k => trivial
/-- something put behind one of the two -/
theorem Env.ch2 {B F M H σ} (E : Env K B F M H σ ds) {i : Nat} {l : Addr} {ws : List V} {R : Rs} {v : V} {foot : Nat → Addr → Prop} (f1 : ∀ i a, foot i a → M a) (f2 : ∀ i j a, foot i a → foot j a → i = j) (f3 : ∀ i, hold K B F H (ds[i]?.getD .no) (σ[i]?) (foot i))
    (hi : i < ds.length) (e : σ[i]? = some (some v)) (hm : foot i l) (r : R.h F (upd H l (.lst ws)) v (foot i)) : Env K B F M (upd H l (.lst ws)) σ (ds.set i (.res R)) := by
  have hM := f1 i l hm
  have sF : Same F (upd H l (.lst ws)) := same_upd2 E.sF (E.mF l hM)
  refine ⟨by rw [List.length_set, E.len], same_upd2 E.sB (E.mB l hM), sF, E.mB, E.mF, fun a z => ?_, fun a xs z => ?_, foot, f1, f2, fun j => ?_⟩
  · unfold L2.upd
    split
    · exact fun z => nomatch z
    · exact E.mH a z
  · unfold L2.upd
    split
    · exact fun z => nomatch z
    · exact E.mT a xs z
  · rw [getD_set ds i j _ hi]
    by_cases h : j = i
    · subst h
      rw [if_pos rfl]
      exact ⟨v, e, r⟩
    · rw [if_neg h]
      refine (f3 j).mono (Same.refl _) (fun a o ha hz => ?_) E.sF sF
      rw [upd_ne fun z => h (f2 j i a ha (by rw [z]; exact hm))]
      exact hz
theorem sv_app2a {i : Nat} {xs : List α} {ys : List β} {o : Option α} {r : List α → Option τ} (hi : i < ds.length) (hx : ds[i]? = some (.res (own2 (xs.map em) (ys.map em)))) (h : EvO K ds .f te o) (k : ∀ zs : List α, SvO K (ds.set i (.res (own2 (zs.map em) (ys.map em)))) u (r zs) out) :
    SvO K ds (tSeq (tDrop (tBM K "list" rAppend (tOp (rIxT K) (tVar i) (tC (.int 0))) (tCons te tNil))) u) ((o.bind fun x => oapp xs x).bind r) out := by
  intro x hx2 B F M H σ D E fin
  obtain ⟨zs, e1, e2⟩ := bind_some' hx2
  obtain ⟨y, e3, e4⟩ := bind_some' e1
  obtain ⟨foot, f1, f2, f3⟩ := id E.ft
  have h3 := f3 i
  rw [hx] at h3
  obtain ⟨v0, e, p, l1, l2, ws, us, rfl, hp, hn, hm1, hm2, g1, g2, r1, r2⟩ := h3
  refine ⟨.ref p, e, p, [.ref l1, .ref l2], 0, .ref l1, rfl, rfl, SqT.of (E.sF _ _ hp), rfl, .inl ⟨rfl, _, SqL.of g1⟩, h y e3 B F M H σ _ E fun v F' H' x rv => ?_⟩
  unfold oapp at e4
  split at e4
  · rename_i hl
    cases e4
    have E' := E.ext x
    have f3' : ∀ i, hold K B F' H' (ds[i]?.getD .no) (σ[i]?) (foot i) := fun i => (f3 i).mono x.sF (fun a o _ z => x.sH a o z) E.sF x.sub
    refine ⟨l1, ws, v, rfl, rfl, x.sH _ _ g1, Nat.lt_of_lt_of_le (by rw [r1.len, List.length_map]; exact hl) (by decide : 100000 ≤ sizeLine), ?_⟩
    have r3 : RpA F' (ws ++ [v]) ((xs ++ [y]).map em) := by
      rw [List.map_append]
      exact (r1.mono x.sF).app (.cons rv .nil)
    refine k _ _ e2 B F' M _ σ D (E'.ch2 f1 f2 f3' hi e hm1 ⟨p, l1, l2, _, us, rfl, x.sF _ _ hp, hn, hm1, hm2, upd_same, by rw [upd_ne (fun z => hn z.symm)]; exact x.sH _ _ g2, r3, r2.mono x.sF⟩) (fin.step ⟨x.sF, fun a z => (x.new a z).imp_right .inl, fun b o z nm => ?_, fun a z => .inl z⟩)
    rw [upd_ne fun q => nm (by rw [q]; exact f1 i l1 hm1)]
    exact x.sH b o z
  · cases e4
theorem sv_app2b {i : Nat} {xs : List α} {ys : List β} {o : Option β} {r : List β → Option τ} (hi : i < ds.length) (hx : ds[i]? = some (.res (own2 (xs.map em) (ys.map em)))) (h : EvO K ds .f te o) (k : ∀ zs : List β, SvO K (ds.set i (.res (own2 (xs.map em) (zs.map em)))) u (r zs) out) :
    SvO K ds (tSeq (tDrop (tBM K "list" rAppend (tOp (rIxT K) (tVar i) (tC (.int 1))) (tCons te tNil))) u) ((o.bind fun x => oapp ys x).bind r) out := by
  intro x hx2 B F M H σ D E fin
  obtain ⟨zs, e1, e2⟩ := bind_some' hx2
  obtain ⟨y, e3, e4⟩ := bind_some' e1
  obtain ⟨foot, f1, f2, f3⟩ := id E.ft
  have h3 := f3 i
  rw [hx] at h3
  obtain ⟨v0, e, p, l1, l2, ws, us, rfl, hp, hn, hm1, hm2, g1, g2, r1, r2⟩ := h3
  refine ⟨.ref p, e, p, [.ref l1, .ref l2], 1, .ref l2, rfl, rfl, SqT.of (E.sF _ _ hp), rfl, .inl ⟨rfl, _, SqL.of g2⟩, h y e3 B F M H σ _ E fun v F' H' x rv => ?_⟩
  unfold oapp at e4
  split at e4
  · rename_i hl
    cases e4
    have E' := E.ext x
    have f3' : ∀ i, hold K B F' H' (ds[i]?.getD .no) (σ[i]?) (foot i) := fun i => (f3 i).mono x.sF (fun a o _ z => x.sH a o z) E.sF x.sub
    refine ⟨l2, us, v, rfl, rfl, x.sH _ _ g2, Nat.lt_of_lt_of_le (by rw [r2.len, List.length_map]; exact hl) (by decide : 100000 ≤ sizeLine), ?_⟩
    have r3 : RpA F' (us ++ [v]) ((ys ++ [y]).map em) := by
      rw [List.map_append]
      exact (r2.mono x.sF).app (.cons rv .nil)
    refine k _ _ e2 B F' M _ σ D (E'.ch2 f1 f2 f3' hi e hm2 ⟨p, l1, l2, ws, _, rfl, x.sF _ _ hp, hn, hm1, hm2, by rw [upd_ne hn]; exact x.sH _ _ g1, upd_same, r1.mono x.sF, r3⟩) (fin.step ⟨x.sF, fun a z => (x.new a z).imp_right .inl, fun b o z nm => ?_, fun a z => .inl z⟩)
    rw [upd_ne fun q => nm (by rw [q]; exact f1 i l2 hm2)]
    exact x.sH b o z
  · cases e4
end
section
variable {P : Program} {w : World} {K : PySem.W.Frag} {mg : Str → Option Value} {base : Heap} {τ α β : Type} [Em α] [Em β]
theorem fn_two {x qual : Str} {st : Stmt} {f : Addr} {fd : FuncData} {N ps : List Str} {k : Nat} {A : τ → List Ar} {g : τ → Option (List α × List β)} (F : Fun K x qual st f fd) (S : FnScope N ps (defScope st)) (hA : ∀ t, (A t).length = ps.length)
    (body : ∀ (cdv : Value) (A' : Around) (outer : List PySem.Env) (s : Shared) (H : Hp) (E : XK), Room k (A'.deeper (PyProof.Rows.envOfC qual (defScope st) s.heap.objs.size f cdv)) →
      ∃ t, PSs (cxOf CX0 P w K mg base N qual (defScope st) f cdv A' outer s H E).nox (defBody st) t ∧ ∀ z, SvO K ((A z).map Ar.sl ++ List.replicate (N.length - (A z).length) Sl.no) t (g z) fun b => .rt (.res (own2 (b.1.map em) (b.2.map em)))) : FnOk P w K mg base CX0 (k + 1) f fd ps (spT K A g) := by
  refine F.ok S (fun vs H Q E h => ?_) (fun cdv A' outer s H vs Q E hr h => ?_)
  · obtain ⟨_, t, _, _, a, _⟩ := h
    rw [a.len, hA]
  · obtain ⟨F0, z, b, sm, a, e, q⟩ := h
    obtain ⟨t, hp, hb⟩ := body cdv A' outer s H E hr
    refine ⟨t, hp, hb z b e H F0 _ H _ _ (env_start N sm a) fun F' M' H' v st E' => ?_⟩
    obtain ⟨m, hm, v', e2, p, l1, l2, ws, us, rfl, hpp, hn, m1, m2, g1, g2, r1, r2⟩ := E'.at (i := 0) rfl
    cases e2
    have e' : Ext F0 H F' H' := ⟨st.sF, fun c o z => st.keep c o z (fun h => h), E'.sF, fun c z => (st.new c z).imp_right fun h => h.resolve_right fun h => h⟩
    exact q p l1 l2 ws us F' H' e' hpp hn (E'.mF _ (hm _ m1)) (E'.mF _ (hm _ m2)) (E'.mB _ (hm _ m1)) (E'.mB _ (hm _ m2)) g1 g2 r1 r2
end
end Tw
/-! sorted over a dict with pairs as keys; tuples joined; bit_length. -/
namespace L2
open PySem PySem.Spec PyProof.Rows
def rSortedDT : List V → Hp → VK → Prop := fun xs H Q => ∃ (d : Addr) (kvs : List (List Key × V)) (k : V → Int × Int), xs = [V.ref d] ∧ Rd H d (.dT kvs) ∧
    (∀ (b : Addr) (q : List Key × V), q ∈ kvs → H b = some (.tup (q.1.map kV)) → H b = some (.tup [.int (k (.ref b)).1, .int (k (.ref b)).2])) ∧
    ∀ (p : Addr) (bs : List Addr) (zs : List V), H p = none → IsKeys H kvs bs → SrtO.Srtd (ltP k) zs → SrtO.Stb (ltP k) zs (bs.map V.ref) → Q (.ref p) (upd H p (.lst zs))
section
variable {X : Cx}
theorem call_sortedDT (hcalm : X.calm = true) : CallR X (.builtin "sorted") rSortedDT := by
  intro pins s σ H xs us Q I r h
  obtain ⟨d, kvs, k, rfl, hd, hkey, q⟩ := h
  obtain ⟨u, rfl, rx⟩ := r.one
  cases rx
  obtain ⟨z, hs, ks, pr, o, es, ep, ho, hx, hdt, he, hn⟩ := (show ObjOk X.prog X.w H s.heap d (.dT kvs) from hd.ok I.hok)
  have l1 : es.size = ks.length := size_of_entries he
  have l2 : kvs.length = ks.length := Paired.length pr
  refine Calls.call_function_entry PyProof.Rows.kind_sorted PyProof.Rows.plain_sorted PyProof.Rows.entry_sorted (PyProof.Rows.args_sorted1 _) ?_
  unfold Builtin.«sorted»
  refine wpAny_bind (m := checkCount "sorted" 1 1 _) (wpAny_pure ?_)
  refine wpAny_bind (PySem.W.kdu_collect (A := X.A.in1) (kdl_raw hs hx hdt) (I.ok.hd hcalm) ho (by omega) fun h' tk acc' hk it => ?_)
  have ea : acc'.toList = ks.map fun x => Value.ref x.2.1 := by
    have hl : acc'.toList.length = ks.length := by rw [Array.length_toList, it.1]; exact l1
    apply List.ext_getElem?
    intro j
    rw [List.getElem?_map]
    cases hj : acc'.toList[j]? with
    | none =>
      have h1 := List.getElem?_eq_none_iff.mp hj
      rw [List.getElem?_eq_none (by omega)]
      all_goals rfl
    | some v =>
      obtain ⟨en, hen, hv⟩ := it.2 j v (by rw [← Array.getElem?_toList]; exact hj)
      have qe := entry_at he j
      rw [hen] at qe
      cases hb : ks[j]? with
      | none =>
        rw [hb] at qe
        exact nomatch (show some en = none from qe)
      | some b =>
        rw [hb] at qe
        have e2 : en = entryOfKey (tupleKind (mixKind X.prog X.w)) b := Option.some.inj qe
        rw [hv, e2]
        all_goals rfl
  have eb : acc'.toList = (ks.map fun x => x.2.1).map Value.ref := by rw [ea, List.map_map]; all_goals rfl
  have hK := isKeys_of pr
  generalize hbs : (ks.map fun x => x.2.1) = bs at *
  have hlb : bs.length = ks.length := by rw [← hbs, List.length_map]
  have hal : acc'.toList.length ≤ sizeLine := by rw [eb, List.length_map]; omega
  have I1 : Inv X pins σ H { s with heap := h', toks := tk } := I.kept hk
  refine wpAny_bind (wpAny_newList ?_ hal)
  have hoL : (h'.push (seqObj "list" acc'.toList.toArray 0)).get? h'.objs.size = some (seqObj "list" acc'.toList.toArray 0) := Heap.get?_push_size _ rfl
  show wpAny _ _ _ _ _ { s with heap := h'.push (seqObj "list" acc'.toList.toArray 0), toks := tk }
  have I2 : Inv X pins σ H { s with heap := h'.push (seqObj "list" acc'.toList.toArray 0), toks := tk } := I1.kept (t' := tk) fun b ob q => Heap.get?_push_of_some _ q
  have keyof : ∀ b ∈ bs, H b = some (.tup [.int (k (.ref b)).1, .int (k (.ref b)).2]) := by
    have : ∀ {xs : List (List Key × V)} {cs : List Addr}, Paired (fun p b => H b = some (.tup (p.1.map kV))) xs cs → (∀ p ∈ xs, p ∈ kvs) → ∀ b ∈ cs, H b = some (.tup [.int (k (.ref b)).1, .int (k (.ref b)).2]) := by
      intro xs cs r
      induction r with
      | nil => intro _ b hb; cases hb
      | cons h t ih =>
        intro hm b hb
        rcases List.mem_cons.mp hb with rfl | hb
        · exact hkey _ _ (hm _ (by simp)) h
        · exact ih (fun p hp => hm p (by simp [hp])) b hb
    exact this hK fun p hp => hp
  have hp : ∀ v ∈ acc'.toList, Srt.IsPair (h'.push (seqObj "list" acc'.toList.toArray 0)) v (k (backV v)).1 (k (backV v)).2 := fun v hv => by
    rw [eb] at hv
    obtain ⟨b, hb, rfl⟩ := List.mem_map.mp hv
    obtain ⟨_, its2, r2, o, ho, hc, n, hd⟩ := I2.hok _ _ (keyof b hb)
    obtain ⟨u1, u2, rfl, ri, rj⟩ := vals2 r2
    obtain ⟨t1, rfl⟩ := ri
    obtain ⟨t2, rfl⟩ := rj
    exact ⟨b, o, t1, t2, n, rfl, ho, hc, hd⟩
  refine wpAny_bind (wpAny_holding (wpAny_call_entry PyProof.Rows.slot_list_sort ⟨_, hoL, rfl⟩ PyProof.Rows.entry_list_sort
    (SrtO.list_sort_ord (SrtO.swo_lex fun u => k (backV u)) hoL hal (fun h2 => SrtO.pairs_sortableO (by omega) hp fun o e => ?_) fun out h1 h2 => ⟨_, rfl, ?_⟩) (PyProof.Rows.args_list_sort _)))
  · have e' : some o = some (seqObj "list" acc'.toList.toArray 0) := e.symm.trans hoL
    cases e'
    intro c
    exact absurd (Value.type.inj c) (by decide)
  · have h3 : ∀ u ∈ out, ∃ a, u = Value.ref a := fun u hu => by
      have := h2.perm.mem_iff.mp hu
      rw [eb] at this
      obtain ⟨b, _, rfl⟩ := List.mem_map.mp this
      exact ⟨b, rfl⟩
    obtain ⟨ep', he'⟩ := PyProof.Rows.sortedHeap_at (vs := acc'.toList) (out := out.toArray) hoL
    have hb : SrtO.Stb (ltP k) (out.map backV) (bs.map V.ref) := by
      have e3 : bs.map V.ref = acc'.toList.map backV := by
        rw [eb, List.map_map]
        rfl
      rw [e3]
      exact SrtO.Stb.map (ltP_swo k) backV h2
    have hlen : (out.map backV).length ≤ sizeLine := by
      rw [hb.len, List.length_map]
      omega
    refine wpAny_pure ⟨_, rfl, .ref h'.objs.size, upd H h'.objs.size (.lst (out.map backV)), I1.laid (t' := tk) (fun b u e => ?_) (Nat.le_refl _)
      (show ObjOk X.prog X.w _ _ _ (.lst (out.map backV)) from ⟨hlen, out, ep', vals_back h3, he'⟩), rfl, q _ bs _ (I1.hok.fresh (Nat.le_refl _)) hK (SrtO.srtd_map h1) hb⟩
    have hb : b < h'.objs.size := Heap.lt_size e
    rw [PyProof.Rows.sortedHeap_old (Nat.ne_of_lt hb) (by rw [size_push']; exact Nat.lt_succ_of_lt hb)]
    exact Heap.get?_push_of_some _ e
end
end L2

namespace Tw
open PySem L2
/-- a tuple of one -/
structure T1 (α : Type) where
  a : α
deriving DecidableEq
instance {α : Type} [Em α] : Em (T1 α) := ⟨fun x => .tuple [em x.a]⟩
def otup1 {α : Type} (a : Option α) : Option (T1 α) := a.map fun x => ⟨x⟩
theorem ev_tup1 {K : PySem.W.Frag} {ds : List Sl} {ta : TE} {α : Type} [Em α] {o1 : Option α} (h1 : EvO K ds .f ta o1) : EvO K ds .f (tTup (tCons ta tNil)) (otup1 o1) := by
  intro z hz B F M H σ Q E q
  cases o1 with
  | none => cases hz
  | some x =>
    cases hz
    exact h1 x rfl B F M H σ _ E fun v F' H' e r1 => ⟨by show 1 ≤ sizeLine; decide, fun p hp => q _ _ _ (e.trans (Ext.new1 e.sub hp)) (rp_tupv (none_of_same e.sub hp) (.cons r1 .nil))⟩
end Tw
namespace Tw
open PySem L2
def okeys {α : Type} (kvs : List (PP × α)) : Option (List PP) := some (sortP (kvs.map (·.1)))
def ocatT {α β γ δ : Type} (a : Option (α × β)) (b : Option (γ × δ)) : Option (T4 α β γ δ) := obin (fun x y => some ⟨x.1, x.2, y.1, y.2⟩) a b
def obits (o : Option Int) : Option Int := o.map fun i => ((Builtin.Int.intBits i : Nat) : Int)
theorem keys_paired {H : Hp} {F : Hp} : ∀ {kv : List (PP × V)} {bs : List Addr}, L2.IsKeys H (kv.map fun x => ([Sum.inl x.1.1, Sum.inl x.1.2], x.2)) bs → (bs.map fun b => keyP H (.ref b)) = kv.map (·.1) ∧ ∀ b ∈ bs, ∃ x : PP, H b = some (.tup [.int x.1, .int x.2])
  | [], bs, h => by
    cases h
    exact ⟨rfl, fun b hb => by cases hb⟩
  | x :: kv, bs, h => by
    cases h with
    | cons h t =>
      rename_i b cs
      obtain ⟨h1, h2⟩ := keys_paired (F := F) t
      have hb : H b = some (.tup [.int x.1.1, .int x.1.2]) := h
      refine ⟨?_, fun c hc => ?_⟩
      · rw [List.map_cons, List.map_cons, h1]
        congr 1
        show (match H b with | some (.tup [.int i, .int j]) => (i, j) | _ => (0, 0)) = x.1
        rw [hb]
      · rcases List.mem_cons.mp hc with rfl | hc
        · exact ⟨x.1, hb⟩
        · exact h2 c hc
theorem KvR.keysM {κ : Type} {F : Hp} : ∀ {kv : List (κ × V)} {ys : List (κ × PyData)}, KvR F kv ys → kv.map (·.1) = ys.map (·.1)
  | _, _, .nil => rfl
  | _, _, .cons _ r => by rw [List.map_cons, List.map_cons, KvR.keysM r]
section
variable {K : PySem.W.Frag} {ds es : List Sl} {ta tb tc te : TE} {tr : TA} {t u w : TS} {g : TG} {m m1 m2 : Md} {α β γ δ τ : Type} [Em α] [Em β] [Em γ] [Em δ] {out : τ → Out}
theorem sortDP_run {F H : Hp} {p : Addr} {kv : List (PP × V)} {Q : VK} (sF : Same F H) (hp : H p = some (dpO kv)) (q : ∀ n zs, H n = none → RpA (tupF F H) zs ((sortP (kv.map (·.1))).map em) → Q (.ref n) (upd H n (.lst zs))) : L2.rSortedDT [.ref p] H Q := by
  refine ⟨p, _, keyP H, rfl, .inl hp, fun b y hy hb => ?_, fun n bs zs hn hk hs st => ?_⟩
  · obtain ⟨x, _, rfl⟩ := List.mem_map.mp hy
    have hb : H b = some (.tup [.int x.1.1, .int x.1.2]) := hb
    have : keyP H (.ref b) = x.1 := by
      show (match H b with | some (.tup [.int i, .int j]) => (i, j) | _ => (0, 0)) = x.1
      rw [hb]
    rw [this]
    exact hb
  · obtain ⟨h1, h2⟩ := keys_paired (F := F) hk
    refine q n zs hn ?_
    have hz : ∀ v ∈ zs, Rp (tupF F H) v (em (keyP H v)) := fun v hv => by
      obtain ⟨b, hb, rfl⟩ := List.mem_map.mp (st.perm.mem_iff.mp hv)
      obtain ⟨x, hx⟩ := h2 b hb
      have : keyP H (.ref b) = x := by
        show (match H b with | some (.tup [.int i, .int j]) => (i, j) | _ => (0, 0)) = x
        rw [hx]
      rw [this]
      exact .tup (tupF_at sF hx) (.cons (.int _) (.cons (.int _) .nil))
    have e : zs.map (keyP H) = sortP (kv.map (·.1)) := by
      refine uniq_sortedP ?_ ?_ (sorted_sortP _)
      · refine (st.perm.map (keyP H)).trans ?_
        rw [List.map_map, show (keyP H ∘ V.ref) = fun b => keyP H (.ref b) from rfl, h1]
        exact (perm_sortP _).symm
      · exact List.pairwise_map.mpr (hs.imp fun {a b} h => lexB_le h)
    rw [← e]
    exact rpa_keys hz
theorem em_keys {β : Type} [Em β] {kv : List (PP × V)} {F : Hp} {kvs : List (PP × β)} (r : KvR F kv (emD kvs)) : kv.map (·.1) = kvs.map (·.1) := by
  rw [r.keysM]
  unfold emD
  rw [List.map_map]
  rfl
theorem el_sortDP {i : Nat} {kvs : List (PP × α)} (h : ds[i]? = some (.dp (emD kvs))) : EvL K ds (tCB L2.rSortedDT (tCons (tVar i) tNil)) (okeys kvs) := by
  intro xs hx B F M H σ Q E q
  cases hx
  obtain ⟨_, _, p, kv, e, hp, r, _⟩ := E.at h
  refine ⟨.ref p, e, sortDP_run E.sF hp fun n zs hn rz => ?_⟩
  rw [em_keys r] at rz
  have X := tupF_ext E.sF
  exact q n zs _ _ (X.trans (Ext.new0 X.sub hn)) (none_of_same X.sub hn) hn upd_same rz
theorem el_sortRP {i : Nat} {kvs : List (PP × α)} (h : ds[i]? = some (.rdp (emD kvs))) : EvL K ds (tCB L2.rSortedDT (tCons (tVar i) tNil)) (okeys kvs) := by
  intro xs hx B F M H σ Q E q
  cases hx
  obtain ⟨_, _, p, kv, e, hp, r⟩ := E.at h
  refine ⟨.ref p, e, sortDP_run E.sF (E.sB _ _ hp) fun n zs hn rz => ?_⟩
  rw [em_keys r] at rz
  have X := tupF_ext E.sF
  exact q n zs _ _ (X.trans (Ext.new0 X.sub hn)) (none_of_same X.sub hn) hn upd_same rz
theorem ev_catT {o1 : Option (α × β)} {o2 : Option (γ × δ)} (h1 : EvO K ds .f ta o1) (h2 : EvO K ds .f tb o2) : EvO K ds .f (tOp (rCatT K) ta tb) (ocatT o1 o2) := by
  intro z hz B F M H σ Q E q
  obtain ⟨x, y, e1, e2, e3⟩ := obin_some hz
  cases e3
  refine ev2 h1 h2 e1 e2 E fun v w F' H' e r1 r2 => ?_
  obtain ⟨p, a, b, rfl, hp, ra, rb⟩ := rp_pair r1
  obtain ⟨p2, c, d, rfl, hp2, rc, rd⟩ := rp_pair r2
  refine ⟨p, p2, [a, b], [c, d], rfl, rfl, SqT.of (e.sub _ _ hp), SqT.of (e.sub _ _ hp2), (fun z => nomatch z), by show 4 ≤ sizeLine; decide, (fun z => nomatch z), fun _ n hn => ?_⟩
  exact q _ _ _ (e.trans (Ext.new1 e.sub hn)) (rp_tupv (none_of_same e.sub hn) (.cons ra (.cons rb (.cons rc (.cons rd .nil)))))
theorem ev_bits {o : Option Int} (h : EvO K ds m te o) : EvO K ds .f (L2.tBits te) (obits o) := by
  intro z hz B F M H σ Q E q
  cases o with
  | none => cases hz
  | some i =>
    cases hz
    exact h i rfl B F M H σ _ E fun v F' H' e r => ⟨i, rp_int r, q _ F' H' e (.int _)⟩
end
end Tw
/-! len(set(..)); a for over an own dict. -/
namespace L2
open PySem PySem.Spec PyProof.Rows
/-- the unlike ones among some numbers, as they come -/
def uniqI (ns : List Int) : List Int := PyProof.Rows.firstMet (fun i => ns.getD i 0) ns.length
def tLenSet (K : PySem.W.Frag) (ta : TE) : TE := fun σ H Q => ta σ H fun x H1 => ∃ (l : Addr) (ns : List Int), x = .ref l ∧ SqL K H1 l (ns.map V.int) ∧ ns.length ≤ 4000 ∧ Q (.int ((uniqI ns).length : Nat)) H1
theorem pe_lenSet {X : Cx} {a : Expr} {ta : TE} {p p2 q pos : Pos} (hg : Gl X "len") (hm : X.mg "len" = none) (hg2 : Gl X "set") (hm2 : X.mg "set" = none) (ha : PE X a ta) (hc : X.calm = true := by rfl)
    (na : starEach [a] X.env = (false, eval a X.env) :: starEach [] X.env := by rfl) : PE X (.Call (.Name "len" p) [.Call (.Name "set" p2) [a] [] q] [] pos) (tLenSet X.K ta) := by
  refine ⟨fun pins s σ H Q I h => ?_⟩
  refine Call_ (ld_blt I hg hm boot_len ?_)
  refine PyProof.Rows.callWith_builtin1 (PyProof.Rows.args_cons ?_ rfl) rfl rfl
  refine Call_ (ld_blt I hg2 hm2 boot_set ?_)
  refine PyProof.Rows.callWith_type1 (PyProof.Rows.args_cons (thn (ha.run pins s σ H _ I h) fun v s1 ⟨x, H1, I1, r1, q1⟩ => PyProof.Rows.args_nil ?_) na) na rfl
  obtain ⟨l, ns, rfl, hq, hl, q1⟩ := q1
  cases r1
  obtain ⟨its, r, pl, hz⟩ := I1.list hq
  have hlen : its.toArray.size = ns.length := by rw [List.size_toArray, ← r.length, List.length_map]
  refine call_set_list (I1.ok.hd hc) pl.isList (ns := ns) (by simpa using r.ints) (by rw [hlen]; unfold scanBound; omega) fun h' tk hS hk => ?_
  refine PyProof.Rows.args_nil ?_
  rw [hlen] at hS
  obtain ⟨o, es, ep, t, ho, hex, hd, _, _, _, hf, hn⟩ := hS
  have I2 : Inv X pins σ H1 { s1 with heap := h', toks := tk } := I1.kept fun b o e => hk b o (Heap.lt_size e) e
  have hle := PyProof.Rows.firstMet_length_le (fun i => ns.getD i 0) ns.length
  exact call_len_set ho hex hd hf (by rw [hn] <;> omega) ⟨.int (uniqI ns).length, H1, I2.tok _, ⟨_, by rw [hn]; rfl⟩, q1⟩
end L2
namespace Tw
open PySem L2
def olenSet (o : Option (List Int)) : Option Int := o.bind fun xs => if xs.length ≤ 4000 then some ((uniqI xs).length : Int) else none
section
variable {K : PySem.W.Frag} {ds es : List Sl} {ta tb tc te : TE} {tr : TA} {t u w : TS} {g : TG} {m m1 m2 : Md} {α β γ δ τ S ρ : Type} [Em α] [Em β] [Em γ] [Em δ] {out : τ → Out}
theorem ev_lenSet {o : Option (List Int)} (h : EvO K ds m te o) : EvO K ds .f (L2.tLenSet K te) (olenSet o) := by
  intro z hz B F M H σ Q E q
  obtain ⟨xs, e1, e2⟩ := bind_some' hz
  split at e2
  · rename_i hl
    cases e2
    refine h xs e1 B F M H σ _ E fun v F' H' e r => ?_
    obtain ⟨p, vs, rfl, hp, ra⟩ := rp_list r
    have := RpA.ints (ns := xs) ra
    subst this
    exact ⟨p, xs, rfl, SqL.of (hp_H (E.ext e) _ _ hp), hl, q _ F' H' e (.int _)⟩
  · cases e2
end
end Tw
/-! Own trees: lists, tuples, dicts, instances of a frame's own, one in another; places in them. -/
namespace Tw
open PySem L2
mutual
theorem Ow.at {F H : Hp} : ∀ {x : V} {o : OD} {ms : List Addr}, Ow F H x o ms → ∀ a ∈ ms, ∃ u, H a = some u ∧ ∀ xs, u ≠ .tup xs
  | _, _, _, .v r, a, ha => by cases ha
  | _, _, _, .lst h r n, a, ha => by
    rcases List.mem_cons.mp ha with rfl | ha
    · exact ⟨_, h, fun _ z => nomatch z⟩
    · exact OwL.at r a ha
  | _, _, _, .tup h r, a, ha => OwL.at r a ha
  | _, _, _, .di h r e n, a, ha => by
    rcases List.mem_cons.mp ha with rfl | ha
    · exact ⟨_, h, fun _ z => nomatch z⟩
    · exact OwL.at r a ha
  | _, _, _, .dik h r e, a, ha => OwL.at r a ha
  | _, _, _, .dpk h r e, a, ha => OwL.at r a ha
  | _, _, _, .dp h r e n, a, ha => by
    rcases List.mem_cons.mp ha with rfl | ha
    · exact ⟨_, h, fun _ z => nomatch z⟩
    · exact OwL.at r a ha
  | _, _, _, .ins h h2 r e n n2 n3, a, ha => by
    rcases List.mem_cons.mp ha with rfl | ha
    · exact ⟨_, h, fun _ z => nomatch z⟩
    · rcases List.mem_cons.mp ha with rfl | ha
      · exact ⟨_, h2, fun _ z => nomatch z⟩
      · exact OwL.at r a ha
theorem OwL.at {F H : Hp} : ∀ {vs : List V} {xs : List OD} {ms : List Addr}, OwL F H vs xs ms → ∀ a ∈ ms, ∃ u, H a = some u ∧ ∀ xs, u ≠ .tup xs
  | _, _, _, .nil, a, ha => by cases ha
  | _, _, _, .cons h r d, a, ha => by
    rcases List.mem_append.mp ha with ha | ha
    · exact Ow.at h a ha
    · exact OwL.at r a ha
end
theorem OwL.len {F H : Hp} : ∀ {vs : List V} {xs : List OD} {ms : List Addr}, OwL F H vs xs ms → vs.length = xs.length
  | _, _, _, .nil => rfl
  | _, _, _, .cons _ r _ => by rw [List.length_cons, List.length_cons, OwL.len r]
/-- one of some trees, and what may stand in its place -/
theorem OwL.get {F H : Hp} : ∀ {vs : List V} {xs : List OD} {ms : List Addr} {i : Nat} {o : OD}, OwL F H vs xs ms → xs[i]? = some o →
    ∃ (x : V) (m R : List Addr), vs[i]? = some x ∧ Ow F H x o m ∧ (∀ a, a ∈ ms ↔ a ∈ m ∨ a ∈ R) ∧ (∀ a ∈ m, a ∉ R) ∧
      ∀ F' H' x' o' m', Same F F' → (∀ a ∈ R, ∀ u, H a = some u → H' a = some u) → Ow F' H' x' o' m' → (∀ a ∈ m', a ∉ R) → ∃ ms', OwL F' H' (vs.set i x') (xs.set i o') ms' ∧ ∀ a, a ∈ ms' ↔ a ∈ m' ∨ a ∈ R
  | _, _, _, _, _, .nil, e => by simp at e
  | _, _, _, 0, o, .cons (m1 := m1) (m2 := m2) h r d, e => by
    simp only [List.getElem?_cons_zero, Option.some.injEq] at e
    subst e
    refine ⟨_, m1, m2, rfl, h, fun a => List.mem_append, d, fun F' H' x' o' m' sF k h' d' => ⟨m' ++ m2, ?_, fun a => List.mem_append⟩⟩
    exact .cons h' (OwL.mono sF k r) d'
  | _, _, _, i + 1, o, .cons (m1 := m1) (m2 := m2) h r d, e => by
    simp only [List.getElem?_cons_succ] at e
    obtain ⟨x, m, R, h1, h2, h3, h4, h5⟩ := OwL.get r e
    refine ⟨x, m, m1 ++ R, by simpa using h1, h2, fun a => ?_, fun a ha z => ?_, fun F' H' x' o' m' sF k h' d' => ?_⟩
    · rw [List.mem_append, List.mem_append, h3]
      constructor
      · rintro (z | z | z)
        · exact .inr (.inl z)
        · exact .inl z
        · exact .inr (.inr z)
      · rintro (z | z | z)
        · exact .inr (.inl z)
        · exact .inl z
        · exact .inr (.inr z)
    · rcases List.mem_append.mp z with z | z
      · exact d a z ((h3 a).mpr (.inl ha))
      · exact h4 a ha z
    · obtain ⟨ms', g1, g2⟩ := h5 F' H' x' o' m' sF (fun a ha => k a (by simp [ha])) h' (fun a ha z => d' a ha (by simp [z]))
      refine ⟨m1 ++ ms', .cons (Ow.mono sF (fun a ha => k a (by simp [ha])) h) g1 (fun a ha z => ?_), fun a => ?_⟩
      · rcases (g2 a).mp z with z | z
        · exact d' a z (by simp [ha])
        · exact d a ha ((h3 a).mpr (.inr z))
      · rw [List.mem_append, List.mem_append, g2]
        constructor
        · rintro (z | z | z)
          · exact .inr (.inl z)
          · exact .inl z
          · exact .inr (.inr z)
        · rintro (z | z | z)
          · exact .inr (.inl z)
          · exact .inl z
          · exact .inr (.inr z)
theorem OwL.app {F H : Hp} : ∀ {vs ws : List V} {xs ys : List OD} {m1 m2 : List Addr}, OwL F H vs xs m1 → OwL F H ws ys m2 → (∀ a ∈ m1, a ∉ m2) → OwL F H (vs ++ ws) (xs ++ ys) (m1 ++ m2)
  | _, _, _, _, _, _, .nil, q, _ => q
  | _, _, _, _, _, _, .cons (m1 := a1) (m2 := a2) h r d, q, dd => by
    rw [List.append_assoc]
    refine .cons h (OwL.app r q fun a ha => dd a (by simp [ha])) fun a ha z => ?_
    rcases List.mem_append.mp z with z | z
    · exact d a ha z
    · exact dd a (by simp [ha]) z

/-! ### places in a tree -/
inductive Sp1 | ix (i : Nat) | tp (i : Nat) | fld (f : Str) | ki (k : Int)
def subO : OD → List Sp1 → Option OD
  | o, [] => some o
  | .lst xs, .ix i :: π => xs[i]?.bind fun o => subO o π
  | .tup xs, .tp i :: π => xs[i]?.bind fun o => subO o π
  | .di kvs, .ki k :: π => (dget kvs k).bind fun o => subO o π
  | .ins _ fs, .fld f :: π => (fs.lookup f).bind fun o => subO o π
  | _, _ => none
/-- what stands at a place of the heap -/
def AtP (H : Hp) : V → List Sp1 → V → Prop
  | v, [], w => v = w
  | v, .ix i :: π, w => ∃ p vs u, v = .ref p ∧ H p = some (.lst vs) ∧ vs[i]? = some u ∧ AtP H u π w
  | v, .tp i :: π, w => ∃ p vs u, v = .ref p ∧ H p = some (.tup vs) ∧ vs[i]? = some u ∧ AtP H u π w
  | v, .ki k :: π, w => ∃ p kv u, v = .ref p ∧ H p = some (diO kv) ∧ dget kv k = some u ∧ AtP H u π w
  | v, .fld f :: π, w => ∃ p C dx fs u, v = .ref p ∧ H p = some (.ins C dx fs) ∧ fs.lookup f = some u ∧ AtP H u π w
theorem AtP.mono {H H' : Hp} (s : Same H H') : ∀ {π : List Sp1} {v w : V}, AtP H v π w → AtP H' v π w
  | [], _, _, h => h
  | .ix i :: π, _, _, ⟨p, vs, u, e, h1, h2, h3⟩ => ⟨p, vs, u, e, s _ _ h1, h2, h3.mono s⟩
  | .tp i :: π, _, _, ⟨p, vs, u, e, h1, h2, h3⟩ => ⟨p, vs, u, e, s _ _ h1, h2, h3.mono s⟩
  | .ki k :: π, _, _, ⟨p, vs, u, e, h1, h2, h3⟩ => ⟨p, vs, u, e, s _ _ h1, h2, h3.mono s⟩
  | .fld f :: π, _, _, ⟨p, C, dx, fs, u, e, h1, h2, h3⟩ => ⟨p, C, dx, fs, u, e, s _ _ h1, h2, h3.mono s⟩
theorem AtP.app {H : Hp} : ∀ {π ρ : List Sp1} {v w x : V}, AtP H v π w → AtP H w ρ x → AtP H v (π ++ ρ) x
  | [], _, _, _, _, h, g => by cases h; exact g
  | .ix i :: π, _, _, _, _, ⟨p, vs, u, e, h1, h2, h3⟩, g => ⟨p, vs, u, e, h1, h2, h3.app g⟩
  | .tp i :: π, _, _, _, _, ⟨p, vs, u, e, h1, h2, h3⟩, g => ⟨p, vs, u, e, h1, h2, h3.app g⟩
  | .ki k :: π, _, _, _, _, ⟨p, vs, u, e, h1, h2, h3⟩, g => ⟨p, vs, u, e, h1, h2, h3.app g⟩
  | .fld f :: π, _, _, _, _, ⟨p, C, dx, fs, u, e, h1, h2, h3⟩, g => ⟨p, C, dx, fs, u, e, h1, h2, h3.app g⟩
/-- the number of a key among pairs -/
def kIx {κ α : Type} [DecidableEq κ] : List (κ × α) → κ → Option Nat
  | [], _ => none
  | x :: fs, f => if f = x.1 then some 0 else (kIx fs f).map (· + 1)
theorem lookup_ix {α : Type} : ∀ {fs : List (Str × α)} {f : Str} {x : α}, fs.lookup f = some x → ∃ i : Nat, kIx fs f = some i ∧ fs[i]? = some (f, x)
  | [], _, _, h => by cases h
  | (g, y) :: fs, f, x, h => by
    unfold kIx
    by_cases e : f = g
    · subst e
      rw [List.lookup_cons_self] at h
      cases h
      exact ⟨0, if_pos rfl, rfl⟩
    · have e2 : (f == g) = false := by simpa using e
      rw [List.lookup_cons, e2] at h
      obtain ⟨i, h1, h2⟩ := lookup_ix (fs := fs) h
      exact ⟨i + 1, by rw [if_neg e, h1]; rfl, by simpa using h2⟩
theorem ix_lookup {α : Type} : ∀ {fs : List (Str × α)} {f : Str} {i : Nat}, kIx fs f = some i → ∃ x, fs[i]? = some (f, x) ∧ fs.lookup f = some x
  | [], _, _, h => by cases h
  | (g, y) :: fs, f, i, h => by
    unfold kIx at h
    by_cases e : f = g
    · subst e
      rw [if_pos rfl] at h
      cases h
      exact ⟨y, rfl, List.lookup_cons_self⟩
    · have e2 : (f == g) = false := by simpa using e
      rw [if_neg e] at h
      cases hi : kIx fs f with
      | none => rw [hi] at h; cases h
      | some j =>
        rw [hi] at h
        cases h
        obtain ⟨x, h1, h2⟩ := ix_lookup hi
        exact ⟨x, by simpa using h1, by rw [List.lookup_cons, e2]; exact h2⟩
theorem dget_ix {κ α : Type} [DecidableEq κ] : ∀ {fs : List (κ × α)} {f : κ} {x : α}, dget fs f = some x → ∃ i : Nat, kIx fs f = some i ∧ fs[i]? = some (f, x)
  | [], _, _, h => by cases h
  | (g, y) :: fs, f, x, h => by
    unfold kIx
    unfold dget at h
    by_cases e : g = f
    · subst e
      rw [List.find?_cons_of_pos (by simp)] at h
      cases h
      exact ⟨0, if_pos rfl, rfl⟩
    · rw [List.find?_cons_of_neg (by simpa using e)] at h
      obtain ⟨i, h1, h2⟩ := dget_ix (fs := fs) (f := f) (x := x) h
      exact ⟨i + 1, by rw [if_neg (fun z => e z.symm), h1]; rfl, by simpa using h2⟩
theorem ix_dget {κ α : Type} [DecidableEq κ] : ∀ {fs : List (κ × α)} {f : κ} {i : Nat}, kIx fs f = some i → ∃ x, fs[i]? = some (f, x) ∧ dget fs f = some x
  | [], _, _, h => by cases h
  | (g, y) :: fs, f, i, h => by
    unfold kIx at h
    unfold dget
    by_cases e : f = g
    · subst e
      rw [if_pos rfl] at h
      cases h
      exact ⟨y, rfl, by rw [List.find?_cons_of_pos (by simp)]; rfl⟩
    · rw [if_neg e] at h
      cases hi : kIx fs f with
      | none => rw [hi] at h; cases h
      | some j =>
        rw [hi] at h
        cases h
        obtain ⟨x, h1, h2⟩ := ix_dget hi
        exact ⟨x, by simpa using h1, by rw [List.find?_cons_of_neg (by simpa using fun z => e z.symm)]; exact h2⟩
theorem kIx_keys {κ α β : Type} [DecidableEq κ] : ∀ {fs : List (κ × α)} {gs : List (κ × β)} {f : κ}, fs.map (·.1) = gs.map (·.1) → kIx fs f = kIx gs f
  | [], [], _, _ => rfl
  | [], _ :: _, _, h => by cases h
  | _ :: _, [], _, h => by cases h
  | (x1, x2) :: fs, (y1, y2) :: gs, f, h => by
    simp only [List.map_cons, List.cons.injEq] at h
    obtain ⟨rfl, h⟩ := h
    unfold kIx
    rw [kIx_keys h]
def setO : List Sp1 → OD → OD → OD
  | [], _, o' => o'
  | .ix i :: π, .lst xs, o' => .lst (match xs[i]? with | some x => xs.set i (setO π x o') | none => xs)
  | .tp i :: π, .tup xs, o' => .tup (match xs[i]? with | some x => xs.set i (setO π x o') | none => xs)
  | .ki k :: π, .di kvs, o' => .di (match kIx kvs k with | some i => (match kvs[i]? with | some x => kvs.set i (x.1, setO π x.2 o') | none => kvs) | none => kvs)
  | .fld f :: π, .ins C fs, o' => .ins C (match kIx fs f with | some i => (match fs[i]? with | some x => fs.set i (x.1, setO π x.2 o') | none => fs) | none => fs)
  | _, o, _ => o
theorem map_set_fst {κ α : Type} {fs : List (κ × α)} {i : Nat} {f : κ} {x y : α} (h : fs[i]? = some (f, x)) : (fs.set i (f, y)).map (·.1) = fs.map (·.1) := by
  rw [List.map_set]
  apply List.ext_getElem?
  intro j
  by_cases hj : j = i
  · subst hj
    have hlt := (List.getElem?_eq_some_iff.mp h).1
    rw [List.getElem?_set_self (by rw [List.length_map]; exact hlt), List.getElem?_map, h]
    rfl
  · rw [List.getElem?_set_ne (fun e => hj e.symm)]
theorem map_set_snd {κ α : Type} {fs : List (κ × α)} {i : Nat} {f : κ} {y : α} : (fs.set i (f, y)).map (·.2) = (fs.map (·.2)).set i y := by rw [List.map_set]
/-- what stands at w, where it is part of a tree whose footprint is ms; R is the rest of it -/
def Foc (F H : Hp) (π : List Sp1) (u : V) (x o : OD) (ms : List Addr) (w : V) (m R : List Addr) : Prop :=
  AtP H u π w ∧ Ow F H w o m ∧ (∀ a, a ∈ ms ↔ a ∈ m ∨ a ∈ R) ∧ (∀ a ∈ m, a ∉ R) ∧
    ∀ F' H' o' m', Same F F' → (∀ a ∈ R, ∀ u, H a = some u → H' a = some u) → Ow F' H' w o' m' → (∀ a ∈ m', a ∉ R) → ∃ ms', Ow F' H' u (setO π x o') ms' ∧ ∀ a, a ∈ ms' ↔ a ∈ m' ∨ a ∈ R
theorem foc_step {F H : Hp} {π : List Sp1} {own : List Addr} {vs : List V} {xs : List OD} {ms : List Addr} {i : Nat} {x o : OD} (r : OwL F H vs xs ms) (hn : ∀ a ∈ own, a ∉ ms) (e1 : xs[i]? = some x) (ih : ∀ u m1, Ow F H u x m1 → ∃ w m R, Foc F H π u x o m1 w m R) :
    ∃ (u w : V) (m R : List Addr), vs[i]? = some u ∧ AtP H u π w ∧ Ow F H w o m ∧ (∀ a, a ∈ own ++ ms ↔ a ∈ m ∨ a ∈ R) ∧ (∀ a ∈ m, a ∉ R) ∧ (∀ a ∈ own, a ∈ R) ∧
      ∀ F' H' o' m', Same F F' → (∀ a ∈ R, ∀ u, H a = some u → H' a = some u) → Ow F' H' w o' m' → (∀ a ∈ m', a ∉ R) → ∃ ms', OwL F' H' vs (xs.set i (setO π x o')) ms' ∧ (∀ a ∈ own, a ∉ ms') ∧ ∀ a, a ∈ own ++ ms' ↔ a ∈ m' ∨ a ∈ R := by
  obtain ⟨u, m1, R1, g1, g2, g3, g4, g5⟩ := r.get e1
  obtain ⟨w, m2, R2, f1, f2, f3, f4, f5⟩ := ih u m1 g2
  refine ⟨u, w, m2, own ++ (R2 ++ R1), g1, f1, f2, fun a => ?_, fun a ha z => ?_, fun a ha => by simp [ha], fun F' H' o' m' sF k h' d' => ?_⟩
  · rw [List.mem_append, g3, f3, List.mem_append, List.mem_append]
    constructor
    · rintro (z | (z | z) | z)
      · exact .inr (.inl z)
      · exact .inl z
      · exact .inr (.inr (.inl z))
      · exact .inr (.inr (.inr z))
    · rintro (z | z | z | z)
      · exact .inr (.inl (.inl z))
      · exact .inl z
      · exact .inr (.inl (.inr z))
      · exact .inr (.inr z)
  · have hm : a ∈ m1 := (f3 a).mpr (.inl ha)
    rcases List.mem_append.mp z with z | z
    · exact hn a z ((g3 a).mpr (.inl hm))
    · rcases List.mem_append.mp z with z | z
      · exact f4 a ha z
      · exact g4 a hm z
  · obtain ⟨ms2, q1, q2⟩ := f5 F' H' o' m' sF (fun a ha => k a (by simp [ha])) h' (fun a ha z => d' a ha (by simp [z]))
    obtain ⟨ms3, q3, q4⟩ := g5 F' H' u (setO π x o') ms2 sF (fun a ha => k a (by simp [ha])) q1 (fun a ha z => by
      rcases (q2 a).mp ha with y | y
      · exact d' a y (by simp [z])
      · exact g4 a ((f3 a).mpr (.inr y)) z)
    have hvs : vs.set i u = vs := by
      obtain ⟨hlt, hu⟩ := List.getElem?_eq_some_iff.mp g1
      rw [← hu]
      exact List.set_getElem_self hlt
    rw [hvs] at q3
    refine ⟨ms3, q3, fun a ha z => ?_, fun a => ?_⟩
    · rcases (q4 a).mp z with y | y
      · rcases (q2 a).mp y with y | y
        · exact d' a y (by simp [ha])
        · exact hn a ha ((g3 a).mpr (.inl ((f3 a).mpr (.inr y))))
      · exact hn a ha ((g3 a).mpr (.inr y))
    · rw [List.mem_append, q4, q2, List.mem_append, List.mem_append]
      constructor
      · rintro (z | (z | z) | z)
        · exact .inr (.inl z)
        · exact .inl z
        · exact .inr (.inr (.inl z))
        · exact .inr (.inr (.inr z))
      · rintro (z | z | z | z)
        · exact .inr (.inl (.inl z))
        · exact .inl z
        · exact .inr (.inl (.inr z))
        · exact .inr (.inr z)
theorem map_ix {κ α : Type} {fs : List (κ × α)} {i : Nat} {k : κ} {x : α} (h : fs[i]? = some (k, x)) : (fs.map (·.2))[i]? = some x := by rw [List.getElem?_map, h]; rfl
/-- a tree at a place of a tree, and what may stand there instead -/
theorem Ow.focusT {F H : Hp} (sFH : ∀ a ts, F a = some (.tup ts) → H a = some (.tup ts)) : ∀ {π : List Sp1} {u : V} {x o : OD} {ms : List Addr}, Ow F H u x ms → subO x π = some o → ∃ w m R, Foc F H π u x o ms w m R
  | [], u, x, o, ms, h, e => by
    have e : some x = some o := by cases x <;> exact e
    cases e
    exact ⟨u, ms, [], rfl, h, fun a => by simp, fun a _ => List.not_mem_nil, fun F' H' o' m' _ _ h' _ => ⟨m', h', fun a => by simp⟩⟩
  | .ix i :: π, u, x, o, ms, h, e => by
    cases h with
    | @lst p vs xs ms' hp r hn =>
      have e : (xs[i]?.bind fun o => subO o π) = some o := e
      obtain ⟨y, e1, e2⟩ := bind_some' e
      obtain ⟨u, w, m, R, g1, g2, g3, g4, g5, g6, g7⟩ := foc_step (own := [p]) (π := π) (o := o) r (fun a ha => by rw [List.mem_singleton] at ha; subst ha; exact hn) e1 fun u m1 h1 => h1.focusT sFH e2
      refine ⟨w, m, R, ⟨p, vs, u, rfl, hp, g1, g2⟩, g3, g4, g5, fun F' H' o' m' sF k h' d' => ?_⟩
      obtain ⟨ms3, q1, q2, q3⟩ := g7 F' H' o' m' sF k h' d'
      refine ⟨p :: ms3, ?_, q3⟩
      have hset : setO (.ix i :: π) (.lst xs) o' = .lst (xs.set i (setO π y o')) := by show OD.lst _ = _; rw [e1]
      rw [hset]
      exact .lst (k p (g6 p (by simp)) _ hp) q1 (q2 p (by simp))
    | _ => cases e
  | .tp i :: π, u, x, o, ms, h, e => by
    cases h with
    | @tup p vs xs ms' hp r =>
      have e : (xs[i]?.bind fun o => subO o π) = some o := e
      obtain ⟨y, e1, e2⟩ := bind_some' e
      obtain ⟨u, w, m, R, g1, g2, g3, g4, g5, g6, g7⟩ := foc_step (own := []) (π := π) (o := o) r (fun a ha => by cases ha) e1 fun u m1 h1 => h1.focusT sFH e2
      refine ⟨w, m, R, ⟨p, vs, u, rfl, sFH _ _ hp, g1, g2⟩, g3, g4, g5, fun F' H' o' m' sF k h' d' => ?_⟩
      obtain ⟨ms3, q1, q2, q3⟩ := g7 F' H' o' m' sF k h' d'
      refine ⟨ms3, ?_, q3⟩
      have hset : setO (.tp i :: π) (.tup xs) o' = .tup (xs.set i (setO π y o')) := by show OD.tup _ = _; rw [e1]
      rw [hset]
      exact .tup (sF _ _ hp) q1
    | _ => cases e
  | .ki k :: π, u, x, o, ms, h, e => by
    cases h with
    | @di p kv xs ms' hp r hk hn =>
      have e : ((dget xs k).bind fun o => subO o π) = some o := e
      obtain ⟨y, e1, e2⟩ := bind_some' e
      obtain ⟨i, j1, j2⟩ := dget_ix e1
      obtain ⟨u, w, m, R, g1, g2, g3, g4, g5, g6, g7⟩ := foc_step (own := [p]) (π := π) (o := o) r (fun a ha => by rw [List.mem_singleton] at ha; subst ha; exact hn) (map_ix j2) fun u m1 h1 => h1.focusT sFH e2
      obtain ⟨z, j4, j5⟩ := ix_dget (fs := kv) (f := k) (i := i) (by rw [kIx_keys hk]; exact j1)
      have hz : z = u := by rw [map_ix j4] at g1; exact Option.some.inj g1
      subst hz
      refine ⟨w, m, R, ⟨p, kv, z, rfl, hp, j5, g2⟩, g3, g4, g5, fun F' H' o' m' sF kp h' d' => ?_⟩
      obtain ⟨ms3, q1, q2, q3⟩ := g7 F' H' o' m' sF kp h' d'
      refine ⟨p :: ms3, ?_, q3⟩
      have hset : setO (.ki k :: π) (.di xs) o' = .di (xs.set i (k, setO π y o')) := by
        show OD.di _ = _
        rw [j1]
        simp only [j2]
      rw [hset]
      exact .di (kp p (g6 p (by simp)) _ hp) (by rw [map_set_snd]; exact q1) (by rw [map_set_fst j2]; exact hk) (q2 p (by simp))
    | _ => cases e
  | .fld f :: π, u, x, o, ms, h, e => by
    cases h with
    | @ins p dx C fs xs ms' hp hdx r hk hn hn2 hn3 =>
      have e : ((xs.lookup f).bind fun o => subO o π) = some o := e
      obtain ⟨y, e1, e2⟩ := bind_some' e
      obtain ⟨i, j1, j2⟩ := lookup_ix e1
      obtain ⟨u, w, m, R, g1, g2, g3, g4, g5, g6, g7⟩ := foc_step (own := [p, dx]) (π := π) (o := o) r (fun a ha => by
        rcases List.mem_cons.mp ha with rfl | ha
        · exact hn
        · rw [List.mem_singleton] at ha; subst ha; exact hn2) (map_ix j2) fun u m1 h1 => h1.focusT sFH e2
      obtain ⟨z, j4, j5⟩ := ix_lookup (fs := fs) (f := f) (i := i) (by rw [kIx_keys hk]; exact j1)
      have hz : z = u := by rw [map_ix j4] at g1; exact Option.some.inj g1
      subst hz
      refine ⟨w, m, R, ⟨p, C, dx, fs, z, rfl, hp, j5, g2⟩, g3, g4, g5, fun F' H' o' m' sF kp h' d' => ?_⟩
      obtain ⟨ms3, q1, q2, q3⟩ := g7 F' H' o' m' sF kp h' d'
      refine ⟨p :: dx :: ms3, ?_, q3⟩
      have hset : setO (.fld f :: π) (.ins C xs) o' = .ins C (xs.set i (f, setO π y o')) := by
        show OD.ins C _ = _
        rw [j1]
        simp only [j2]
      rw [hset]
      exact .ins (kp p (g6 p (by simp)) _ hp) (kp dx (g6 dx (by simp)) _ hdx) (by rw [map_set_snd]; exact q1) (by rw [map_set_fst j2]; exact hk) (q2 p (by simp)) (q2 dx (by simp)) hn3
    | _ => cases e
theorem Ow.focus {F H : Hp} (sFH : Same F H) {π : List Sp1} {u : V} {x o : OD} {ms : List Addr} (h : Ow F H u x ms) (e : subO x π = some o) : ∃ w m R, Foc F H π u x o ms w m R := h.focusT (fun a ts z => sFH a _ z) e
/-! ### trees without a locked dict -/
mutual
inductive NL : OD → Prop
  | v {d : PyData} : NL (.v d)
  | lst {xs : List OD} : NLs xs → NL (.lst xs)
  | tup {xs : List OD} : NLs xs → NL (.tup xs)
  | di {xs : List (Int × OD)} : NLs (xs.map (·.2)) → NL (.di xs)
  | dp {xs : List ((Int × Int) × OD)} : NLs (xs.map (·.2)) → NL (.dp xs)
  | ins {C : Addr} {xs : List (Str × OD)} : NLs (xs.map (·.2)) → NL (.ins C xs)
inductive NLs : List OD → Prop
  | nil : NLs []
  | cons {x : OD} {xs : List OD} : NL x → NLs xs → NLs (x :: xs)
end
theorem NLs.of : ∀ {xs : List OD}, (∀ x ∈ xs, NL x) → NLs xs
  | [], _ => .nil
  | x :: xs, h => .cons (h x (by simp)) (NLs.of fun y hy => h y (by simp [hy]))
class NoLk {α : Type} (e : α → OD) : Prop where
  h : ∀ x, NL (e x)
/-! ### a part put in and taken back -/
theorem subO_setO : ∀ {π : List Sp1} {od o o' : OD}, subO od π = some o → subO (setO π od o') π = some o'
  | [], od, o, o', _ => by cases o' <;> rfl
  | s :: π, od, o, o', h => by
    cases od with
    | v _ => cases s <;> cases h
    | dp _ => cases s <;> cases h
    | dik _ _ _ _ => cases s <;> cases h
    | dpk _ _ _ _ => cases s <;> cases h
    | lst xs =>
      cases s with
      | ix i =>
        obtain ⟨y, h1, h2⟩ := bind_some' (show xs[i]?.bind (fun o => subO o π) = some o from h)
        have hs : setO (.ix i :: π) (.lst xs) o' = .lst (xs.set i (setO π y o')) := by show OD.lst _ = _; rw [h1]
        rw [hs]
        show (xs.set i (setO π y o'))[i]?.bind (fun o => subO o π) = _
        rw [List.getElem?_set_self (List.getElem?_eq_some_iff.mp h1).1]
        exact subO_setO h2
      | _ => cases h
    | tup xs =>
      cases s with
      | tp i =>
        obtain ⟨y, h1, h2⟩ := bind_some' (show xs[i]?.bind (fun o => subO o π) = some o from h)
        have hs : setO (.tp i :: π) (.tup xs) o' = .tup (xs.set i (setO π y o')) := by show OD.tup _ = _; rw [h1]
        rw [hs]
        show (xs.set i (setO π y o'))[i]?.bind (fun o => subO o π) = _
        rw [List.getElem?_set_self (List.getElem?_eq_some_iff.mp h1).1]
        exact subO_setO h2
      | _ => cases h
    | di xs =>
      cases s with
      | ki k =>
        obtain ⟨y, h1, h2⟩ := bind_some' (show (dget xs k).bind (fun o => subO o π) = some o from h)
        obtain ⟨i, j1, j2⟩ := dget_ix h1
        have hs : setO (.ki k :: π) (.di xs) o' = .di (xs.set i (k, setO π y o')) := by
          show OD.di _ = _
          rw [j1]
          simp only [j2]
        rw [hs]
        show (dget (xs.set i (k, setO π y o')) k).bind (fun o => subO o π) = _
        have j1' : kIx (xs.set i (k, setO π y o')) k = some i := by rw [← j1]; exact kIx_keys (map_set_fst j2)
        obtain ⟨z, q1, q2⟩ := ix_dget j1'
        rw [List.getElem?_set_self (List.getElem?_eq_some_iff.mp j2).1] at q1
        have hz : z = setO π y o' := by have := Option.some.inj q1; exact (Prod.mk.inj this).2.symm
        rw [q2, hz]
        exact subO_setO h2
      | _ => cases h
    | ins C xs =>
      cases s with
      | fld k =>
        obtain ⟨y, h1, h2⟩ := bind_some' (show (xs.lookup k).bind (fun o => subO o π) = some o from h)
        obtain ⟨i, j1, j2⟩ := lookup_ix h1
        have hs : setO (.fld k :: π) (.ins C xs) o' = .ins C (xs.set i (k, setO π y o')) := by
          show OD.ins C _ = _
          rw [j1]
          simp only [j2]
        rw [hs]
        show ((xs.set i (k, setO π y o')).lookup k).bind (fun o => subO o π) = _
        have j1' : kIx (xs.set i (k, setO π y o')) k = some i := by rw [← j1]; exact kIx_keys (map_set_fst j2)
        obtain ⟨z, q1, q2⟩ := ix_lookup j1'
        rw [List.getElem?_set_self (List.getElem?_eq_some_iff.mp j2).1] at q1
        have hz : z = setO π y o' := by have := Option.some.inj q1; exact (Prod.mk.inj this).2.symm
        rw [q2, hz]
        exact subO_setO h2
      | _ => cases h
theorem set_id {α : Type} {xs : List α} {i : Nat} {x : α} (h : xs[i]? = some x) : xs.set i x = xs := by
  obtain ⟨hlt, hu⟩ := List.getElem?_eq_some_iff.mp h
  rw [← hu]
  exact List.set_getElem_self hlt
theorem setO_back : ∀ {π : List Sp1} {od o o' : OD}, subO od π = some o → setO π (setO π od o') o = od
  | [], od, o, o', h => by
    have h : some od = some o := by cases od <;> exact h
    cases h
    rfl
  | s :: π, od, o, o', h => by
    cases od with
    | v _ => cases s <;> cases h
    | dp _ => cases s <;> cases h
    | dik _ _ _ _ => cases s <;> cases h
    | dpk _ _ _ _ => cases s <;> cases h
    | lst xs =>
      cases s with
      | ix i =>
        obtain ⟨y, h1, h2⟩ := bind_some' (show xs[i]?.bind (fun o => subO o π) = some o from h)
        have hs : ∀ o', setO (.ix i :: π) (.lst xs) o' = .lst (xs.set i (setO π y o')) := fun o' => by show OD.lst _ = _; rw [h1]
        rw [hs]
        show OD.lst _ = _
        rw [List.getElem?_set_self (List.getElem?_eq_some_iff.mp h1).1]
        simp only
        rw [setO_back h2, List.set_set, set_id h1]
      | _ => cases h
    | tup xs =>
      cases s with
      | tp i =>
        obtain ⟨y, h1, h2⟩ := bind_some' (show xs[i]?.bind (fun o => subO o π) = some o from h)
        have hs : ∀ o', setO (.tp i :: π) (.tup xs) o' = .tup (xs.set i (setO π y o')) := fun o' => by show OD.tup _ = _; rw [h1]
        rw [hs]
        show OD.tup _ = _
        rw [List.getElem?_set_self (List.getElem?_eq_some_iff.mp h1).1]
        simp only
        rw [setO_back h2, List.set_set, set_id h1]
      | _ => cases h
    | di xs =>
      cases s with
      | ki k =>
        obtain ⟨y, h1, h2⟩ := bind_some' (show (dget xs k).bind (fun o => subO o π) = some o from h)
        obtain ⟨i, j1, j2⟩ := dget_ix h1
        have hs : setO (.ki k :: π) (.di xs) o' = .di (xs.set i (k, setO π y o')) := by
          show OD.di _ = _
          rw [j1]
          simp only [j2]
        rw [hs]
        have j1' : kIx (xs.set i (k, setO π y o')) k = some i := by rw [← j1]; exact kIx_keys (map_set_fst j2)
        show OD.di _ = _
        rw [j1']
        simp only [List.getElem?_set_self (List.getElem?_eq_some_iff.mp j2).1]
        rw [setO_back h2, List.set_set, set_id j2]
      | _ => cases h
    | ins C xs =>
      cases s with
      | fld k =>
        obtain ⟨y, h1, h2⟩ := bind_some' (show (xs.lookup k).bind (fun o => subO o π) = some o from h)
        obtain ⟨i, j1, j2⟩ := lookup_ix h1
        have hs : setO (.fld k :: π) (.ins C xs) o' = .ins C (xs.set i (k, setO π y o')) := by
          show OD.ins C _ = _
          rw [j1]
          simp only [j2]
        rw [hs]
        have j1' : kIx (xs.set i (k, setO π y o')) k = some i := by rw [← j1]; exact kIx_keys (map_set_fst j2)
        show OD.ins C _ = _
        rw [j1']
        simp only [List.getElem?_set_self (List.getElem?_eq_some_iff.mp j2).1]
        rw [setO_back h2, List.set_set, set_id j2]
      | _ => cases h
end Tw
/-! Trees that are read. -/
namespace Tw
open PySem L2
/-! ### keys of dicts -/
class Ky (κ : Type) [DecidableEq κ] [Em κ] where
  ho : List (κ × V) → HO
  od : List (κ × OD) → OD
  odk : Addr → Obj → List (κ × V) → List (κ × OD) → OD
  inv : ∀ {F H : Hp} {v : V} {xs : List (κ × OD)} {ms : List Addr}, Ow F H v (od xs) ms → ∃ p kv ms', v = .ref p ∧ H p = some (ho kv) ∧ OwL F H (kv.map (·.2)) (xs.map (·.2)) ms' ∧ kv.map (·.1) = xs.map (·.1) ∧ p ∉ ms' ∧ ms = p :: ms'
  mkd : ∀ {F H : Hp} {p : Addr} {kv : List (κ × V)} {xs : List (κ × OD)} {ms : List Addr}, H p = some (ho kv) → OwL F H (kv.map (·.2)) (xs.map (·.2)) ms → kv.map (·.1) = xs.map (·.1) → p ∉ ms → Ow F H (.ref p) (od xs) (p :: ms)
  invk : ∀ {F H : Hp} {v : V} {p : Addr} {ob : Obj} {kv : List (κ × V)} {xs : List (κ × OD)} {ms : List Addr}, Ow F H v (odk p ob kv xs) ms → v = .ref p ∧ F p = some (.frz ob (ho kv)) ∧ OwL F H (kv.map (·.2)) (xs.map (·.2)) ms ∧ kv.map (·.1) = xs.map (·.1)
  mkk : ∀ {F H : Hp} {p : Addr} {ob : Obj} {kv : List (κ × V)} {xs : List (κ × OD)} {ms : List Addr}, F p = some (.frz ob (ho kv)) → OwL F H (kv.map (·.2)) (xs.map (·.2)) ms → kv.map (·.1) = xs.map (·.1) → Ow F H (.ref p) (odk p ob kv xs) ms
  get : ∀ {kv : List (κ × V)} {p : Addr} {H : Hp} {w : V} {k : κ}, Rd H p (ho kv) → Rp H w (em k) → DGet H p w (dget kv k)
  put : ∀ {kv : List (κ × V)} {p : Addr} {H : Hp} {w v : V} {k : κ}, H p = some (ho kv) → Rp H w (em k) → kv.length < sizeLine → DPut H p w v (upd H p (ho (dput kv k v)))
  nt : ∀ kv xs, ho kv ≠ .tup xs
  nl : ∀ kv xs, ho kv ≠ .lst xs
  nf : ∀ kv o u, ho kv ≠ .frz o u
  mutb : ∀ kv, Mut (some (ho kv))
  hinj : ∀ {a b : List (κ × V)}, ho a = ho b → a = b
  nlk : ∀ {xs : List (κ × OD)}, NLs (xs.map (·.2)) → NL (od xs)
  isd : ∀ {H : Hp} {p : Addr} {kv : List (κ × V)}, Rd H p (ho kv) → IsD H p
  itk : Addr → Obj → List (κ × V) → L2.It
  ik : ∀ {H1 : Hp} {R : L2.It → Hp → Prop} {d : Addr} {o : Obj} {kv : List (κ × V)}, H1 d = some (.frz o (ho kv)) → R (itk d o kv) H1 → ((∃ kvs, H1 d = some (.frz o (.dK kvs)) ∧ R (L2.Itk d o kvs) H1) ∨ ∃ kvs, H1 d = some (.frz o (.dT kvs)) ∧ R (L2.Itkt d o kvs) H1)
  walk : ∀ {d : Addr} {o : Obj} {kv : List (κ × V)}, L2.Walk (itk d o kv) kv.length (fun H => H d = some (.frz o (ho kv))) (fun i H x H' => H' = H ∧ ∃ y, kv[i]? = some y ∧ ∀ F, Same F H → Rp (tupF F H) x (em y.1))
instance : Ky Int where
  ho := diO
  od := .di
  odk := .dik
  inv h := by cases h with | di h r e n => exact ⟨_, _, _, rfl, h, r, e, n, rfl⟩
  mkd := .di
  invk h := by cases h with | dik h r e => exact ⟨rfl, h, r, e⟩
  mkk := .dik
  get {kv p H w k} hp r := by
    cases rp_int r
    have e := valV_map (κ' := L2.Key) (f := fun i : Int => (Sum.inl i : L2.Key)) (fun a b h => Sum.inl.inj h) kv k
    have : DGet H p (.int k) (valV (kv.map fun x => ((Sum.inl x.1 : L2.Key), x.2)) (Sum.inl k)) := .inl ⟨_, Sum.inl k, hp, rfl, rfl⟩
    rw [show (kv.map fun x => ((Sum.inl x.1 : L2.Key), x.2)) = mapK (fun i : Int => (Sum.inl i : L2.Key)) kv from rfl, e] at this
    exact this
  put {kv p H w v k} hp r hl := by
    cases rp_int r
    have e := putK_map (κ' := L2.Key) (f := fun i : Int => (Sum.inl i : L2.Key)) (fun a b h => Sum.inl.inj h) kv k v
    have := DPut.k (H := H) (a := p) (k := Sum.inl k) (v := v) (kvs := mapK (fun i : Int => (Sum.inl i : L2.Key)) kv) hp (by unfold mapK; rw [List.length_map]; exact hl)
    rw [e] at this
    exact this
  nt kv xs z := nomatch z
  nl kv xs z := nomatch z
  nf kv o u z := nomatch z
  mutb kv := trivial
  nlk := .di
  hinj {a b} h := by
    have h := HO.dK.inj h
    have e : Function.Injective fun x : Int × V => ((Sum.inl x.1 : L2.Key), x.2) := fun x y q => by
      simp only [Prod.mk.injEq, Sum.inl.injEq] at q
      exact Prod.ext q.1 q.2
    exact (List.map_inj_right fun x y q => e q).mp h
  isd h := .inl ⟨_, h⟩
  itk d o kv := L2.Itk d o (kv.map fun x => (Sum.inl x.1, x.2))
  ik h r := .inl ⟨_, h, r⟩
  walk {d o kv} := by
    have wk := L2.walk_keys (d := d) (o := o) (kvs := kv.map fun x => ((Sum.inl x.1 : L2.Key), x.2))
    rw [List.length_map] at wk
    refine L2.Walk.mono wk (fun _ h => h) fun i H x H' _ _ y => ?_
    obtain ⟨e, k, v, h1, h2⟩ := y
    refine ⟨e, ?_⟩
    rw [List.getElem?_map] at h1
    cases hy : kv[i]? with
    | none => rw [hy] at h1; cases h1
    | some z =>
      rw [hy] at h1
      cases h1
      exact ⟨z, rfl, fun F _ => by rw [h2]; exact .int _⟩
instance : Ky PP where
  ho := dpO
  od := .dp
  odk := .dpk
  inv h := by cases h with | dp h r e n => exact ⟨_, _, _, rfl, h, r, e, n, rfl⟩
  mkd := .dp
  invk h := by cases h with | dpk h r e => exact ⟨rfl, h, r, e⟩
  mkk := .dpk
  get {kv p H w k} hp r := by
    obtain ⟨b, x1, x2', rfl, hb, ra, rb⟩ := rp_pair r
    rw [rp_int ra, rp_int rb] at hb
    have e := valV_map (κ' := List L2.Key) (f := kyP) kyP_inj kv k
    have : DGet H p (.ref b) (valV (mapK kyP kv) (kyP k)) := .inr ⟨mapK kyP kv, kyP k, b, hp, rfl, hb, rfl⟩
    rw [e] at this
    exact this
  put {kv p H w v k} hp r hl := by
    obtain ⟨b, x1, x2', rfl, hb, ra, rb⟩ := rp_pair r
    rw [rp_int ra, rp_int rb] at hb
    have e := putK_map (κ' := List L2.Key) (f := kyP) kyP_inj kv k v
    have := DPut.t (H := H) (a := p) (b := b) (k := kyP k) (v := v) (kvs := mapK kyP kv) hp hb (by unfold mapK; rw [List.length_map]; exact hl)
    rw [e] at this
    exact this
  nt kv xs z := nomatch z
  nl kv xs z := nomatch z
  nf kv o u z := nomatch z
  mutb kv := trivial
  nlk := .dp
  hinj {a b} h := by
    have h := HO.dT.inj h
    have e : Function.Injective fun x : PP × V => (([Sum.inl x.1.1, Sum.inl x.1.2] : List L2.Key), x.2) := fun x y q => by
      simp only [Prod.mk.injEq, List.cons.injEq, Sum.inl.injEq, and_true] at q
      exact Prod.ext (Prod.ext q.1.1 q.1.2) q.2
    exact (List.map_inj_right fun x y q => e q).mp h
  isd h := .inr ⟨_, h⟩
  itk d o kv := L2.Itkt d o (kv.map fun x => ([Sum.inl x.1.1, Sum.inl x.1.2], x.2))
  ik h r := .inr ⟨_, h, r⟩
  walk {d o kv} := by
    have wk := L2.walk_keysT (d := d) (o := o) (kvs := kv.map fun x => (([Sum.inl x.1.1, Sum.inl x.1.2] : List L2.Key), x.2))
    rw [List.length_map] at wk
    refine L2.Walk.mono wk (fun _ h => h) fun i H x H' _ _ y => ?_
    obtain ⟨e, k, v, q, h1, h2, h3⟩ := y
    refine ⟨e, ?_⟩
    rw [List.getElem?_map] at h1
    cases hy : kv[i]? with
    | none => rw [hy] at h1; cases h1
    | some z =>
      rw [hy] at h1
      cases h1
      exact ⟨z, rfl, fun F sF => by rw [h2]; exact .tup (tupF_at sF h3) (.cons (.int _) (.cons (.int _) .nil))⟩

/-! ### how things are laid -/
def eV {α : Type} [Em α] (x : α) : OD := .v (em x)
def eL {α : Type} (e : α → OD) (xs : List α) : OD := .lst (xs.map e)
def eT2 {α β : Type} (e : α → OD) (f : β → OD) (x : α × β) : OD := .tup [e x.1, f x.2]
def eT4 {α β γ δ : Type} (e : α → OD) (f : β → OD) (g : γ → OD) (h : δ → OD) (x : T4 α β γ δ) : OD := .tup [e x.a, f x.b, g x.c, h x.d]
def eD {κ α : Type} [DecidableEq κ] [Em κ] [Ky κ] (e : α → OD) (kvs : List (κ × α)) : OD := Ky.od (kvs.map fun x => (x.1, e x.2))
def eDk {κ α : Type} [DecidableEq κ] [Em κ] [Ky κ] (p : Addr) (ob : Obj) (kv : List (κ × V)) (e : α → OD) (kvs : List (κ × α)) : OD := Ky.odk p ob kv (kvs.map fun x => (x.1, e x.2))
def eO {α : Type} (e : α → OD) : Option α → OD
  | none => .v .none
  | some x => e x
instance {α : Type} [Em α] : NoLk (eV (α := α)) := ⟨fun _ => .v⟩
instance {α : Type} {e : α → OD} [h : NoLk e] : NoLk (eL e) := ⟨fun xs => .lst (.of fun y hy => by
  obtain ⟨x, _, rfl⟩ := List.mem_map.mp hy
  exact h.h x)⟩
instance {α β : Type} {e : α → OD} {f : β → OD} [h : NoLk e] [h2 : NoLk f] : NoLk (eT2 e f) := ⟨fun x => .tup (.cons (h.h _) (.cons (h2.h _) .nil))⟩
instance {α β γ δ : Type} {e : α → OD} {f : β → OD} {g : γ → OD} {k : δ → OD} [h : NoLk e] [h2 : NoLk f] [h3 : NoLk g] [h4 : NoLk k] : NoLk (eT4 e f g k) := ⟨fun x => .tup (.cons (h.h _) (.cons (h2.h _) (.cons (h3.h _) (.cons (h4.h _) .nil))))⟩
instance {κ α : Type} [DecidableEq κ] [Em κ] [Ky κ] {e : α → OD} [h : NoLk e] : NoLk (eD (κ := κ) e) := ⟨fun kvs => Ky.nlk (.of fun y hy => by
  rw [List.map_map] at hy
  obtain ⟨x, _, rfl⟩ := List.mem_map.mp hy
  exact h.h x.2)⟩
instance {α : Type} {e : α → OD} [h : NoLk e] : NoLk (eO e) := ⟨fun x => by
  cases x with
  | none => exact .v
  | some y => exact h.h y⟩
mutual
/-- a tree as data, where it is but lists and tuples -/
def toD : OD → Option PyData
  | .v d => some d
  | .lst xs => (toDs xs).map .list
  | .tup xs => (toDs xs).map .tuple
  | _ => none
def toDs : List OD → Option (List PyData)
  | [] => some []
  | x :: xs => (toD x).bind fun d => (toDs xs).map fun ds => d :: ds
end
/-- laid as data are -/
def Dat {α : Type} [Em α] (e : α → OD) : Prop := ∀ x, toD (e x) = some (em x)
section
variable {α β γ δ : Type} [Em α] [Em β] [Em γ] [Em δ]
theorem dat_V : Dat (eV (α := α)) := fun x => by unfold eV; simp [toD]
theorem toDs_map {e : α → OD} (h : Dat e) : ∀ xs : List α, toDs (xs.map e) = some (xs.map em)
  | [] => by simp [toDs]
  | x :: xs => by
    simp only [List.map_cons, toDs]
    rw [h x, toDs_map h xs]
    rfl
theorem dat_L {e : α → OD} (h : Dat e) : Dat (eL e) := fun xs => by
  unfold eL
  simp only [toD]
  rw [toDs_map h]
  rfl
theorem dat_T2 {e : α → OD} {f : β → OD} (h : Dat e) (h2 : Dat f) : Dat (eT2 e f) := fun x => by
  unfold eT2
  simp only [toD, toDs]
  rw [h, h2]
  rfl
theorem dat_T4 {e : α → OD} {f : β → OD} {g : γ → OD} {k : δ → OD} (h : Dat e) (h2 : Dat f) (h3 : Dat g) (h4 : Dat k) : Dat (eT4 e f g k) := fun x => by
  unfold eT4
  simp only [toD, toDs]
  rw [h, h2, h3, h4]
  rfl
theorem dat_O {e : α → OD} (h : Dat e) : Dat (eO e) := fun x => by
  cases x with
  | none => unfold eO; simp only [toD]; rfl
  | some y => exact h y
end
mutual
theorem Ow.toRp {F H G : Hp} (sF : Same F G) : ∀ {x : V} {o : OD} {ms : List Addr} {d : PyData}, (∀ a ∈ ms, ∀ u, H a = some u → G a = some u) → Ow F H x o ms → toD o = some d → Rp G x d
  | _, _, _, _, _, .v r, e => by
    simp only [toD, Option.some.injEq] at e
    subst e
    exact r.mono sF
  | _, _, _, _, k, .lst (xs := xs) h r n, e => by
    simp only [toD] at e
    cases h2 : toDs xs with
    | none => rw [h2] at e; cases e
    | some ds =>
      rw [h2] at e
      cases e
      exact .lst (k _ (by simp) _ h) (OwL.toRp sF (fun a ha => k a (by simp [ha])) r h2)
  | _, _, _, _, k, .tup (xs := xs) h r, e => by
    simp only [toD] at e
    cases h2 : toDs xs with
    | none => rw [h2] at e; cases e
    | some ds =>
      rw [h2] at e
      cases e
      exact .tup (sF _ _ h) (OwL.toRp sF k r h2)
  | _, _, _, _, _, .di _ _ _ _, e => by simp [toD] at e
  | _, _, _, _, _, .dp _ _ _ _, e => by simp [toD] at e
  | _, _, _, _, _, .dik _ _ _, e => by simp [toD] at e
  | _, _, _, _, _, .dpk _ _ _, e => by simp [toD] at e
  | _, _, _, _, _, .ins _ _ _ _ _ _ _, e => by simp [toD] at e
theorem OwL.toRp {F H G : Hp} (sF : Same F G) : ∀ {vs : List V} {xs : List OD} {ms : List Addr} {ds : List PyData}, (∀ a ∈ ms, ∀ u, H a = some u → G a = some u) → OwL F H vs xs ms → toDs xs = some ds → RpA G vs ds
  | _, _, _, _, _, .nil, e => by
    simp only [toDs, Option.some.injEq] at e
    subst e
    exact .nil
  | _, _, _, _, k, .cons (o := o) (xs := xs) h r d, e => by
    simp only [toDs] at e
    obtain ⟨d0, h1, e⟩ := bind_some' e
    cases h2 : toDs xs with
    | none => rw [h2] at e; cases e
    | some ds0 =>
      rw [h2] at e
      cases e
      exact .cons (Ow.toRp sF (fun a ha => k a (by simp [ha])) h h1) (OwL.toRp sF (fun a ha => k a (by simp [ha])) r h2)
end
theorem OwL.vals {α : Type} [Em α] {F H : Hp} : ∀ {vs : List V} {xs : List α} {ms : List Addr}, OwL F H vs (xs.map eV) ms → RpA F vs (xs.map em) ∧ ms = []
  | _, [], _, h => by cases h; exact ⟨.nil, rfl⟩
  | _, x :: xs, _, h => by
    cases h with
    | cons h r d =>
      cases h with
      | v h =>
        obtain ⟨r1, r2⟩ := OwL.vals r
        subst r2
        exact ⟨.cons h r1, rfl⟩
theorem OwL.ofVals {α : Type} [Em α] {F H : Hp} : ∀ {vs : List V} {xs : List α}, RpA F vs (xs.map em) → OwL F H vs (xs.map eV) []
  | _, [], h => by cases h; exact .nil
  | _, x :: xs, h => by
    cases h with
    | cons h r => exact .cons (m1 := []) (m2 := []) (.v h) (OwL.ofVals r) (fun a z => by cases z)
theorem ow_list {α : Type} {e : α → OD} {F H : Hp} {v : V} {xs : List α} {ms : List Addr} (h : Ow F H v (eL e xs) ms) : ∃ p vs ms', v = .ref p ∧ H p = some (.lst vs) ∧ OwL F H vs (xs.map e) ms' ∧ p ∉ ms' ∧ ms = p :: ms' := by
  unfold eL at h
  cases h with
  | lst h r n => exact ⟨_, _, _, rfl, h, r, n, rfl⟩
theorem OwL.at' {F H : Hp} {vs : List V} {xs : List OD} {ms : List Addr} {i : Int} {o : OD} (r : OwL F H vs xs ms) (h : atI xs i = some o) : ∃ u m, atI vs i = some u ∧ Ow F H u o m := by
  unfold atI at h ⊢
  rw [r.len]
  cases e : ixN xs.length i with
  | none => rw [e] at h; cases h
  | some j =>
    rw [e] at h
    obtain ⟨u, m, R, h1, h2, _⟩ := r.get h
    exact ⟨u, m, h1, h2⟩
theorem dget_map {κ α β : Type} [DecidableEq κ] (f : α → β) (kvs : List (κ × α)) (k : κ) : dget (kvs.map fun x => (x.1, f x.2)) k = (dget kvs k).map f := by
  unfold dget
  rw [List.find?_map, Option.map_map, Option.map_map]
  rfl
theorem owl_key {κ : Type} [DecidableEq κ] {F H : Hp} : ∀ {kv : List (κ × V)} {xs : List (κ × OD)} {ms : List Addr} (k : κ), OwL F H (kv.map (·.2)) (xs.map (·.2)) ms → kv.map (·.1) = xs.map (·.1) → (dget kv k = none ∧ dget xs k = none) ∨ ∃ u o m, dget kv k = some u ∧ dget xs k = some o ∧ Ow F H u o m
  | [], [], _, _, _, _ => .inl ⟨rfl, rfl⟩
  | [], _ :: _, _, _, _, h => by cases h
  | _ :: _, [], _, _, _, h => by cases h
  | (k1, u) :: kv, (k2, o) :: xs, _, k, r, h => by
    simp only [List.map_cons, List.cons.injEq] at h
    obtain ⟨rfl, h⟩ := h
    simp only [List.map_cons] at r
    cases r with
    | cons r1 r2 _ =>
      unfold dget
      by_cases e : k1 = k
      · rw [List.find?_cons_of_pos (by simpa using e), List.find?_cons_of_pos (by simpa using e)]
        exact .inr ⟨u, o, _, rfl, rfl, r1⟩
      · rw [List.find?_cons_of_neg (by simpa using e), List.find?_cons_of_neg (by simpa using e)]
        exact owl_key k r2 h

/-! ### reading -/
def EvR (K : PySem.W.Frag) (ds : List Sl) (m : Md) (te : TE) {β : Type} (e : β → OD) (o : Option β) : Prop := ∀ y, o = some y → ∀ B F M H σ Q, Env K B F M H σ ds →
  (∀ w ms F' H', Ext F H F' H' → Ow F' (hp m B F' H') w (e y) ms → Q w H') → te σ H Q
/-- a list whose items are frozen -/
def EvFl (K : PySem.W.Frag) (ds : List Sl) (te : TE) {α : Type} [Em α] (o : Option (List α)) : Prop := ∀ xs, o = some xs → ∀ B F M H σ Q, Env K B F M H σ ds →
  (∀ p vs F' H', Ext F H F' H' → H' p = some (.lst vs) → RpA F' vs (xs.map em) → Q (.ref p) H') → te σ H Q
def oixT2a {α β : Type} (o : Option (α × β)) : Option α := o.map (·.1)
/-- a dict's node, locked or not -/
def Dk {κ : Type} [DecidableEq κ] [Em κ] [Ky κ] (o : OD) (xs : List (κ × OD)) : Prop := o = Ky.od xs ∨ ∃ p ob kv, o = Ky.odk p ob kv xs
theorem Ow.dk {κ : Type} [DecidableEq κ] [Em κ] [Ky κ] {F H G : Hp} {v : V} {o : OD} {xs : List (κ × OD)} {ms : List Addr} (sF : Same F G) (sH : Same H G) (h : Ow F H v o ms) (d : Dk o xs) : ∃ p kv ms', v = .ref p ∧ Rd G p (Ky.ho kv) ∧ OwL F H (kv.map (·.2)) (xs.map (·.2)) ms' ∧ kv.map (·.1) = xs.map (·.1) := by
  rcases d with rfl | ⟨p, ob, kv, rfl⟩
  · obtain ⟨p, kv, ms', e, h1, h2, h3, _⟩ := Ky.inv h
    exact ⟨p, kv, ms', e, .inl (sH _ _ h1), h2, h3⟩
  · obtain ⟨e, h1, h2, h3⟩ := Ky.invk h
    exact ⟨p, kv, ms, e, .inr ⟨_, sF _ _ h1⟩, h2, h3⟩
theorem dk_D {κ α : Type} [DecidableEq κ] [Em κ] [Ky κ] {e : α → OD} (kvs : List (κ × α)) : Dk (eD e kvs) (kvs.map fun x => (x.1, e x.2)) := .inl rfl
theorem dk_k {κ α : Type} [DecidableEq κ] [Em κ] [Ky κ] {p : Addr} {ob : Obj} {kv : List (κ × V)} {e : α → OD} (kvs : List (κ × α)) : Dk (eDk p ob kv e kvs) (kvs.map fun x => (x.1, e x.2)) := .inr ⟨p, ob, kv, rfl⟩
theorem rd_mono {H H' : Hp} {p : Addr} {u : HO} (s : Same H H') (h : Rd H p u) : Rd H' p u := h.imp (s _ _) fun ⟨o, z⟩ => ⟨o, s _ _ z⟩
def odinB {κ β : Type} [DecidableEq κ] (k : Option κ) (d : Option (List (κ × β))) : Option Bool := k.bind fun k => d.map fun kvs => (dget kvs k).isSome
def odninB {κ β : Type} [DecidableEq κ] (k : Option κ) (d : Option (List (κ × β))) : Option Bool := k.bind fun k => d.map fun kvs => !(dget kvs k).isSome
def odgetB {κ β : Type} [DecidableEq κ] (d : Option (List (κ × β))) (k : Option κ) : Option β := d.bind fun kvs => k.bind fun k => dget kvs k
def odgetOB {κ β : Type} [DecidableEq κ] (d : Option (List (κ × β))) (k : Option κ) : Option (Option β) := d.bind fun kvs => k.map fun k => dget kvs k
def odgetZB {κ β : Type} [DecidableEq κ] (d : Option (List (κ × β))) (k : Option κ) (z : Option β) : Option β := d.bind fun kvs => k.bind fun k => z.map fun z => (dget kvs k).getD z
section
variable {K : PySem.W.Frag} {ds : List Sl} {ta tb tc te td : TE} {m m1 m2 m3 : Md} {α β γ δ κ : Type}
theorem er_tr {i : Nat} {v : V} {e : β → OD} (x : β) (h : ds[i]? = some (.tr v (e x))) : EvR K ds .h (tVar i) e (some x) := fun y hy B F M H σ Q E q => by
  cases hy
  obtain ⟨_, _, e1, ms, h1, _⟩ := E.at h
  exact ⟨v, e1, q v ms F H (Ext.refl E.sF) h1⟩
theorem er_ow {i : Nat} {e : β → OD} (x : β) (h : ds[i]? = some (.ow (e x))) : EvR K ds .h (tVar i) e (some x) := fun y hy B F M H σ Q E q => by
  cases hy
  obtain ⟨_, _, v, e1, ms, h1, _⟩ := E.at h
  exact ⟨v, e1, q v ms F H (Ext.refl E.sF) h1⟩
theorem er_rt {i : Nat} {e : β → OD} (x : β) (h : ds[i]? = some (.rt (e x))) : EvR K ds .b (tVar i) e (some x) := fun y hy B F M H σ Q E q => by
  cases hy
  obtain ⟨_, _, v, e1, ms, h1⟩ := E.at h
  exact ⟨v, e1, q v ms F H (Ext.refl E.sF) h1⟩
theorem er_rtp {i : Nat} {v : V} {e : β → OD} (x : β) (h : ds[i]? = some (.rtp v (e x))) : EvR K ds .b (tVar i) e (some x) := fun y hy B F M H σ Q E q => by
  cases hy
  obtain ⟨_, _, e1, ms, h1⟩ := E.at h
  exact ⟨v, e1, q v ms F H (Ext.refl E.sF) h1⟩
/-- an attribute -/
theorem er_fld {f : Str} {eC : α → OD} {e : β → OD} {g : α → β} {C : Addr} {fs : α → List (Str × OD)} {o : Option α} (h : EvR K ds m te eC o) (hC : ∀ y, eC y = .ins C (fs y)) (cl : Cls K C) (na : NoAttr K C f) (hf : ∀ y, (fs y).lookup f = some (e (g y))) : EvR K ds m (tFld K te f) e (o.map g) := fun y hy B F M H σ Q E q => by
  cases o with
  | none => cases hy
  | some z =>
    cases hy
    refine h z rfl B F M H σ _ E fun w ms F' H' x hw => ?_
    rw [hC] at hw
    cases hw with
    | @ins p dx C fv xs ms' hp hdx r hk hn hn2 hn3 =>
      obtain ⟨i, j1, j2⟩ := lookup_ix (hf z)
      obtain ⟨u, m1, R1, g1, g2, _⟩ := r.get (map_ix j2)
      obtain ⟨t, j4, j5⟩ := ix_lookup (fs := fv) (f := f) (i := i) (by rw [kIx_keys hk]; exact j1)
      have ht : t = u := by rw [map_ix j4] at g1; exact Option.some.inj g1
      subst ht
      exact ⟨p, C, dx, fv, t, rfl, hp_H (E.ext x) _ _ hp, cl, na, j5, q t m1 F' H' x g2⟩
/-- an item -/
theorem er_ix {e : β → OD} {o1 : Option (List β)} {o2 : Option Int} (h1 : EvR K ds m te (eL e) o1) (h2 : EvO K ds m2 tb o2) : EvR K ds m (tOp (rIxL K) te tb) e (oix o1 o2) := fun y hy B F M H σ Q E q => by
  obtain ⟨xs, k, e1, e2, e3⟩ := obin_some hy
  refine h1 xs e1 B F M H σ _ E fun w ms F1 H1 x1 hw => h2 k e2 B F1 M H1 σ _ (E.ext x1) fun v F2 H2 x2 r2 => ?_
  obtain ⟨p, vs, ms', rfl, hp, r, _, _⟩ := ow_list hw
  have r' := OwL.mono x2.sF (fun a _ u z => hp_mono (m := m) (B := B) x2 a u z) r
  obtain ⟨u, mu, h3, h4⟩ := r'.at' (i := k) (o := e y) (by rw [atI_map, e3]; rfl)
  exact ⟨p, vs, k, u, rfl, rp_int r2, SqL.of (x2.sH _ _ (hp_H (E.ext x1) _ _ hp)), h3, q u mu F2 H2 (x1.trans x2) h4⟩
/-- a part of a tuple -/
theorem er_t2a {e : α → OD} {f : β → OD} {o : Option (α × β)} (h : EvR K ds m te (eT2 e f) o) : EvR K ds m (tOp (rIxT K) te (tC (.int 0))) e (o.map (·.1)) := fun y hy B F M H σ Q E q => by
  cases o with
  | none => cases hy
  | some z =>
    cases hy
    refine h z rfl B F M H σ _ E fun w ms F1 H1 x1 hw => ?_
    unfold eT2 at hw
    cases hw with
    | tup hp r => cases r with
      | cons r1 r => cases r with
        | cons r2 r => cases r; exact ⟨_, _, 0, _, rfl, rfl, SqT.of (x1.sub _ _ hp), rfl, q _ _ F1 H1 x1 r1⟩
theorem er_t2b {e : α → OD} {f : β → OD} {o : Option (α × β)} (h : EvR K ds m te (eT2 e f) o) : EvR K ds m (tOp (rIxT K) te (tC (.int 1))) f (o.map (·.2)) := fun y hy B F M H σ Q E q => by
  cases o with
  | none => cases hy
  | some z =>
    cases hy
    refine h z rfl B F M H σ _ E fun w ms F1 H1 x1 hw => ?_
    unfold eT2 at hw
    cases hw with
    | tup hp r => cases r with
      | cons r1 r => cases r with
        | cons r2 r => cases r; exact ⟨_, _, 1, _, rfl, rfl, SqT.of (x1.sub _ _ hp), rfl, q _ _ F1 H1 x1 r2⟩
/-- a thing that may be None, where it is not -/
theorem er_some {e : β → OD} {o : Option (Option β)} (h : EvR K ds m te (eO e) o) : EvR K ds m te e (o.bind id) := fun y hy B F M H σ Q E q => by
  obtain ⟨z, e1, e2⟩ := bind_some' hy
  cases z with
  | none => cases e2
  | some z =>
    cases e2
    exact h _ e1 B F M H σ Q E q
/-- d[k], of things of any kind -/
theorem er_key [DecidableEq κ] [Em κ] [Ky κ] {e : β → OD} {eD' : List (κ × β) → OD} {o : Option (List (κ × β))} {ok : Option κ} (h : EvR K ds m td eD' o) (hd : ∀ kvs, Dk (eD' kvs) (kvs.map fun x => (x.1, e x.2))) (hk : EvO K ds m2 tb ok) : EvR K ds m (tDGet td tb) e (odgetB o ok) := fun y hy B F M H σ Q E q => by
  obtain ⟨kvs, e1, hy⟩ := bind_some' hy
  obtain ⟨kk, e2, e3⟩ := bind_some' hy
  refine h kvs e1 B F M H σ _ E fun w ms F1 H1 x1 hw => hk kk e2 B F1 M H1 σ _ (E.ext x1) fun v F2 H2 x2 r2 => ?_
  have hw2 := hw.same x2.sF (hp_mono (m := m) (B := B) x2)
  have E2 := (E.ext x1).ext x2
  obtain ⟨p, kv, ms', rfl, hr, r, hks⟩ := hw2.dk E2.sF (hp_H E2) (hd kvs)
  have dg := Ky.get hr (r2.mono (hp_H E2))
  have g := dget_map e kvs kk
  rw [e3] at g
  rcases owl_key kk r hks with ⟨a, b⟩ | ⟨u, od, mu, a, b, c⟩
  · rw [b] at g; cases g
  · rw [b] at g
    cases g
    rw [a] at dg
    exact ⟨p, u, rfl, dg, q u mu F2 H2 (x1.trans x2) c⟩
theorem ev_rV [Em β] {o : Option β} (h : EvR K ds m te eV o) : EvO K ds .f te o := fun y hy B F M H σ Q E q =>
  h y hy B F M H σ Q E fun w ms F' H' x hw => by
    unfold eV at hw
    cases hw with
    | v r => exact q w F' H' x r
/-- a tree that is data, read as it is now -/
theorem ev_rD [Em β] {e : β → OD} {o : Option β} (h : EvR K ds m te e o) (hd : Dat e) : EvO K ds .h te o := fun y hy B F M H σ Q E q =>
  h y hy B F M H σ Q E fun w ms F' H' x hw => q w F' H' x (hw.toRp x.sub (fun a _ u z => hp_H (E.ext x) _ _ z) (hd y))
theorem ev_rDf [Em β] {e : β → OD} {o : Option β} (h : EvR K ds .f te e o) (hd : Dat e) : EvO K ds .f te o := fun y hy B F M H σ Q E q =>
  h y hy B F M H σ Q E fun w ms F' H' x hw => q w F' H' x (hw.toRp (Same.refl _) (fun a _ u z => z) (hd y))
/-- is None | is not None, of a tree -/
theorem ev_risN {e : β → OD} {o : Option (Option β)} (hn : ∀ y F H v ms, Ow F H v (e y) ms → v ≠ .non) (h : EvR K ds m te (eO e) o) {r : V → V → Hp → VK → Prop} (hr : ∀ x H Q, Q (.bl (decide (x = .non))) H → r x .non H Q) : EvO K ds .f (tOp r te (tC .non)) (oisN o) := fun z hz B F M H σ Q E q => by
  cases o with
  | none => cases hz
  | some x =>
    cases hz
    refine h x rfl B F M H σ _ E fun w ms F' H' e1 hw => hr _ _ _ ?_
    have : decide (w = V.non) = x.isNone := by
      cases x with
      | none =>
        unfold eO at hw
        cases hw with
        | v r => cases r; rfl
      | some y => exact decide_eq_false (hn y _ _ _ _ hw)
    rw [this]
    exact q _ F' H' e1 (.bl _)
theorem ev_rnotN {e : β → OD} {o : Option (Option β)} (hn : ∀ y F H v ms, Ow F H v (e y) ms → v ≠ .non) (h : EvR K ds m te (eO e) o) {r : V → V → Hp → VK → Prop} (hr : ∀ x H Q, Q (.bl (!decide (x = .non))) H → r x .non H Q) : EvO K ds .f (tOp r te (tC .non)) (onotN o) := fun z hz B F M H σ Q E q => by
  cases o with
  | none => cases hz
  | some x =>
    cases hz
    refine h x rfl B F M H σ _ E fun w ms F' H' e1 hw => hr _ _ _ ?_
    have : (!decide (w = V.non)) = x.isSome := by
      cases x with
      | none =>
        unfold eO at hw
        cases hw with
        | v r => cases r; rfl
      | some y => rw [decide_eq_false (hn y _ _ _ _ hw)]; rfl
    rw [this]
    exact q _ F' H' e1 (.bl _)
theorem nn_L {e : β → OD} : ∀ y F H v ms, Ow F H v (eL e y) ms → v ≠ .non := fun y F H v ms h => by
  obtain ⟨p, _, _, rfl, _⟩ := ow_list h
  exact fun z => nomatch z
/-! ### lists whose items are frozen -/
theorem fl_f [Em α] {o : Option (List α)} (h : EvO K ds .f te o) : EvFl K ds te o := fun xs hx B F M H σ Q E q =>
  h xs hx B F M H σ Q E fun v F' H' x r => by
    obtain ⟨p, vs, rfl, hp, ra⟩ := rp_list r
    exact q p vs F' H' x (x.sub _ _ hp) ra
theorem fl_s [Em α] [Scl α] {o : Option (List α)} (h : EvO K ds m te o) : EvFl K ds te o := fun xs hx B F M H σ Q E q =>
  h xs hx B F M H σ Q E fun v F' H' x r => by
    obtain ⟨p, vs, rfl, hp, ra⟩ := rp_list r
    exact q p vs F' H' x (hp_H (E.ext x) _ _ hp) (conv_sc ra)
theorem fl_r [Em α] {o : Option (List α)} (h : EvR K ds m te (eL eV) o) : EvFl K ds te o := fun xs hx B F M H σ Q E q =>
  h xs hx B F M H σ Q E fun w ms F' H' x hw => by
    obtain ⟨p, vs, ms', rfl, hp, r, _, _⟩ := ow_list hw
    exact q p vs F' H' x (hp_H (E.ext x) _ _ hp) r.vals.1
theorem fl_L [Em α] {o : Option (List α)} (h : EvL K ds te o) : EvFl K ds te o := fun xs hx B F M H σ Q E q =>
  h xs hx B F M H σ Q E fun p vs F' H' x h1 h2 h3 r => q p vs F' H' x h3 r
/-- the script -/
theorem fl_scr {i : Nat} {ns : List Int} (h : ds[i]? = some (.scr ns)) : EvFl K ds (tVar i) (some ns) ∨ True := .inr trivial
theorem ev_flen [Em α] {o : Option (List α)} (h : EvFl K ds te o) : EvO K ds .f (tCB (rLen K) (tCons te tNil)) (olen o) := fun z hz B F M H σ Q E q => by
  cases o with
  | none => cases hz
  | some xs =>
    cases hz
    refine h xs rfl B F M H σ _ E fun p vs F' H' e hp ra => ⟨p, vs, rfl, .inl (SqL.of hp), ?_⟩
    have : (vs.length : Int) = (xs.length : Int) := by rw [ra.len, List.length_map]
    rw [this]
    exact q _ F' H' e (.int _)
theorem ev_rlen {e : β → OD} {o : Option (List β)} (h : EvR K ds m te (eL e) o) : EvO K ds .f (tCB (rLen K) (tCons te tNil)) (olen o) := fun z hz B F M H σ Q E q => by
  cases o with
  | none => cases hz
  | some xs =>
    cases hz
    refine h xs rfl B F M H σ _ E fun w ms F' H' x hw => ?_
    obtain ⟨p, vs, ms', rfl, hp, r, _, _⟩ := ow_list hw
    refine ⟨p, vs, rfl, .inl (SqL.of (hp_H (E.ext x) _ _ hp)), ?_⟩
    have : (vs.length : Int) = (xs.length : Int) := by rw [r.len, List.length_map]
    rw [this]
    exact q _ F' H' x (.int _)
theorem ev_fix [Em α] {o1 : Option (List α)} {o2 : Option Int} (h1 : EvFl K ds te o1) (h2 : EvO K ds m2 tb o2) : EvO K ds .f (tOp (rIxL K) te tb) (oix o1 o2) := fun z hz B F M H σ Q E q => by
  obtain ⟨xs, k, e1, e2, e3⟩ := obin_some hz
  refine h1 xs e1 B F M H σ _ E fun p vs F1 H1 x1 hp ra => h2 k e2 B F1 M H1 σ _ (E.ext x1) fun v F2 H2 x2 r2 => ?_
  obtain ⟨u, hu, ru⟩ := (ra.mono x2.sF).at (i := k) (d := em z) (by rw [atI_map, e3]; rfl)
  exact ⟨p, vs, k, u, rfl, rp_int r2, SqL.of (x2.sH _ _ hp), hu, q u F2 H2 (x1.trans x2) ru⟩
theorem el_fcut [Em α] {tl th : TO} {o : Option (List α)} {ol oh : Option (Option Int)} (h : EvFl K ds te o) (hl : EvB K ds tl ol) (hh : EvB K ds th oh) : EvL K ds (tSl (rSlL K) te tl th) (ocut o ol oh) := by
  intro zs hz B F M H σ Q E q
  obtain ⟨xs, e1, hz⟩ := bind_some' hz
  obtain ⟨l, e2, hz⟩ := bind_some' hz
  obtain ⟨u, e3, hz⟩ := bind_some' hz
  cases hz
  refine h xs e1 B F M H σ _ E fun p vs F1 H1 x1 hp ra => hl l e2 B F1 M H1 σ _ (E.ext x1) fun F2 H2 x2 => hh u e3 B F2 M H2 σ _ ((E.ext x1).ext x2) fun F3 H3 x3 => ?_
  have x23 := x2.trans x3
  have X := x1.trans x23
  refine ⟨p, vs, rfl, SqL.of (x23.sH _ _ hp), fun n hn => q n _ F3 _ (X.trans (Ext.new0 X.sub hn)) (none_of_same X.sub hn) (none_of_same X.sH hn) upd_same ?_⟩
  rw [← cutG_map]
  exact (ra.mono x23.sF).cut
theorem el_fstep [Em α] {tl th ts : TO} {o : Option (List α)} {ol oh os : Option (Option Int)} (h : EvFl K ds te o) (hl : EvB K ds tl ol) (hh : EvB K ds th oh) (hs : EvB K ds ts os) : EvL K ds (L2.tSl3 K te tl th ts) (ostep o ol oh os) := by
  intro zs hz B F M H σ Q E q
  obtain ⟨xs, e1, hz⟩ := bind_some' hz
  obtain ⟨l, e2, hz⟩ := bind_some' hz
  obtain ⟨u, e3, hz⟩ := bind_some' hz
  obtain ⟨k, e4, hz⟩ := bind_some' hz
  split at hz
  · rename_i hk
    cases hz
    refine h xs e1 B F M H σ _ E fun p vs F1 H1 x1 hp ra => hl l e2 B F1 M H1 σ _ (E.ext x1) fun F2 H2 x2 => hh u e3 B F2 M H2 σ _ ((E.ext x1).ext x2) fun F3 H3 x3 => hs k e4 B F3 M H3 σ _ (((E.ext x1).ext x2).ext x3) fun F4 H4 x4 => ?_
    have x24 := (x2.trans x3).trans x4
    have X := x1.trans x24
    refine ⟨hk, p, vs, rfl, SqL.of (x24.sH _ _ hp), fun n hn => q n _ F4 _ (X.trans (Ext.new0 X.sub hn)) (none_of_same X.sub hn) (none_of_same X.sH hn) upd_same ?_⟩
    rw [← pickG_map]
    exact (ra.mono x24.sF).pick _ _ _
  · cases hz
theorem el_fcat [Em α] {o1 o2 : Option (List α)} (h1 : EvFl K ds ta o1) (h2 : EvFl K ds tb o2) : EvL K ds (tOp rCat ta tb) (ocat o1 o2) := by
  intro zs hz B F M H σ Q E q
  obtain ⟨xs, ys, e1, e2, e3⟩ := obin_some hz
  split at e3
  · rename_i hl
    cases e3
    refine h1 xs e1 B F M H σ _ E fun p vs F1 H1 x1 hp ra => h2 ys e2 B F1 M H1 σ _ (E.ext x1) fun p2 vs2 F2 H2 x2 hp2 ra2 => ?_
    have X := x1.trans x2
    refine ⟨p, p2, vs, vs2, rfl, rfl, x2.sH _ _ hp, hp2, small (by rw [ra.len, ra2.len, List.length_map, List.length_map]; exact hl), fun n hn => q n _ F2 _ (X.trans (Ext.new0 X.sub hn)) (none_of_same X.sub hn) (none_of_same X.sH hn) upd_same ?_⟩
    rw [List.map_append]
    exact (ra.mono x2.sF).app ra2
  · cases e3
theorem el_flist [Em α] {o : Option (List α)} (h : EvFl K ds te o) : EvL K ds (tCB (rListOf K) (tCons te tNil)) o := by
  intro xs hx B F M H σ Q E q
  refine h xs hx B F M H σ _ E fun p vs F' H' e hp ra => ?_
  exact ⟨p, vs, rfl, .inl (SqL.of hp), fun n hn => q n _ F' _ (e.trans (Ext.new0 e.sub hn)) (none_of_same e.sub hn) (none_of_same e.sH hn) upd_same ra⟩
theorem el_fsortP {o : Option (List PP)} (h : EvFl K ds te o) : EvL K ds (tCB (L2.rSortedPO K) (tCons te tNil)) (osortP o) := by
  intro xs hx B F M H σ Q E q
  cases o with
  | none => cases hx
  | some ps =>
    cases hx
    refine h ps rfl B F M H σ _ E fun p vs F' H' e hp ra => ?_
    exact sorted_run (SqL.of hp) e.sub ra fun n ys hn ry => q n ys F' _ (e.trans (Ext.new0 e.sub hn)) (none_of_same e.sub hn) (none_of_same e.sH hn) upd_same ry
/-- walks of lists that stay -/
theorem ew_r [Em α] {o : Option (List α)} (hm : m ≠ .h) (h : EvR K ds m te (eL eV) o) : EvW K ds .f (iList K te) o := fun xs hx B F M H σ R E q => by
  refine h xs hx B F M H σ _ E fun w ms F' H' x hw => ?_
  obtain ⟨p, vs, ms', rfl, hp, r, _, _⟩ := ow_list hw
  have ra := r.vals.1
  refine ⟨p, rfl, ⟨vs, SqL.of (hp_H (E.ext x) _ _ hp)⟩, q _ F' H' vs x ?_ (fun z => nomatch z) ra⟩
  have hl : xs.length = vs.length := by rw [ra.len, List.length_map]
  rw [hl]
  refine L2.Walk.mono L2.walk_list (fun H2 s => SqL.of ?_) fun _ _ _ _ _ _ y => y
  cases m with
  | f => exact s.1 _ _ hp
  | b => exact s.2 _ _ hp
  | h => exact absurd rfl hm
/-! ### dicts -/
theorem ev_din [DecidableEq κ] [Em κ] [Ky κ] {e : β → OD} {eD' : List (κ × β) → OD} {o : Option (List (κ × β))} {ok : Option κ} (h : EvR K ds m td eD' o) (hd : ∀ kvs, Dk (eD' kvs) (kvs.map fun x => (x.1, e x.2))) (hk : EvO K ds m2 tb ok) : EvO K ds .f (tDIn tb td) (odinB ok o) := fun z hz B F M H σ Q E q => by
  obtain ⟨kk, e1, hz⟩ := bind_some' hz
  cases o with
  | none => cases hz
  | some kvs =>
    cases hz
    refine hk kk e1 B F M H σ _ E fun v F1 H1 x1 r1 => h kvs rfl B F1 M H1 σ _ (E.ext x1) fun w ms F2 H2 x2 hw => ?_
    obtain ⟨p, kv, ms', rfl, hr, r, hks⟩ := hw.dk ((E.ext x1).ext x2).sF (hp_H ((E.ext x1).ext x2)) (hd kvs)
    have E2 := (E.ext x1).ext x2
    refine ⟨p, _, rfl, Ky.get hr ((r1.mono (hp_H (E.ext x1))).mono x2.sH), ?_⟩
    have : (dget kv kk).isSome = (dget kvs kk).isSome := by
      have g := dget_map e kvs kk
      rcases owl_key kk r hks with ⟨a, b⟩ | ⟨u, od, mu, a, b, c⟩
      · rw [a]; rw [b] at g
        cases h : dget kvs kk with
        | none => rfl
        | some y => rw [h] at g; cases g
      · rw [a]; rw [b] at g
        cases h : dget kvs kk with
        | none => rw [h] at g; cases g
        | some y => rfl
    rw [this]
    exact q _ F2 H2 (x1.trans x2) (.bl _)
theorem ev_dnin [DecidableEq κ] [Em κ] [Ky κ] {e : β → OD} {eD' : List (κ × β) → OD} {o : Option (List (κ × β))} {ok : Option κ} (h : EvR K ds m td eD' o) (hd : ∀ kvs, Dk (eD' kvs) (kvs.map fun x => (x.1, e x.2))) (hk : EvO K ds m2 tb ok) : EvO K ds .f (tDNotIn tb td) (odninB ok o) := fun z hz B F M H σ Q E q => by
  obtain ⟨kk, e1, hz⟩ := bind_some' hz
  cases o with
  | none => cases hz
  | some kvs =>
    cases hz
    refine hk kk e1 B F M H σ _ E fun v F1 H1 x1 r1 => h kvs rfl B F1 M H1 σ _ (E.ext x1) fun w ms F2 H2 x2 hw => ?_
    obtain ⟨p, kv, ms', rfl, hr, r, hks⟩ := hw.dk ((E.ext x1).ext x2).sF (hp_H ((E.ext x1).ext x2)) (hd kvs)
    have E2 := (E.ext x1).ext x2
    refine ⟨p, _, rfl, Ky.get hr ((r1.mono (hp_H (E.ext x1))).mono x2.sH), ?_⟩
    have : (dget kv kk).isSome = (dget kvs kk).isSome := by
      have g := dget_map e kvs kk
      rcases owl_key kk r hks with ⟨a, b⟩ | ⟨u, od, mu, a, b, c⟩
      · rw [a]; rw [b] at g
        cases h : dget kvs kk with
        | none => rfl
        | some y => rw [h] at g; cases g
      · rw [a]; rw [b] at g
        cases h : dget kvs kk with
        | none => rw [h] at g; cases g
        | some y => rfl
    rw [this]
    exact q _ F2 H2 (x1.trans x2) (.bl _)
/-- d.get(k) of frozen things -/
theorem ev_dget1 [DecidableEq κ] [Em κ] [Ky κ] [Em β] {eD' : List (κ × β) → OD} {o : Option (List (κ × β))} {ok : Option κ} (h : EvR K ds m td eD' o) (hd : ∀ kvs, Dk (eD' kvs) (kvs.map fun x => (x.1, eV x.2))) (hk : EvO K ds m2 tb ok) : EvO K ds .f (tDGet1 td tb) (odgetOB o ok) := fun z hz B F M H σ Q E q => by
  obtain ⟨kvs, e1, hz⟩ := bind_some' hz
  cases ok with
  | none => cases hz
  | some kk =>
    cases hz
    refine h kvs e1 B F M H σ _ E fun w ms F1 H1 x1 hw => ?_
    obtain ⟨p, kv, ms', rfl, hr, r, hks⟩ := hw.dk (E.ext x1).sF (hp_H (E.ext x1)) (hd kvs)
    refine ⟨p, rfl, Ky.isd hr, hk kk rfl B F1 M H1 σ _ (E.ext x1) fun v F2 H2 x2 r2 => ?_⟩
    have E2 := (E.ext x1).ext x2
    refine ⟨_, Ky.get (rd_mono x2.sH hr) (r2.mono (hp_H E2)), q _ F2 H2 (x1.trans x2) ?_⟩
    show Rp F2 _ (em (dget kvs kk))
    have g := dget_map eV kvs kk
    rcases owl_key kk r hks with ⟨a, b⟩ | ⟨u, od, mu, a, b, c⟩
    · rw [a]; rw [b] at g
      cases h : dget kvs kk with
      | none => exact Rp.non
      | some y => rw [h] at g; cases g
    · rw [a]; rw [b] at g
      cases h : dget kvs kk with
      | none => rw [h] at g; cases g
      | some y =>
        rw [h] at g
        cases g
        unfold eV at c
        cases c with
        | v c => exact c.mono x2.sF
/-- d.get(k, z) of frozen things -/
theorem ev_dget2 [DecidableEq κ] [Em κ] [Ky κ] [Em β] {eD' : List (κ × β) → OD} {o : Option (List (κ × β))} {ok : Option κ} {oz : Option β} (h : EvR K ds m td eD' o) (hd : ∀ kvs, Dk (eD' kvs) (kvs.map fun x => (x.1, eV x.2))) (hk : EvO K ds m2 tb ok) (hz' : EvO K ds .f tc oz) : EvO K ds .f (tDGet2 td tb tc) (odgetZB o ok oz) := fun z hz B F M H σ Q E q => by
  obtain ⟨kvs, e1, hz⟩ := bind_some' hz
  obtain ⟨kk, e2, hz⟩ := bind_some' hz
  cases oz with
  | none => cases hz
  | some z0 =>
    cases hz
    refine h kvs e1 B F M H σ _ E fun w ms F1 H1 x1 hw => ?_
    obtain ⟨p, kv, ms', rfl, hr, r, hks⟩ := hw.dk (E.ext x1).sF (hp_H (E.ext x1)) (hd kvs)
    refine ⟨p, rfl, Ky.isd hr, hk kk e2 B F1 M H1 σ _ (E.ext x1) fun v F2 H2 x2 r2 => hz' z0 rfl B F2 M H2 σ _ ((E.ext x1).ext x2) fun v3 F3 H3 x3 r3 => ?_⟩
    have E2 := (E.ext x1).ext x2
    have x23 := x2.trans x3
    refine ⟨_, Ky.get (rd_mono x23.sH hr) ((r2.mono (hp_H E2)).mono x3.sH), q _ F3 H3 (x1.trans x23) ?_⟩
    have g := dget_map eV kvs kk
    rcases owl_key kk r hks with ⟨a, b⟩ | ⟨u, od, mu, a, b, c⟩
    · rw [a]; rw [b] at g
      cases h : dget kvs kk with
      | none => exact r3
      | some y => rw [h] at g; cases g
    · rw [a]; rw [b] at g
      cases h : dget kvs kk with
      | none => rw [h] at g; cases g
      | some y =>
        rw [h] at g
        cases g
        unfold eV at c
        cases c with
        | v c => exact c.mono x23.sF
theorem kv_len {κ' : Type} [DecidableEq κ'] {F H : Hp} {kv : List (κ' × V)} {xs : List (κ' × OD)} {ms : List Addr} (r : OwL F H (kv.map (·.2)) (xs.map (·.2)) ms) : kv.length = xs.length := by
  have := r.len
  rw [List.length_map, List.length_map] at this
  exact this
theorem ev_dlenRI {e : β → OD} {o : Option (List (Int × β))} (h : EvR K ds m td (eD e) o) : EvO K ds .f (tCB rLenDK (tCons td tNil)) (olen o) := fun z hz B F M H σ Q E q => by
  cases o with
  | none => cases hz
  | some kvs =>
    cases hz
    refine h kvs rfl B F M H σ _ E fun w ms F1 H1 x1 hw => ?_
    obtain ⟨p, kv, ms', rfl, hr, r, hks, _⟩ := Ky.inv hw
    refine ⟨p, _, rfl, hp_H (E.ext x1) _ _ hr, ?_⟩
    have := kv_len r
    rw [List.length_map] at this
    rw [List.length_map, this]
    exact q _ F1 H1 x1 (.int _)
theorem ev_dlenRP {e : β → OD} {o : Option (List (PP × β))} (h : EvR K ds m td (eD e) o) : EvO K ds .f (tCB rLenT (tCons td tNil)) (olen o) := fun z hz B F M H σ Q E q => by
  cases o with
  | none => cases hz
  | some kvs =>
    cases hz
    refine h kvs rfl B F M H σ _ E fun w ms F1 H1 x1 hw => ?_
    obtain ⟨p, kv, ms', rfl, hr, r, hks, _⟩ := Ky.inv hw
    refine ⟨p, _, rfl, hp_H (E.ext x1) _ _ hr, ?_⟩
    have := kv_len r
    rw [List.length_map] at this
    rw [List.length_map, this]
    exact q _ F1 H1 x1 (.int _)
def okeysB {α : Type} (o : Option (List (PP × α))) : Option (List PP) := o.map fun kvs => sortP (kvs.map (·.1))
/-- sorted(d), keys are pairs -/
theorem el_sortDR {e : β → OD} {o : Option (List (PP × β))} (h : EvR K ds m td (eD e) o) : EvL K ds (tCB L2.rSortedDT (tCons td tNil)) (okeysB o) := fun xs hx B F M H σ Q E q => by
  cases o with
  | none => cases hx
  | some kvs =>
    cases hx
    refine h kvs rfl B F M H σ _ E fun w ms F1 H1 x1 hw => ?_
    obtain ⟨p, kv, ms', rfl, hr, r, hks, _⟩ := Ky.inv hw
    refine sortDP_run x1.sub (hp_H (E.ext x1) _ _ hr) fun n zs hn rz => ?_
    have hk2 : kv.map (·.1) = kvs.map (·.1) := by
      rw [hks, List.map_map]
      rfl
    rw [hk2] at rz
    have X := x1.trans (tupF_ext x1.sub)
    exact q n zs _ _ (X.trans (Ext.new0 X.sub hn)) (none_of_same X.sub hn) (none_of_same X.sH hn) upd_same rz
/-- a read-only tree handed on -/
theorem ea_t {e : β → OD} {tr : TA} {τ : Type} {o : Option β} {os : Option τ} {A : τ → List Ar} (h : EvR K ds m te e o) (hm : m = .h ∨ m = .b) (hr : EvA K ds tr os A) : EvA K ds (tCons te tr) (oarg o os) fun t => .t (e t.1) :: A t.2 := fun t ht B F M H σ Q E q => by
  obtain ⟨x, y, e1, e2, e3⟩ := obin_some ht
  cases e3
  refine h x e1 B F M H σ _ E fun w ms F1 H1 x1 hw => hr y e2 B F1 M H1 σ _ (E.ext x1) fun vs F2 H2 x2 r2 => q _ F2 H2 (x1.trans x2) ⟨⟨ms, hw.same x2.sF fun a u z => x2.sH _ _ (hp_H (E.ext x1) _ _ z)⟩, r2⟩
end
end Tw
/-! Own trees changed; expressions that change something. -/
namespace Tw
open PySem L2
section
variable {K : PySem.W.Frag} {ds es : List Sl}
/-- what slot i owns is changed; N is new and comes to it -/
theorem Env.chg {B F M H H' σ} (E : Env K B F M H σ ds) {i : Nat} (hi : i < ds.length) {sl : Sl} {N : Addr → Prop} {foot : Nat → Addr → Prop} (f1 : ∀ i a, foot i a → M a) (f2 : ∀ i j a, foot i a → foot j a → i = j) (f3 : ∀ i, hold K B F H (ds[i]?.getD .no) (σ[i]?) (foot i))
    (keep : ∀ a o, H a = some o → ¬ foot i a → H' a = some o) (al : ∀ a, foot i a ∨ N a → ∃ o, H' a = some o ∧ ∀ xs, o ≠ .tup xs) (nB : ∀ a, N a → B a = none) (nF : ∀ a, N a → F a = none) (nM : ∀ a, N a → ∀ j, ¬ foot j a)
    (r : hold K B F H' sl (σ[i]?) (fun a => foot i a ∨ N a)) : Env K B F (fun a => M a ∨ N a) H' σ (ds.set i sl) := by
  have sF : Same F H' := fun a o e => keep a o (E.sF a o e) fun z => by rw [E.mF a (f1 i a z)] at e; cases e
  have sB : Same B H' := fun a o e => keep a o (E.sB a o e) fun z => by rw [E.mB a (f1 i a z)] at e; cases e
  have alM : ∀ a, M a ∨ N a → ∃ o, H' a = some o ∧ ∀ xs, o ≠ .tup xs := fun a z => by
    by_cases hf : foot i a
    · exact al a (.inl hf)
    · rcases z with z | z
      · cases e : H a with
        | none => exact absurd e (E.mH a z)
        | some o => exact ⟨o, keep a o e hf, fun xs q => E.mT a xs z (by rw [e, q])⟩
      · exact al a (.inr z)
  refine ⟨by rw [List.length_set, E.len], sB, sF, fun a z => z.elim (E.mB a) (nB a), fun a z => z.elim (E.mF a) (nF a), fun a z => ?_, fun a xs z => ?_, fun j a => foot j a ∨ (j = i ∧ N a), fun j a z => ?_, fun j k a h1 h2 => ?_, fun j => ?_⟩
  · obtain ⟨o, e, _⟩ := alM a z
    rw [e]; exact fun z => nomatch z
  · obtain ⟨o, e, q⟩ := alM a z
    rw [e]; exact fun z => q xs (Option.some.inj z)
  · exact z.elim (fun z => .inl (f1 j a z)) (fun z => .inr z.2)
  · rcases h1 with h1 | ⟨rfl, h1⟩
    · rcases h2 with h2 | ⟨rfl, h2⟩
      · exact f2 j k a h1 h2
      · exact absurd h1 (nM a h2 j)
    · rcases h2 with h2 | ⟨rfl, h2⟩
      · exact absurd h2 (nM a h1 k)
      · rfl
  · rw [getD_set ds i j _ hi]
    by_cases h : j = i
    · subst h
      rw [if_pos rfl]
      have : (fun a => foot j a ∨ (j = j ∧ N a)) = fun a => foot j a ∨ N a := by
        funext a
        exact propext ⟨fun z => z.imp_right (·.2), fun z => z.imp_right fun q => ⟨rfl, q⟩⟩
      show hold K B F H' sl _ (fun a => foot j a ∨ (j = j ∧ N a))
      rw [this]
      exact r
    · rw [if_neg h]
      have : (fun a => foot j a ∨ (j = i ∧ N a)) = foot j := by
        funext a
        exact propext ⟨fun z => z.resolve_right fun q => h q.1, .inl⟩
      show hold K B F H' _ _ (fun a => foot j a ∨ (j = i ∧ N a))
      rw [this]
      exact (f3 j).mono (Same.refl _) (fun a o ha hz => keep a o hz fun z => h (f2 j i a ha z)) E.sF sF
/-- slots by number -/
theorem hd0 (s : Sl) (ds : List Sl) : (s :: ds)[0]?.getD Sl.no = s := rfl
/-- a thing held beside the slots -/
theorem Env.head {B F M H σ} (E : Env K B F M H σ ds) {v : V} {s : Sl} {N : Addr → Prop} (nB : ∀ a, N a → B a = none) (nF : ∀ a, N a → F a = none) (nM : ∀ a, N a → ¬ M a) (al : ∀ a, N a → ∃ o, H a = some o ∧ ∀ xs, o ≠ .tup xs) (r : hold K B F H s (some (some v)) N) :
    Env K B F (fun a => M a ∨ N a) H (some v :: σ) (s :: ds) := by
  obtain ⟨len, sB, sF, mB, mF, mH, mT, foot, f1, f2, f3⟩ := E
  refine ⟨by simp [len], sB, sF, fun a z => z.elim (mB a) (nB a), fun a z => z.elim (mF a) (nF a), fun a z => z.elim (mH a) (fun z => by obtain ⟨o, e, _⟩ := al a z; rw [e]; exact fun z => nomatch z), fun a xs z => z.elim (mT a xs) (fun z => by obtain ⟨o, e, q⟩ := al a z; rw [e]; exact fun z => q xs (Option.some.inj z)),
    fun j a => match j with | 0 => N a | j + 1 => foot j a, fun j a z => ?_, fun j k a h1 h2 => ?_, fun j => ?_⟩
  · cases j with
    | zero => exact .inr z
    | succ j => exact .inl (f1 j a z)
  · cases j with
    | zero =>
      cases k with
      | zero => rfl
      | succ k => exact absurd (f1 k a h2) (nM a h1)
    | succ j =>
      cases k with
      | zero => exact absurd (f1 j a h1) (nM a h2)
      | succ k => rw [f2 j k a h1 h2]
  · cases j with
    | zero => exact r
    | succ j => exact f3 j
theorem Env.head0 {B F M H σ} (E : Env K B F M H σ ds) {v : V} {d : PyData} (r : Rp F v d) : Env K B F M H (some v :: σ) (.val d :: ds) := by
  have := E.head (v := v) (s := .val d) (N := fun _ => False) (fun _ z => z.elim) (fun _ z => z.elim) (fun _ z => z.elim) (fun _ z => z.elim) ⟨v, rfl, r⟩
  simpa using this
theorem Env.tail {B F M H σ} {v : Option V} {s : Sl} (E : Env K B F M H (v :: σ) (s :: ds)) : Env K B F M H σ ds := by
  obtain ⟨len, sB, sF, mB, mF, mH, mT, foot, f1, f2, f3⟩ := E
  exact ⟨by simpa using len, sB, sF, mB, mF, mH, mT, fun j => foot (j + 1), fun j a z => f1 _ a z, fun j k a h1 h2 => by have := f2 _ _ a h1 h2; omega, fun j => f3 (j + 1)⟩
/-- .. put into a slot -/
theorem Env.move {B F M H σ} {v : V} {s : Sl} (E : Env K B F M H (some v :: σ) (s :: ds)) {i : Nat} (hi : i < ds.length) : Env K B F M H (σ.set i (some v)) (ds.set i s) := by
  obtain ⟨len, sB, sF, mB, mF, mH, mT, foot, f1, f2, f3⟩ := E
  have hl : σ.length = ds.length := by simpa using len
  refine ⟨by rw [List.length_set, List.length_set, hl], sB, sF, mB, mF, mH, mT, fun j => if j = i then foot 0 else foot (j + 1), fun j a z => ?_, fun j k a h1 h2 => ?_, fun j => ?_⟩
  · by_cases h : j = i
    · simp only [if_pos h] at z; exact f1 _ a z
    · simp only [if_neg h] at z; exact f1 _ a z
  · by_cases hj : j = i
    · by_cases hk : k = i
      · rw [hj, hk]
      · simp only [if_pos hj] at h1
        simp only [if_neg hk] at h2
        have := f2 _ _ a h1 h2
        omega
    · by_cases hk : k = i
      · simp only [if_neg hj] at h1
        simp only [if_pos hk] at h2
        have := f2 _ _ a h1 h2
        omega
      · simp only [if_neg hj] at h1
        simp only [if_neg hk] at h2
        have := f2 _ _ a h1 h2
        omega
  · rw [getD_set ds i j _ hi]
    by_cases h : j = i
    · subst h
      simp only [if_true]
      rw [List.getElem?_set_self (by omega)]
      exact f3 0
    · simp only [if_neg h]
      rw [List.getElem?_set_ne (fun e => h e.symm)]
      exact f3 (j + 1)
end

/-! ### expressions that change something -/
inductive OX | vl (s : Sl) (ds : List Sl) | xx (E : XK) (c : Value) (ds : List Sl)
def FinX (K : PySem.W.Frag) (B F : Hp) (M : Addr → Prop) (H : Hp) (σ : L2.St) (o : OX) (Q : VK) : Prop := match o with
  | .vl s ds => ∀ F' M' H' v, Stp F M H F' M' H' → Env K B F' M' H' (some v :: σ) (s :: ds) → Q v H'
  | .xx E c ds => ∀ F' M' H', Stp F M H F' M' H' → Env K B F' M' H' σ ds → E c none H'
theorem FinX.step {K B F M H F1 M1 H1 σ o Q} (f : FinX K B F M H σ o Q) (x : Stp F M H F1 M1 H1) : FinX K B F1 M1 H1 σ o Q := by
  cases o with
  | vl s ds => exact fun F' M' H' v y E => f F' M' H' v (x.trans y) E
  | xx e c ds => exact fun F' M' H' y E => f F' M' H' (x.trans y) E
def EvX (K : PySem.W.Frag) (ds : List Sl) (te : TE) {τ : Type} (o : Option τ) (ox : τ → OX) : Prop := ∀ t, o = some t → ∀ B F M H σ Q, Env K B F M H σ ds → FinX K B F M H σ (ox t) Q → te σ H Q
/-- what comes behind such an expression; s is what its value is -/
def SvV (K : PySem.W.Frag) (s : Sl) (ds : List Sl) (C : V → TS) {τ : Type} (o : Option τ) (out : τ → Out) : Prop := ∀ t, o = some t → ∀ B F M H v σ D, Env K B F M H (some v :: σ) (s :: ds) → Fin K B F M H (out t) D → C v D σ H
inductive Res (χ α : Type) | ok (a : α) | ex (c : χ)
section
variable {K : PySem.W.Frag} {ds es : List Sl} {ta tb tc te td : TE} {t u w T : TS} {g : TG} {C : V → TS} {m m1 m2 m3 : Md} {α β γ δ κ τ τ' χ : Type} {out : τ → Out}
theorem sxv {s : τ' → Sl} {d : τ' → List Sl} {o : Option τ'} {r : τ' → Option τ} (h : EvX K ds te o fun t => .vl (s t) (d t)) (hT : ∀ D σ H, te σ H (fun v H1 => C v D σ H1) → T D σ H) (k : ∀ t, SvV K (s t) (d t) C (r t) out) : SvO K ds T (o.bind r) out := fun z hz B F M H σ D E f => by
  obtain ⟨t, e1, e2⟩ := bind_some' hz
  exact hT D σ H (h t e1 B F M H σ _ E fun F' M' H' v st E' => k t z e2 B F' M' H' v σ D E' (f.step st))
/-- .. that may raise -/
def rbind (o : Option (Res χ α)) (r : α → Option τ) (x : χ → τ) : Option τ := o.bind fun t => match t with | .ok a => r a | .ex c => some (x c)
theorem sxr {s : α → Sl} {d : α → List Sl} {Ex : XK} {cv : χ → Value} {d0 : List Sl} {o : Option (Res χ α)} {r : α → Option τ} {x : χ → τ} (h : EvX K ds te o fun t => match t with | .ok a => .vl (s a) (d a) | .ex c => .xx Ex (cv c) d0) (hT : ∀ D σ H, te σ H (fun v H1 => C v D σ H1) → T D σ H) (k : ∀ t, SvV K (s t) (d t) C (r t) out) (hx : ∀ c, out (x c) = .xx Ex (cv c) d0) : SvO K ds T (rbind o r x) out := fun z hz B F M H σ D E f => by
  obtain ⟨t, e1, e2⟩ := bind_some' hz
  cases t with
  | ok a => exact hT D σ H (h _ e1 B F M H σ _ E fun F' M' H' v st E' => k a z e2 B F' M' H' v σ D E' (f.step st))
  | ex c =>
    cases e2
    rw [hx] at f
    exact hT D σ H (h _ e1 B F M H σ _ E fun F' M' H' st E' => f F' M' H' σ st E')
theorem vv_asg {i : Nat} {s : Sl} {o : Option τ} (hi : i < ds.length) (k : SvO K (ds.set i s) u o out) : SvV K s ds (fun v D σ H => u D (σ.set i (some v)) H) o out := fun z hz B F M H v σ D E f =>
  k z hz B F M H _ D (E.move hi) f
theorem vv_drop {s : Sl} {o : Option τ} (k : SvO K ds u o out) : SvV K s ds (fun _ => u) o out := fun z hz B F M H v σ D E f => k z hz B F M H σ D E.tail f
theorem vv_ret {s : Sl} {z : τ} (ho : out z = .rd s es) (l : Le ds es) : SvV K s ds (fun v D σ H => D.rt v H) (some z) out := fun z' hz B F M H v σ D E f => by
  cases hz
  rw [ho] at f
  exact f F M H v σ .refl (E.le (.same l))
theorem vv_asgT {js : List Nat} {α : Type} [Em α] {y : α} {d1 : List Sl} {o : Option τ} (tg : Tg K .f ds g js (em y) d1) (k : SvO K d1 u o out) : SvV K (.val (em y)) ds (fun v D σ H => g v σ H fun σ' H' => u D σ' H') o out := fun z hz B F M H v σ D E f => by
  obtain ⟨_, _, v', e, r⟩ := E.at (i := 0) rfl
  cases e
  exact tg B F M H σ v _ E.tail r fun σ' E' _ _ => k z hz B F M H σ' D E' f
/-- plain answers are such answers, too -/
theorem ex_f [Em α] {o : Option α} (h : EvO K ds .f te o) : EvX K ds te o fun x => .vl (.val (em x)) ds := fun x hx B F M H σ Q E f =>
  h x hx B F M H σ Q E fun v F' H' e r => f F' M H' v (.ofExt e) ((E.ext e).head0 r)
end
/-- a new own tree -/
def EvOw (K : PySem.W.Frag) (ds : List Sl) (te : TE) {β : Type} (e : β → OD) (o : Option β) : Prop := ∀ y, o = some y → ∀ B F M H σ Q, Env K B F M H σ ds →
  (∀ v ms F' H', Ext F H F' H' → Ow F' H' v (e y) ms → (∀ a ∈ ms, F' a = none ∧ H a = none) → Q v H') → te σ H Q
theorem Ext.fresh {F H F' H' : Hp} (x : Ext F H F' H') {a : Addr} {u : HO} (hF : F a = none) (hH : H a = some u) (hu : ∀ xs, u ≠ .tup xs) : F' a = none := by
  cases z : F' a with
  | none => rfl
  | some o =>
    rcases x.new a (by rw [z]; exact fun z => nomatch z) with h | h | ⟨ts, h⟩
    · exact absurd hF h
    · rw [hH] at h; cases h
    · rw [hH] at h; exact absurd (Option.some.inj h) (hu ts)
/-- the frozen part, with some addresses of the heap -/
def addF (F H : Hp) (ms : List Addr) : Hp := fun a => if a ∈ ms then H a else F a
theorem addF_in {F H : Hp} {ms : List Addr} {a : Addr} (h : a ∈ ms) : addF F H ms a = H a := if_pos h
theorem addF_out {F H : Hp} {ms : List Addr} {a : Addr} (h : a ∉ ms) : addF F H ms a = F a := if_neg h
theorem addF_ext {F H F0 H0 : Hp} {ms : List Addr} (x : Ext F0 H0 F H) (h : ∀ a ∈ ms, F a = none ∧ H0 a = none) : Ext F0 H0 (addF F H ms) H := by
  have s1 : Same F (addF F H ms) := fun a o z => by
    rw [addF_out fun w => by rw [(h a w).1] at z; cases z]; exact z
  refine ⟨x.sF.trans s1, x.sH, fun a o z => ?_, fun a z => ?_⟩
  · by_cases hb : a ∈ ms
    · rw [addF_in hb] at z; exact z
    · rw [addF_out hb] at z; exact x.sub a o z
  · by_cases hb : a ∈ ms
    · exact .inr (.inl (h a hb).2)
    · rw [addF_out hb] at z; exact x.new a z
section
variable {K : PySem.W.Frag} {ds es : List Sl} {ta tb tc te td : TE} {tr : TA} {t u w T : TS} {g : TG} {C : V → TS} {m m1 m2 m3 : Md} {α β γ δ κ τ τ' χ : Type} {out : τ → Out}
theorem eo_L [Em α] {o : Option (List α)} (h : EvL K ds te o) : EvOw K ds te (eL eV) o := fun xs hx B F M H σ Q E q =>
  h xs hx B F M H σ Q E fun p vs F' H' e h1 h2 h3 r => q (.ref p) [p] F' H' e (.lst h3 (OwL.ofVals r) List.not_mem_nil) fun a ha => by
    rw [List.mem_singleton] at ha
    subst ha
    exact ⟨h1, h2⟩
theorem eo_N {e : β → OD} (h : EvO K ds m te (some ())) : EvOw K ds te (eO e) (some none) := fun y hy B F M H σ Q E q => by
  cases hy
  exact h () rfl B F M H σ Q E fun v F' H' x r => q v [] F' H' x (by
    have r : Rp _ v .none := r
    cases r
    exact .v .non) fun a ha => by cases ha
theorem eo_S {e : β → OD} {o : Option β} (h : EvOw K ds te e o) : EvOw K ds te (eO e) (o.map some) := fun y hy B F M H σ Q E q => by
  cases o with
  | none => cases hy
  | some z =>
    cases hy
    exact h z rfl B F M H σ Q E q
/-- .. frozen -/
theorem ev_fz [Em β] {e : β → OD} {o : Option β} (hd : Dat e) (h : EvOw K ds te e o) : EvO K ds .f te o := fun y hy B F M H σ Q E q =>
  h y hy B F M H σ Q E fun v ms F' H' x hO hf => q v (addF F' H' ms) H' (addF_ext x hf) (hO.toRp (fun a o z => by
    show addF F' H' ms a = _
    rw [addF_out fun w => by rw [(hf a w).1] at z; cases z]; exact z) (fun a ha u z => by
    show addF F' H' ms a = _
    rw [addF_in ha]; exact z) (hd y))
/-- .. as an answer that owns -/
theorem ex_O {e : β → OD} {o : Option β} (h : EvOw K ds te e o) : EvX K ds te o fun x => .vl (.ow (e x)) ds := fun y hy B F M H σ Q E f =>
  h y hy B F M H σ Q E fun v ms F' H' x hO hf => f F' (fun a => M a ∨ a ∈ ms) H' v ⟨x.sF, fun a z => (x.new a z).imp_right .inl, fun b o z _ => x.sH b o z, fun a z => z.imp_right fun z => (hf a z).2⟩
    ((E.ext x).head (fun a z => none_of_same E.sB (hf a z).2) (fun a z => (hf a z).1) (fun a z w => E.mH a w (hf a z).2) (fun a z => hO.at a z) ⟨v, rfl, ms, hO, fun a z => z⟩)
/-- a slot that owns a tree: its value is told -/
theorem sv_open {i : Nat} {od : OD} {o : Option τ} (hi : i < ds.length) (hx : ds[i]? = some (.ow od)) (k : ∀ v, SvO K (ds.set i (.tr v od)) u o out) : SvO K ds u o out := fun z hz B F M H σ D E f => by
  obtain ⟨len, sB, sF, mB, mF, mH, mT, foot, f1, f2, f3⟩ := E
  have h3 := f3 i
  rw [hx] at h3
  obtain ⟨v, e, h⟩ := h3
  refine k v z hz B F M H σ D ⟨by rw [List.length_set, len], sB, sF, mB, mF, mH, mT, foot, f1, f2, fun j => ?_⟩ f
  rw [getD_set ds i j _ hi]
  by_cases hj : j = i
  · subst hj; rw [if_pos rfl]; exact ⟨e, h⟩
  · rw [if_neg hj]; exact f3 j
/-- x = a new tree -/
theorem sv_asgN {i : Nat} {e : β → OD} {o : Option β} {r : β → Option τ} (hi : i < ds.length) (h : EvOw K ds te e o) (k : ∀ v y, SvO K (ds.set i (.tr v (e y))) u (r y) out) : SvO K ds (tSeq (tAsg te (gName i)) u) (o.bind r) out :=
  sxv (C := fun v D σ H => u D (σ.set i (some v)) H) (ex_O h) (fun D σ H q => q) fun y => vv_asg hi (sv_open (i := i) (by rw [List.length_set]; exact hi) (List.getElem?_set_self hi) fun v => by
    rw [List.set_set]
    exact k v y)
/-- return of a new tree -/
theorem sv_retN {e : β → OD} {o : Option β} {w : β → τ} (h : EvOw K ds te e o) (ho : ∀ y, out (w y) = .rd (.ow (e y)) es) (l : Le ds es) : SvO K ds (tRet te) (o.map w) out := by
  have := sxv (out := out) (T := tRet te) (C := fun v D σ H => D.rt v H) (r := fun y => some (w y)) (ex_O h) (fun D σ H q => q) fun y => vv_ret (ho y) l
  have e2 : o.map w = o.bind fun y => some (w y) := by cases o <;> rfl
  rw [e2]
  exact this
theorem sv_retV [Em α] {o : Option α} {w : α → τ} (h : EvO K ds .f te o) (ho : ∀ y, out (w y) = .rd (.val (em y)) es) (l : Le ds es) : SvO K ds (tRet te) (o.map w) out := by
  have := sxv (out := out) (T := tRet te) (C := fun v D σ H => D.rt v H) (r := fun y => some (w y)) (ex_f h) (fun D σ H q => q) fun y => vv_ret (ho y) l
  have e2 : o.map w = o.bind fun y => some (w y) := by cases o <;> rfl
  rw [e2]
  exact this
/-- falling off the end -/
theorem Env.slotv {B F M H σ} (E : Env K B F M H σ ds) {i : Nat} {v : V} {od : OD} (h : ds[i]? = some (.tr v od)) : σ[i]? = some (some v) := by
  obtain ⟨_, _, e, _⟩ := E.at h
  exact e

theorem AtP.uniq {H : Hp} : ∀ {π : List Sp1} {v w x : V}, AtP H v π w → AtP H v π x → w = x := by
  intro π
  induction π with
  | nil => intro v w x h g; cases h; exact g
  | cons s π ih =>
    intro v w x h g
    cases s with
    | ix i =>
      obtain ⟨p, vs, u, e, h1, h2, h3⟩ := h
      obtain ⟨p', vs', u', e', h1', h2', h3'⟩ := g
      subst e; cases e'
      rw [h1] at h1'; cases h1'
      rw [h2] at h2'; cases h2'
      exact ih h3 h3'
    | tp i =>
      obtain ⟨p, vs, u, e, h1, h2, h3⟩ := h
      obtain ⟨p', vs', u', e', h1', h2', h3'⟩ := g
      subst e; cases e'
      rw [h1] at h1'; cases h1'
      rw [h2] at h2'; cases h2'
      exact ih h3 h3'
    | ki i =>
      obtain ⟨p, kv, u, e, h1, h2, h3⟩ := h
      obtain ⟨p', kv', u', e', h1', h2', h3'⟩ := g
      subst e; cases e'
      rw [h1] at h1'
      have h1'' := Option.some.inj h1'
      have hk : ∀ {a b : List (Int × V)}, diO a = diO b → a = b := by
        intro a
        induction a with
        | nil => intro b h; cases b with
          | nil => rfl
          | cons y b => cases h
        | cons x a ih =>
          intro b h
          cases b with
          | nil => cases h
          | cons y b =>
            have h := HO.dK.inj h
            simp only [List.map_cons, List.cons.injEq, Prod.mk.injEq, Sum.inl.injEq] at h
            have := ih (b := b) (by show HO.dK _ = HO.dK _; rw [h.2])
            rw [this, show x = y from Prod.ext h.1.1 h.1.2]
      have := hk h1''
      subst this
      rw [h2] at h2'; cases h2'
      exact ih h3 h3'
    | fld f =>
      obtain ⟨p, C, dx, fs, u, e, h1, h2, h3⟩ := h
      obtain ⟨p', C', dx', fs', u', e', h1', h2', h3'⟩ := g
      subst e; cases e'
      rw [h1] at h1'; cases h1'
      rw [h2] at h2'; cases h2'
      exact ih h3 h3'
theorem subO_nil (o : OD) : subO o [] = some o := by cases o <;> rfl
/-! ### places of own trees -/
structure Loc (α β : Type) where
  y : β
  upd : β → α
def EvLoc (K : PySem.W.Frag) (ds : List Sl) (i : Nat) (v : V) (te : TE) (e0 : α → OD) (x : α) (e : β → OD) (o : Option (Loc α β)) : Prop := ds[i]? = some (.tr v (e0 x)) ∧ ∀ l, o = some l → ∃ π, subO (e0 x) π = some (e l.y) ∧ (∀ y', setO π (e0 x) (e y') = e0 (l.upd y')) ∧
  ∀ B F M H σ Q, Env K B F M H σ ds → (∀ w F' H', Ext F H F' H' → AtP H' v π w → Q w H') → te σ H Q
theorem subO_app : ∀ {π ρ : List Sp1} {o x : OD}, subO o π = some x → subO o (π ++ ρ) = subO x ρ
  | [], ρ, o, x, h => by
    have h : some o = some x := by cases o <;> exact h
    cases h
    rfl
  | s :: π, ρ, o, x, h => by
    cases o with
    | v _ => cases s <;> cases h
    | dp _ => cases s <;> cases h
    | dik _ _ _ _ => cases s <;> cases h
    | dpk _ _ _ _ => cases s <;> cases h
    | lst xs =>
      cases s with
      | ix i =>
        obtain ⟨y, h1, h2⟩ := bind_some' (show xs[i]?.bind (fun o => subO o π) = some x from h)
        show xs[i]?.bind (fun o => subO o (π ++ ρ)) = _
        rw [h1]
        exact subO_app h2
      | _ => cases h
    | tup xs =>
      cases s with
      | tp i =>
        obtain ⟨y, h1, h2⟩ := bind_some' (show xs[i]?.bind (fun o => subO o π) = some x from h)
        show xs[i]?.bind (fun o => subO o (π ++ ρ)) = _
        rw [h1]
        exact subO_app h2
      | _ => cases h
    | di xs =>
      cases s with
      | ki i =>
        obtain ⟨y, h1, h2⟩ := bind_some' (show (dget xs i).bind (fun o => subO o π) = some x from h)
        show (dget xs i).bind (fun o => subO o (π ++ ρ)) = _
        rw [h1]
        exact subO_app h2
      | _ => cases h
    | ins C xs =>
      cases s with
      | fld i =>
        obtain ⟨y, h1, h2⟩ := bind_some' (show (xs.lookup i).bind (fun o => subO o π) = some x from h)
        show (xs.lookup i).bind (fun o => subO o (π ++ ρ)) = _
        rw [h1]
        exact subO_app h2
      | _ => cases h
theorem setO_app : ∀ {π ρ : List Sp1} {o x o' : OD}, subO o π = some x → setO (π ++ ρ) o o' = setO π o (setO ρ x o')
  | [], ρ, o, x, o', h => by
    have h : some o = some x := by cases o <;> exact h
    cases h
    rfl
  | s :: π, ρ, o, x, o', h => by
    cases o with
    | v _ => cases s <;> cases h
    | dp _ => cases s <;> cases h
    | dik _ _ _ _ => cases s <;> cases h
    | dpk _ _ _ _ => cases s <;> cases h
    | lst xs =>
      cases s with
      | ix i =>
        obtain ⟨y, h1, h2⟩ := bind_some' (show xs[i]?.bind (fun o => subO o π) = some x from h)
        show OD.lst (match xs[i]? with | some z => xs.set i (setO (π ++ ρ) z o') | none => xs) = OD.lst (match xs[i]? with | some z => xs.set i (setO π z _) | none => xs)
        rw [h1]
        simp only
        rw [setO_app h2]
      | _ => cases h
    | tup xs =>
      cases s with
      | tp i =>
        obtain ⟨y, h1, h2⟩ := bind_some' (show xs[i]?.bind (fun o => subO o π) = some x from h)
        show OD.tup (match xs[i]? with | some z => xs.set i (setO (π ++ ρ) z o') | none => xs) = OD.tup (match xs[i]? with | some z => xs.set i (setO π z _) | none => xs)
        rw [h1]
        simp only
        rw [setO_app h2]
      | _ => cases h
    | di xs =>
      cases s with
      | ki k =>
        obtain ⟨y, h1, h2⟩ := bind_some' (show (dget xs k).bind (fun o => subO o π) = some x from h)
        obtain ⟨i, j1, j2⟩ := dget_ix h1
        show OD.di (match kIx xs k with | some i => (match xs[i]? with | some z => xs.set i (z.1, setO (π ++ ρ) z.2 o') | none => xs) | none => xs) = OD.di (match kIx xs k with | some i => (match xs[i]? with | some z => xs.set i (z.1, setO π z.2 _) | none => xs) | none => xs)
        rw [j1]
        simp only [j2]
        rw [setO_app h2]
      | _ => cases h
    | ins C xs =>
      cases s with
      | fld k =>
        obtain ⟨y, h1, h2⟩ := bind_some' (show (xs.lookup k).bind (fun o => subO o π) = some x from h)
        obtain ⟨i, j1, j2⟩ := lookup_ix h1
        show OD.ins C (match kIx xs k with | some i => (match xs[i]? with | some z => xs.set i (z.1, setO (π ++ ρ) z.2 o') | none => xs) | none => xs) = OD.ins C (match kIx xs k with | some i => (match xs[i]? with | some z => xs.set i (z.1, setO π z.2 _) | none => xs) | none => xs)
        rw [j1]
        simp only [j2]
        rw [setO_app h2]
      | _ => cases h
def locR (x : α) : Loc α α := ⟨x, fun y => y⟩
def locF (g : β → γ) (s : β → γ → β) (l : Loc α β) : Loc α γ := ⟨g l.y, fun z => l.upd (s l.y z)⟩
def locIx (l : Loc α (List β)) (i : Int) : Option (Loc α β) := (ixN l.y.length i).bind fun j => l.y[j]?.map fun y => ⟨y, fun y' => l.upd (l.y.set j y')⟩
def locS (l : Loc α (Option β)) : Option (Loc α β) := l.y.map fun y => ⟨y, fun y' => l.upd (some y')⟩
theorem lo_root {i : Nat} {v : V} {e0 : α → OD} {x : α} (h : ds[i]? = some (.tr v (e0 x))) : EvLoc K ds i v (tVar i) e0 x e0 (some (locR x)) := ⟨h, fun l hl => by
  cases hl
  exact ⟨[], subO_nil _, fun y' => rfl, fun B F M H σ Q E q => ⟨v, E.slotv h, q v F H (Ext.refl E.sF) rfl⟩⟩⟩
theorem lo_fld {i : Nat} {v : V} {e0 : α → OD} {x : α} {eC : β → OD} {f : Str} {e : γ → OD} {gt : β → γ} {st : β → γ → β} {Cl : Addr} {fs : β → List (Str × OD)} {o : Option (Loc α β)} (h : EvLoc K ds i v te e0 x eC o) (hC : ∀ y, eC y = .ins Cl (fs y)) (cl : Cls K Cl) (na : NoAttr K Cl f)
    (hf : ∀ y, (fs y).lookup f = some (e (gt y))) (hs : ∀ y z, setO [.fld f] (eC y) (e z) = eC (st y z)) : EvLoc K ds i v (tFld K te f) e0 x e (o.map (locF gt st)) := ⟨h.1, fun l hl => by
  cases o with
  | none => cases hl
  | some l0 =>
    cases hl
    obtain ⟨π, h1, h2, h3⟩ := h.2 l0 rfl
    have hsub : subO (eC l0.y) [.fld f] = some (e (gt l0.y)) := by
      rw [hC]
      show ((fs l0.y).lookup f).bind (fun o => subO o []) = _
      rw [hf]
      cases e (gt l0.y) <;> rfl
    refine ⟨π ++ [.fld f], by rw [subO_app h1]; exact hsub, fun y' => by rw [setO_app h1, hs, h2]; rfl, fun B F M H σ Q E q => ?_⟩
    refine h3 B F M H σ _ E fun w F' H' x1 hat => ?_
    obtain ⟨m0, hm0, e1, ms, hO, _⟩ := (E.ext x1).at h.1
    obtain ⟨w', m', R', g1, g2, _⟩ := hO.focus x1.sub h1
    have hww : w = w' := hat.uniq g1
    subst hww
    rw [hC] at g2
    cases g2 with
    | @ins p dx C fv xs ms' hp hdx r hk hn hn2 hn3 =>
      obtain ⟨i', j1, j2⟩ := lookup_ix (hf l0.y)
      obtain ⟨t, j4, j5⟩ := ix_lookup (fs := fv) (f := f) (i := i') (by rw [kIx_keys hk]; exact j1)
      exact ⟨p, Cl, dx, fv, t, rfl, hp, cl, na, j5, q t F' H' x1 (hat.app ⟨p, Cl, dx, fv, t, rfl, hp, j5, rfl⟩)⟩⟩
end
end Tw
/-! d.pop(k), the key a tuple that is there. -/
namespace Tw
open PySem PySem.W PySem.Calls PyProof.Rows PyProof.V PySem.Spec
theorem pop1_meets {prog : Program} {w : World} {κ : Type} [DecidableEq κ] {knd : HeapKind prog w κ} {d b : Addr} {k : κ} (hd : (d == sysModules) = false) :
    MeetsIn prog w (Builtin.«dict.pop» ⟨[.ref d, .ref b], []⟩) (fun A R s => ∃ xs p, knd.room A.in1 ∧ knd.is s.heap k b ∧ s.heap.DictOfH knd d xs ∧ xs.length ≤ sizeLine ∧ atKey xs k = some p ∧
      ∀ h' tk, h'.DictOfH knd d (DT.dropH xs k) → Heap.SameBut d s.heap h' → R (.ok (.ret p.2)) { s with heap := h', toks := tk }) :=
  .of_wp fun A R s ⟨xs, p, room, isk, dict, few, there, fin⟩ => by
    obtain ⟨o, es, ep, ho, _, hdat, he, _, _⟩ := id dict
    unfold Builtin.«dict.pop»
    refine wpAny_bind ?_
    unfold Builtin.Dict.keyAndDefault
    refine wpAny_bind (wpAny_notOrdered_dict dict.typeIs ?_)
    change wpAny (model prog w) A.in1 (pure (d, Value.ref b, none)) _ _ s
    refine wpAny_pure ?_
    simp only [show (keyPart (Value.ref b)).isSome = false from rfl, Bool.false_eq_true, if_false]
    refine wpAny_bind (wpAny_dictEntries ho hdat (wpAny_bind (wpAny_pure ?_)))
    have full : es.isEmpty = false := by
      cases z : es.isEmpty with
      | false => rfl
      | true =>
        have h0 : es.size = 0 := by simpa using z
        have h1 := size_of_entries he
        have h2 : xs = [] := List.length_eq_zero_iff.mp (by omega)
        rw [h2] at there
        cases there
    simp only [full, Bool.false_eq_true, if_false]
    refine wpAny_bind (DT.takeH room isk dict few (fun no => ?_) fun p' e hp hev h' hm' hs' => ?_)
    · rw [there] at no
      cases no
    · have ep2 : p' = p := by
        rw [there] at hp
        exact (Option.some.inj hp).symm
      subst ep2
      simp only [Option.isNone_some, Bool.false_eq_true, if_false]
      exact wpAny_bind (wpAny_letGo (wpAny_pure ⟨e.val, rfl, by rw [hev]; exact fin h' _ hm' hs'⟩))
end Tw
namespace L2
open PySem PySem.Spec PyProof.Rows
def rPopT1 : V → List V → Hp → VK → Prop := fun x xs H Q => ∃ (a : Addr) (kvs : List (List Key × V)) (k : List Key) (b : Addr) (v : V), x = .ref a ∧ xs = [.ref b] ∧ H a = some (.dT kvs) ∧ H b = some (.tup (k.map kV)) ∧ valV kvs k = some v ∧ Q v (upd H a (.dT (dropK kvs k)))
theorem mt_popT1 {X : Cx} (hu : X.A.units + 1 < cLine) : MtR X "dict.pop" rPopT1 := by
  rintro pins s σ H x xs v us Q I rx rxs ⟨a, kvs, k, b, v0, rfl, rfl, ha, hb, hv, q⟩
  cases rx
  cases rxs with
  | cons r1 r2 =>
    cases r2
    cases r1
    obtain ⟨few, nosys, ys, rel, dict⟩ := dt_of I.hok ha
    have r := rel.val k
    rw [hv] at r
    obtain ⟨p, hp, rp⟩ : ∃ p, atKey ys k = some p ∧ RelV v0 p.2 := by
      cases z : atKey ys k with
      | none =>
        rw [z] at r
        exact (show False from r).elim
      | some p =>
        rw [z] at r
        exact ⟨p, rfl, r⟩
    refine call_meetsIn PySem.F.slot_dict_pop dict.typeIs PySem.F.entry_dict_pop (PySem.F.args_dict_pop_2 _ _) (Tw.pop1_meets (knd := tupleKind (mixKind X.prog X.w)) (k := k) nosys)
      ⟨ys, p, tupleKind_room_in1 hu, key_of I.hok hb, dict, by rw [← Paired.length rel]; exact few, hp, fun h' tk dict' same => ?_⟩
    obtain ⟨o, es, ep, g1, g2, g3, g4, _, g5⟩ := dict'
    refine ⟨v0, upd H a (.dT (dropK kvs k)), d_write (ob := .dT (dropK kvs k)) I (by rw [ha]; exact True.intro) same ⟨o, g1⟩ ⟨Nat.le_trans (dropK_le kvs k) few, nosys, _, (DX.KT_drop k rel).keeps fun c zs ec => ?_, o, es, ep, g1, g2, g3, g4, g5⟩, rp, q⟩
    rw [upd_ne (ne_of ec ha (fun z => nomatch z))]
    exact ec
end L2
/-! Own trees changed by statements. -/
namespace Tw
open PySem L2
section
variable {K : PySem.W.Frag} {ds es : List Sl} {ta tb tc te td : TE} {tr : TA} {t u w T : TS} {g : TG} {C : V → TS} {m m1 m2 m3 : Md} {α β γ δ κ τ τ' χ : Type} {out : τ → Out}
/-- the part of slot i's tree at π changes -/
theorem Env.mut {B F M H σ} (E : Env K B F M H σ ds) {i : Nat} {v : V} {od o : OD} {π : List Sp1} (hx : ds[i]? = some (.tr v od)) (hs : subO od π = some o) :
    ∃ (w : V) (m : List Addr), AtP H v π w ∧ Ow F H w o m ∧ (∀ a ∈ m, M a) ∧ ∀ H' o' m', (∀ a u, H a = some u → a ∉ m → H' a = some u) → Ow F H' w o' m' → (∀ a ∈ m', a ∈ m ∨ H a = none) → (∀ a ∈ m, ∃ u, H' a = some u ∧ ∀ xs, u ≠ .tup xs) →
      Env K B F (fun a => M a ∨ (a ∈ m' ∧ H a = none)) H' σ (ds.set i (.tr v (setO π od o'))) := by
  obtain ⟨foot, f1, f2, f3⟩ := id E.ft
  have hi : i < ds.length := (List.getElem?_eq_some_iff.mp hx).1
  have h3 := f3 i
  rw [hx] at h3
  obtain ⟨e, ms, hO, hms⟩ := h3
  obtain ⟨w, m, R, g1, g2, g3, g4, g5⟩ := hO.focus E.sF hs
  refine ⟨w, m, g1, g2, fun a ha => f1 i a (hms a ((g3 a).mpr (.inl ha))), fun H' o' m' keep hO' hm' hal => ?_⟩
  have hR : ∀ a ∈ R, H a ≠ none := fun a ha => by
    obtain ⟨u, z, _⟩ := hO.at a ((g3 a).mpr (.inr ha))
    rw [z]; exact fun z => nomatch z
  have hRm : ∀ a ∈ R, a ∉ m := fun a ha z => g4 a z ha
  obtain ⟨ms', q1, q2⟩ := g5 F H' o' m' (Same.refl _) (fun a ha u z => keep a u z (hRm a ha)) hO' fun a ha z => by
    rcases hm' a ha with y | y
    · exact g4 a y z
    · exact hR a z y
  refine E.chg hi f1 f2 f3 (fun a u z nf => keep a u z fun y => nf (hms a ((g3 a).mpr (.inl y)))) (fun a z => ?_) (fun a z => none_of_same E.sB z.2) (fun a z => none_of_same E.sF z.2) (fun a z j y => E.mH a (f1 j a y) z.2) ⟨e, ms', q1, fun a ha => ?_⟩
  · by_cases hm : a ∈ m
    · exact hal a hm
    · rcases z with z | z
      · cases y : H a with
        | none => exact absurd y (E.mH a (f1 i a z))
        | some u => exact ⟨u, keep a u y hm, fun xs q => E.mT a xs (f1 i a z) (by rw [y, q])⟩
      · exact hO'.at a z.1
  · rcases (q2 a).mp ha with y | y
    · rcases hm' a y with z | z
      · exact .inl (hms a ((g3 a).mpr (.inl z)))
      · exact .inr ⟨y, z⟩
    · exact .inl (hms a ((g3 a).mpr (.inr y)))
theorem Env.same {B F M M' H σ} (E : Env K B F M H σ ds) (h : ∀ a, M a ↔ M' a) : Env K B F M' H σ ds := by
  have : M = M' := funext fun a => propext (h a)
  rw [← this]; exact E
/-- .. where nothing new comes to it -/
theorem Env.mut0 {B F M H σ} (E : Env K B F M H σ ds) {i : Nat} {v : V} {od o : OD} {π : List Sp1} (hx : ds[i]? = some (.tr v od)) (hs : subO od π = some o) :
    ∃ (w : V) (m : List Addr), AtP H v π w ∧ Ow F H w o m ∧ (∀ a ∈ m, M a) ∧ ∀ H' o' m', (∀ a u, H a = some u → a ∉ m → H' a = some u) → Ow F H' w o' m' → (∀ a ∈ m', a ∈ m) → (∀ a ∈ m, ∃ u, H' a = some u ∧ ∀ xs, u ≠ .tup xs) → Env K B F M H' σ (ds.set i (.tr v (setO π od o'))) := by
  obtain ⟨w, m, h1, h2, h3, h4⟩ := E.mut hx hs
  refine ⟨w, m, h1, h2, h3, fun H' o' m' keep hO hm hal => (h4 H' o' m' keep hO (fun a ha => .inl (hm a ha)) hal).same fun a => ⟨fun z => ?_, .inl⟩⟩
  rcases z with z | ⟨z1, z2⟩
  · exact z
  · exact h3 a (hm a z1)
/-- one object of a tree changes -/
theorem keep1 {H : Hp} {p : Addr} {o : HO} {m : List Addr} (hp : p ∈ m) : ∀ a u, H a = some u → a ∉ m → upd H p o a = some u := fun a u z n => by
  rw [upd_ne fun e => n (by rw [e]; exact hp)]; exact z
theorem al1 {F H : Hp} {w : V} {o : OD} {m : List Addr} (hO : Ow F H w o m) {p : Addr} {u : HO} (hu : ∀ xs, u ≠ .tup xs) : ∀ a ∈ m, ∃ u', upd H p u a = some u' ∧ ∀ xs, u' ≠ .tup xs := fun a ha => by
  by_cases e : a = p
  · subst e; exact ⟨u, upd_same, hu⟩
  · rw [upd_ne e]; exact hO.at a ha
theorem Stp.of1 {F H : Hp} {M : Addr → Prop} {p : Addr} {u : HO} (hp : M p) : Stp F M H F M (upd H p u) :=
  ⟨Same.refl _, fun _ z => .inl z, fun b o z n => by rw [upd_ne fun e => n (by rw [e]; exact hp)]; exact z, fun _ z => .inl z⟩
/-! ### places, further -/
theorem lo_ix {i : Nat} {v : V} {e0 : α → OD} {x : α} {e : β → OD} {o : Option (Loc α (List β))} {oi : Option Int} (h : EvLoc K ds i v te e0 x (eL e) o) (hi : EvO K ds m tb oi) : EvLoc K ds i v (tOp (rIxL K) te tb) e0 x e (o.bind fun l => oi.bind fun k => locIx l k) := ⟨h.1, fun l hl => by
  obtain ⟨l0, e1, hl⟩ := bind_some' hl
  obtain ⟨k, e2, hl⟩ := bind_some' hl
  obtain ⟨j, e3, hl⟩ := bind_some' hl
  cases e4 : l0.y[j]? with
  | none => rw [e4] at hl; cases hl
  | some y =>
    rw [e4] at hl
    cases hl
    obtain ⟨π, h1, h2, h3⟩ := h.2 l0 e1
    have hsub : subO (eL e l0.y) [.ix j] = some (e y) := by
      show ((l0.y.map e)[j]?).bind (fun o => subO o []) = _
      rw [List.getElem?_map, e4]
      exact subO_nil _
    refine ⟨π ++ [.ix j], by rw [subO_app h1]; exact hsub, fun y' => ?_, fun B F M H σ Q E q => ?_⟩
    · rw [setO_app h1]
      show setO π (e0 x) (setO [.ix j] (eL e l0.y) (e y')) = _
      have : setO [.ix j] (eL e l0.y) (e y') = eL e (l0.y.set j y') := by
        show OD.lst (match (l0.y.map e)[j]? with | some z => (l0.y.map e).set j (setO [] z (e y')) | none => l0.y.map e) = _
        rw [List.getElem?_map, e4]
        show OD.lst ((l0.y.map e).set j (e y')) = OD.lst ((l0.y.set j y').map e)
        rw [List.map_set]
      rw [this, h2]
    · refine h3 B F M H σ _ E fun w F1 H1 x1 hat => hi k e2 B F1 M H1 σ _ (E.ext x1) fun wk F2 H2 x2 rk => ?_
      have E2 := (E.ext x1).ext x2
      obtain ⟨w', m', g1, g2, _, _⟩ := E2.mut h.1 h1
      have hww : w = w' := (hat.mono x2.sH).uniq g1
      subst hww
      obtain ⟨p, vs, ms', rfl, hp, r, _, _⟩ := ow_list g2
      obtain ⟨z, mz, R, r1, r2, _⟩ := r.get (i := j) (o := e y) (by rw [List.getElem?_map, e4]; rfl)
      refine ⟨p, vs, k, z, rfl, rp_int rk, SqL.of hp, ?_, q z F2 H2 (x1.trans x2) (g1.app ⟨p, vs, z, rfl, hp, r1, rfl⟩)⟩
      unfold atI
      rw [r.len, List.length_map, e3]
      exact r1⟩
theorem lo_some {i : Nat} {v : V} {e0 : α → OD} {x : α} {e : β → OD} {o : Option (Loc α (Option β))} (h : EvLoc K ds i v te e0 x (eO e) o) : EvLoc K ds i v te e0 x e (o.bind locS) := ⟨h.1, fun l hl => by
  obtain ⟨l0, e1, hl⟩ := bind_some' hl
  cases e4 : l0.y with
  | none => unfold locS at hl; rw [e4] at hl; cases hl
  | some y =>
    unfold locS at hl
    rw [e4] at hl
    cases hl
    obtain ⟨π, h1, h2, h3⟩ := h.2 l0 e1
    rw [e4] at h1
    exact ⟨π, h1, fun y' => h2 (some y'), h3⟩⟩
def locT4b (l : Loc α (T4 β γ δ κ)) : Loc α γ := ⟨l.y.b, fun z => l.upd ⟨l.y.a, z, l.y.c, l.y.d⟩⟩
def locT4c (l : Loc α (T4 β γ δ κ)) : Loc α δ := ⟨l.y.c, fun z => l.upd ⟨l.y.a, l.y.b, z, l.y.d⟩⟩
def locT2a (l : Loc α (β × γ)) : Loc α β := ⟨l.y.1, fun z => l.upd (z, l.y.2)⟩
def locT2b (l : Loc α (β × γ)) : Loc α γ := ⟨l.y.2, fun z => l.upd (l.y.1, z)⟩
theorem lo_t2a {i : Nat} {v : V} {e0 : α → OD} {x : α} {e : β → OD} {f : γ → OD} {o : Option (Loc α (β × γ))} (h : EvLoc K ds i v te e0 x (eT2 e f) o) : EvLoc K ds i v (tOp (rIxT K) te (tC (.int 0))) e0 x e (o.map locT2a) := ⟨h.1, fun l hl => by
  cases o with
  | none => cases hl
  | some l0 =>
    cases hl
    obtain ⟨π, h1, h2, h3⟩ := h.2 l0 rfl
    refine ⟨π ++ [.tp 0], by rw [subO_app h1]; exact subO_nil _, fun y' => by rw [setO_app h1]; exact h2 (y', l0.y.2), fun B F M H σ Q E q => ?_⟩
    refine h3 B F M H σ _ E fun w F1 H1 x1 hat => ?_
    have E1 := E.ext x1
    obtain ⟨w', m', g1, g2, _, _⟩ := E1.mut h.1 h1
    have hww : w = w' := hat.uniq g1
    subst hww
    unfold eT2 at g2
    cases g2 with
    | tup hp r => cases r with
      | cons r1 r => cases r with
        | cons r2 r => cases r; exact ⟨_, _, 0, _, rfl, rfl, SqT.of (x1.sub _ _ hp), rfl, q _ F1 H1 x1 (hat.app ⟨_, _, _, rfl, x1.sub _ _ hp, rfl, rfl⟩)⟩⟩
theorem lo_t2b {i : Nat} {v : V} {e0 : α → OD} {x : α} {e : β → OD} {f : γ → OD} {o : Option (Loc α (β × γ))} (h : EvLoc K ds i v te e0 x (eT2 e f) o) : EvLoc K ds i v (tOp (rIxT K) te (tC (.int 1))) e0 x f (o.map locT2b) := ⟨h.1, fun l hl => by
  cases o with
  | none => cases hl
  | some l0 =>
    cases hl
    obtain ⟨π, h1, h2, h3⟩ := h.2 l0 rfl
    refine ⟨π ++ [.tp 1], by rw [subO_app h1]; exact subO_nil _, fun y' => by rw [setO_app h1]; exact h2 (l0.y.1, y'), fun B F M H σ Q E q => ?_⟩
    refine h3 B F M H σ _ E fun w F1 H1 x1 hat => ?_
    have E1 := E.ext x1
    obtain ⟨w', m', g1, g2, _, _⟩ := E1.mut h.1 h1
    have hww : w = w' := hat.uniq g1
    subst hww
    unfold eT2 at g2
    cases g2 with
    | tup hp r => cases r with
      | cons r1 r => cases r with
        | cons r2 r => cases r; exact ⟨_, _, 1, _, rfl, rfl, SqT.of (x1.sub _ _ hp), rfl, q _ F1 H1 x1 (hat.app ⟨_, _, _, rfl, x1.sub _ _ hp, rfl, rfl⟩)⟩⟩
/-! ### statements -/
/-- where a place is found: its tree, and what may stand there -/
theorem EvLoc.run {i : Nat} {v : V} {e0 : α → OD} {x : α} {e : β → OD} {ol : Option (Loc α β)} {l : Loc α β} (lo : EvLoc K ds i v te e0 x e ol) (hl : ol = some l) {B F M H σ Q} (E : Env K B F M H σ ds)
    (q : ∀ w F1 H1, Ext F H F1 H1 → (∀ F2 H2, Ext F1 H1 F2 H2 → ∃ m, Ow F2 H2 w (e l.y) m ∧ (∀ a ∈ m, M a) ∧ ∀ H' y' m', (∀ a u, H2 a = some u → a ∉ m → H' a = some u) → Ow F2 H' w (e y') m' → (∀ a ∈ m', a ∈ m) → (∀ a ∈ m, ∃ u, H' a = some u ∧ ∀ xs, u ≠ .tup xs) → Env K B F2 M H' σ (ds.set i (.tr v (e0 (l.upd y'))))) → Q w H1) : te σ H Q := by
  obtain ⟨π, h1, h2, h3⟩ := lo.2 l hl
  refine h3 B F M H σ Q E fun w F1 H1 x1 hat => q w F1 H1 x1 fun F2 H2 x2 => ?_
  have E2 := (E.ext x1).ext x2
  obtain ⟨w', m', g1, g2, g3, g4⟩ := E2.mut0 lo.1 h1
  have hww : w = w' := (hat.mono x2.sH).uniq g1
  subst hww
  refine ⟨m', g2, g3, fun H' y' m2 keep hO' hm hal => ?_⟩
  rw [← h2]
  exact g4 H' (e y') m2 keep hO' hm hal
theorem Fin.ext {B F M H F' H' D o} (f : Fin K B F M H o D) (x : Ext F H F' H') : Fin K B F' M H' o D := f.step (.ofExt x)
/-- xs.append(y), y frozen -/
theorem sl_app [Em β] {i : Nat} {v : V} {e0 : α → OD} {x : α} {ol : Option (Loc α (List β))} {o : Option β} {r : α → Option τ} (lo : EvLoc K ds i v te e0 x (eL eV) ol) (h : EvO K ds .f tb o) (k : ∀ z, SvO K (ds.set i (.tr v (e0 z))) u (r z) out) :
    SvO K ds (tSeq (tDrop (tBM K "list" rAppend te (tCons tb tNil))) u) ((ol.bind fun l => o.bind fun y => (oapp l.y y).map l.upd).bind r) out := fun z hz B F M H σ D E fin => by
  obtain ⟨z1, e1, e2⟩ := bind_some' hz
  obtain ⟨l, e3, e1⟩ := bind_some' e1
  obtain ⟨y, e4, e1⟩ := bind_some' e1
  cases e5 : oapp l.y y with
  | none => rw [e5] at e1; cases e1
  | some ys =>
    rw [e5] at e1
    cases e1
    refine lo.run e3 E fun w F1 H1 x1 hw => ?_
    obtain ⟨m1, hO1, _, _⟩ := hw F1 H1 (Ext.refl x1.sub)
    obtain ⟨p, vs, ms', rfl, hp, _, _, _⟩ := ow_list hO1
    refine ⟨.inl ⟨rfl, vs, SqL.of hp⟩, h y e4 B F1 M H1 σ _ (E.ext x1) fun vy F2 H2 x2 ry => ?_⟩
    obtain ⟨m2, hO2, hM, up⟩ := hw F2 H2 x2
    obtain ⟨p', vs', ms2, hpe, hp', r', hn', rfl⟩ := ow_list hO2
    cases hpe
    obtain ⟨ra, rfl⟩ := r'.vals
    unfold oapp at e5
    split at e5
    · rename_i hlen
      cases e5
      refine ⟨p, vs', vy, rfl, rfl, hp', Nat.lt_of_lt_of_le (by rw [ra.len, List.length_map]; exact hlen) (by decide : 100000 ≤ sizeLine), ?_⟩
      have hnew : Ow F2 (upd H2 p (.lst (vs' ++ [vy]))) (.ref p) (eL eV (l.y ++ [y])) [p] := .lst upd_same (OwL.ofVals (by rw [List.map_append]; exact ra.app (.cons ry .nil))) List.not_mem_nil
      exact k _ z e2 B F2 M _ σ D (up _ _ [p] (keep1 (by simp)) hnew (fun a ha => ha) (al1 hO2 fun _ z => nomatch z)) ((fin.ext (x1.trans x2)).step (.of1 (hM p (by simp))))
    · cases e5
/-- xs[k] = y, y frozen -/
theorem sl_set [Em β] {i : Nat} {v : V} {e0 : α → OD} {x : α} {ol : Option (Loc α (List β))} {o : Option β} {oi : Option Int} {r : α → Option τ} (lo : EvLoc K ds i v te e0 x (eL eV) ol) (h : EvO K ds .f tc o) (h2 : EvO K ds m2 tb oi) (k : ∀ z, SvO K (ds.set i (.tr v (e0 z))) u (r z) out) :
    SvO K ds (tSeq (tAsg tc (gSub te tb rSetL)) u) ((o.bind fun y => ol.bind fun l => oi.bind fun j => (oset l.y j y).map l.upd).bind r) out := fun z hz B F M H σ D E fin => by
  obtain ⟨z1, e1, e2⟩ := bind_some' hz
  obtain ⟨y, e4, e1⟩ := bind_some' e1
  obtain ⟨l, e3, e1⟩ := bind_some' e1
  obtain ⟨jj, e6, e1⟩ := bind_some' e1
  cases e5 : oset l.y jj y with
  | none => rw [e5] at e1; cases e1
  | some ys =>
    rw [e5] at e1
    cases e1
    refine h y e4 B F M H σ _ E fun vy F1 H1 x1 ry => lo.run e3 (E.ext x1) fun w F2 H2 x2 hw => h2 jj e6 B F2 M H2 σ _ ((E.ext x1).ext x2) fun wk F3 H3 x3 rk => ?_
    obtain ⟨m2, hO2, hM, up⟩ := hw F3 H3 x3
    obtain ⟨p, vs', ms2, rfl, hp', r', hn', rfl⟩ := ow_list hO2
    obtain ⟨ra, rfl⟩ := r'.vals
    unfold oset at e5
    cases hj : ixN l.y.length jj with
    | none => rw [hj] at e5; cases e5
    | some j =>
      rw [hj] at e5
      cases e5
      refine ⟨p, vs', jj, j, rfl, rp_int rk, hp', by rw [ra.len, List.length_map]; exact hj, ?_⟩
      have hnew : Ow F3 (upd H3 p (.lst (vs'.set j vy))) (.ref p) (eL eV (l.y.set j y)) [p] := .lst upd_same (OwL.ofVals (by rw [List.map_set]; exact ra.set (ry.mono (x2.trans x3).sF) j)) List.not_mem_nil
      exact k _ z e2 B F3 M _ σ D (up _ _ [p] (keep1 (by simp)) hnew (fun a ha => ha) (al1 hO2 fun _ z => nomatch z)) ((fin.ext (x1.trans (x2.trans x3))).step (.of1 (hM p (by simp))))
/-- xs.clear() -/
theorem sl_clear [Em β] {i : Nat} {v : V} {e0 : α → OD} {x : α} {ol : Option (Loc α (List β))} {r : α → Option τ} (lo : EvLoc K ds i v te e0 x (eL eV) ol) (k : ∀ z, SvO K (ds.set i (.tr v (e0 z))) u (r z) out) :
    SvO K ds (tSeq (tDrop (tBM0 K "list" rClear te)) u) ((ol.map fun l => l.upd []).bind r) out := fun z hz B F M H σ D E fin => by
  obtain ⟨z1, e1, e2⟩ := bind_some' hz
  cases e3 : ol with
  | none => rw [e3] at e1; cases e1
  | some l =>
    rw [e3] at e1
    cases e1
    refine lo.run e3 E fun w F1 H1 x1 hw => ?_
    obtain ⟨m1, hO1, hM, up⟩ := hw F1 H1 (Ext.refl x1.sub)
    obtain ⟨p, vs, ms', rfl, hp, r', _, rfl⟩ := ow_list hO1
    obtain ⟨ra, rfl⟩ := r'.vals
    refine ⟨.inl ⟨rfl, vs, SqL.of hp⟩, p, vs, rfl, rfl, hp, ?_⟩
    have hnew : Ow F1 (upd H1 p (.lst [])) (.ref p) (eL eV ([] : List β)) [p] := .lst upd_same .nil List.not_mem_nil
    exact k _ z e2 B F1 M _ σ D (up _ _ [p] (keep1 (by simp)) hnew (fun a ha => ha) (al1 hO1 fun _ z => nomatch z)) ((fin.ext x1).step (.of1 (hM p (by simp))))
/-! ### dicts of frozen things -/
theorem owl_put [DecidableEq κ] [Em β] {F H : Hp} {kv : List (κ × V)} {kvs : List (κ × β)} {ms : List Addr} {kk : κ} {w : V} {y : β} (r : OwL F H (kv.map (·.2)) ((kvs.map fun x => (x.1, eV x.2)).map (·.2)) ms) (hk : kv.map (·.1) = (kvs.map fun x => (x.1, (eV x.2 : OD))).map (·.1)) (ry : Rp F w (em y)) :
    ms = [] ∧ ∀ H', OwL F H' ((dput kv kk w).map (·.2)) (((dput kvs kk y).map fun x => (x.1, eV x.2)).map (·.2)) [] ∧ (dput kv kk w).map (·.1) = ((dput kvs kk y).map fun x => (x.1, (eV x.2 : OD))).map (·.1) := by
  have hk2 : kv.map (·.1) = kvs.map (·.1) := by rw [hk, List.map_map]; rfl
  have r1 : OwL F H (kv.map (·.2)) ((kvs.map (·.2)).map eV) ms := by
    rw [List.map_map] at r ⊢
    exact r
  obtain ⟨ra, rfl⟩ := r1.vals
  refine ⟨rfl, fun H' => ?_⟩
  have hkv : KvR F kv (emD kvs) := by
    clear r r1 hk
    unfold emD
    induction kv generalizing kvs with
    | nil =>
      cases kvs with
      | nil => exact .nil
      | cons y ys => cases hk2
    | cons x kv ih =>
      cases kvs with
      | nil => cases hk2
      | cons y ys =>
        obtain ⟨a, b⟩ := x
        obtain ⟨c, d⟩ := y
        simp only [List.map_cons, List.cons.injEq] at hk2 ra
        obtain ⟨rfl, hk2⟩ := hk2
        cases ra with
        | cons r1 r2 => exact .cons r1 (ih hk2 r2)
  have h2 := hkv.put (k := kk) ry
  rw [emD_put] at h2
  have conv : ∀ {kv : List (κ × V)} {kvs : List (κ × β)}, KvR F kv (emD kvs) → RpA F (kv.map (·.2)) ((kvs.map (·.2)).map em) ∧ kv.map (·.1) = kvs.map (·.1) := by
    intro kv
    induction kv with
    | nil =>
      intro kvs h
      cases kvs with
      | nil => exact ⟨.nil, rfl⟩
      | cons y ys => cases h
    | cons x kv ih =>
      intro kvs h
      cases kvs with
      | nil => cases h
      | cons y ys =>
        unfold emD at h
        simp only [List.map_cons] at h
        cases h with
        | cons r1 r2 =>
          obtain ⟨h1, h2⟩ := ih r2
          exact ⟨.cons r1 h1, by simp only [List.map_cons, h2]⟩
  obtain ⟨h3, h4⟩ := conv h2
  refine ⟨?_, by rw [h4, List.map_map]; rfl⟩
  have := OwL.ofVals (H := H') h3
  rw [List.map_map] at this ⊢
  exact this
theorem owl_drop [DecidableEq κ] [Em β] {F H : Hp} {kv : List (κ × V)} {kvs : List (κ × β)} {ms : List Addr} {kk : κ} (r : OwL F H (kv.map (·.2)) ((kvs.map fun x => (x.1, eV x.2)).map (·.2)) ms) (hk : kv.map (·.1) = (kvs.map fun x => (x.1, (eV x.2 : OD))).map (·.1)) :
    ms = [] ∧ ∀ H', OwL F H' ((ddrop kv kk).map (·.2)) (((ddrop kvs kk).map fun x => (x.1, eV x.2)).map (·.2)) [] ∧ (ddrop kv kk).map (·.1) = ((ddrop kvs kk).map fun x => (x.1, (eV x.2 : OD))).map (·.1) := by
  have hk2 : kv.map (·.1) = kvs.map (·.1) := by rw [hk, List.map_map]; rfl
  have r1 : OwL F H (kv.map (·.2)) ((kvs.map (·.2)).map eV) ms := by
    rw [List.map_map] at r ⊢
    exact r
  obtain ⟨ra, rfl⟩ := r1.vals
  refine ⟨rfl, fun H' => ?_⟩
  clear r r1 hk
  have : RpA F ((ddrop kv kk).map (·.2)) (((ddrop kvs kk).map (·.2)).map em) ∧ (ddrop kv kk).map (·.1) = (ddrop kvs kk).map (·.1) := by
    induction kv generalizing kvs with
    | nil =>
      cases kvs with
      | nil => exact ⟨.nil, rfl⟩
      | cons y ys => cases hk2
    | cons x kv ih =>
      cases kvs with
      | nil => cases hk2
      | cons y ys =>
        obtain ⟨a, b⟩ := x
        obtain ⟨c, d⟩ := y
        simp only [List.map_cons, List.cons.injEq] at hk2 ra
        obtain ⟨rfl, hk2⟩ := hk2
        cases ra with
        | cons r1 r2 =>
          obtain ⟨h1, h2⟩ := ih hk2 r2
          unfold ddrop
          by_cases e : a = kk
          · rw [List.filter_cons_of_neg (by simp [e]), List.filter_cons_of_neg (by simp [e])]
            exact ⟨h1, h2⟩
          · rw [List.filter_cons_of_pos (by simpa using e), List.filter_cons_of_pos (by simpa using e)]
            exact ⟨.cons r1 h1, by simp only [List.map_cons]; unfold ddrop at h2; rw [h2]⟩
  refine ⟨?_, by rw [this.2, List.map_map]; rfl⟩
  have := OwL.ofVals (H := H') this.1
  rw [List.map_map] at this ⊢
  exact this
/-- d[k] = y -/
theorem sl_dput [DecidableEq κ] [Em κ] [Ky κ] [Em β] {i : Nat} {v : V} {e0 : α → OD} {x : α} {ol : Option (Loc α (List (κ × β)))} {o : Option β} {ok : Option κ} {r : α → Option τ} (lo : EvLoc K ds i v td e0 x (eD eV) ol) (h : EvO K ds .f tc o) (hk : EvO K ds m2 tb ok) (k : ∀ z, SvO K (ds.set i (.tr v (e0 z))) u (r z) out) :
    SvO K ds (tSeq (sDPut td tb tc) u) ((o.bind fun y => ol.bind fun l => ok.bind fun j => (odput l.y j y).map l.upd).bind r) out := fun z hz B F M H σ D E fin => by
  obtain ⟨z1, e1, e2⟩ := bind_some' hz
  obtain ⟨y, e4, e1⟩ := bind_some' e1
  obtain ⟨l, e3, e1⟩ := bind_some' e1
  obtain ⟨kk, e6, e1⟩ := bind_some' e1
  cases e5 : odput l.y kk y with
  | none => rw [e5] at e1; cases e1
  | some ys =>
    rw [e5] at e1
    cases e1
    refine h y e4 B F M H σ _ E fun vy F1 H1 x1 ry => lo.run e3 (E.ext x1) fun w F2 H2 x2 hw => hk kk e6 B F2 M H2 σ _ ((E.ext x1).ext x2) fun wk F3 H3 x3 rk => ?_
    have E3 := ((E.ext x1).ext x2).ext x3
    obtain ⟨m2, hO2, hM, up⟩ := hw F3 H3 x3
    obtain ⟨p, kv, ms2, rfl, hp', r', hks, hn', rfl⟩ := Ky.inv hO2
    unfold odput at e5
    split at e5
    · rename_i hlen
      cases e5
      have hl : kv.length < sizeLine := Nat.lt_of_lt_of_le (by rw [kv_len r', List.length_map]; exact hlen) (by decide : 100000 ≤ sizeLine)
      obtain ⟨rfl, hput⟩ := owl_put (kk := kk) r' hks (ry.mono (x2.trans x3).sF)
      refine ⟨p, _, rfl, Ky.put hp' (rk.mono (hp_H E3)) hl, ?_⟩
      obtain ⟨q1, q2⟩ := hput (upd H3 p (Ky.ho (dput kv kk vy)))
      have hnew : Ow F3 (upd H3 p (Ky.ho (dput kv kk vy))) (.ref p) (eD eV (dput l.y kk y)) [p] := Ky.mkd upd_same q1 q2 List.not_mem_nil
      exact k _ z e2 B F3 M _ σ D (up _ _ [p] (keep1 (by simp)) hnew (fun a ha => ha) (al1 hO2 (Ky.nt _))) ((fin.ext (x1.trans (x2.trans x3))).step (.of1 (hM p (by simp))))
    · cases e5
/-- d.pop(k) as an answer -/
theorem ex_dpopP [Em β] {i : Nat} {v : V} {e0 : α → OD} {x : α} {ol : Option (Loc α (List (PP × β)))} {ok : Option PP} (lo : EvLoc K ds i v td e0 x (eD eV) ol) (hk : EvO K ds m2 tb ok) :
    EvX K ds (tBM K "dict" L2.rPopT1 td (tCons tb tNil)) (ol.bind fun l => ok.bind fun j => (odpop l.y j).map fun z => (z.1, l.upd z.2)) fun z => .vl (.val (em z.1)) (ds.set i (.tr v (e0 z.2))) := fun z hz B F M H σ Q E fin => by
  obtain ⟨l, e3, e1⟩ := bind_some' hz
  obtain ⟨kk, e6, e1⟩ := bind_some' e1
  unfold odpop at e1
  cases e5 : dget l.y kk with
  | none => rw [e5] at e1; cases e1
  | some y =>
    rw [e5] at e1
    cases e1
    refine lo.run e3 E fun w F1 H1 x1 hw => ?_
    obtain ⟨m1, hO1, _, _⟩ := hw F1 H1 (Ext.refl x1.sub)
    obtain ⟨p, kv1, ms1, rfl, hp1, _, _, _, _⟩ := Ky.inv hO1
    refine ⟨.inr (.inr (.inl ⟨rfl, .inr ⟨_, hp1⟩⟩)), hk kk e6 B F1 M H1 σ _ (E.ext x1) fun wk F2 H2 x2 rk => ?_⟩
    have E2 := (E.ext x1).ext x2
    obtain ⟨m2, hO2, hM, up⟩ := hw F2 H2 x2
    obtain ⟨p', kv, ms2, hpe, hp', r', hks, hn', rfl⟩ := Ky.inv hO2
    cases hpe
    obtain ⟨b, x1', x2', rfl, hb, ra, rb⟩ := rp_pair (rk.mono (hp_H E2))
    rw [rp_int ra, rp_int rb] at hb
    have hg := dget_map eV l.y kk
    rw [e5] at hg
    rcases owl_key kk r' hks with ⟨a, c⟩ | ⟨u1, od1, mu, a, c, d⟩
    · rw [c] at hg; cases hg
    · rw [c] at hg
      cases hg
      unfold eV at d
      cases d with
      | v ru =>
        have e := valV_map (κ' := List L2.Key) (f := kyP) kyP_inj kv kk
        have e' := dropK_map (κ' := List L2.Key) (f := kyP) kyP_inj kv kk
        refine ⟨p, mapK kyP kv, kyP kk, b, u1, rfl, rfl, hp', hb, by rw [e, a], ?_⟩
        rw [e']
        obtain ⟨rfl, hdr⟩ := owl_drop (kk := kk) r' hks
        obtain ⟨q1, q2⟩ := hdr (upd H2 p (dpO (ddrop kv kk)))
        have hnew : Ow F2 (upd H2 p (dpO (ddrop kv kk))) (.ref p) (eD eV (ddrop l.y kk)) [p] := Ky.mkd (κ := PP) upd_same q1 q2 List.not_mem_nil
        have E3 := up _ _ [p] (keep1 (by simp)) hnew (fun a ha => ha) (al1 hO2 fun _ z => nomatch z)
        exact fin F2 M _ u1 ((Stp.ofExt (x1.trans x2)).trans (.of1 (hM p (by simp)))) (E3.head0 ru)
/-! ### attributes -/
theorem putF_keys : ∀ {f : Str} {y : V} {fv : List (Str × V)} {i : Nat} {z : V}, kIx fv f = some i → fv[i]? = some (f, z) → putF f y fv = fv.set i (f, y)
  | f, y, [], i, z, h, _ => by cases h
  | f, y, (g, w) :: fv, i, z, h, h2 => by
    unfold kIx at h
    by_cases e : f = g
    · subst e
      rw [if_pos rfl] at h
      cases h
      show (if f = f then (f, y) :: fv else _) = _
      rw [if_pos rfl]
      rfl
    · rw [if_neg e] at h
      cases hi : kIx fv f with
      | none => rw [hi] at h; cases h
      | some j =>
        rw [hi] at h
        cases h
        show (if g = f then (g, y) :: fv else (g, w) :: putF f y fv) = (g, w) :: fv.set j (f, y)
        rw [if_neg fun z => e z.symm, putF_keys (i := j) (z := z) hi (by simpa using h2)]
/-- o.f = y, y frozen -/
theorem sl_fld [Em γ] {i : Nat} {v : V} {e0 : α → OD} {x : α} {eC : β → OD} {f : Str} {gt : β → γ} {st : β → γ → β} {Cl : Addr} {fs : β → List (Str × OD)} {ol : Option (Loc α β)} {o : Option γ} {r : α → Option τ} (lo : EvLoc K ds i v te e0 x eC ol) (hC : ∀ y, eC y = .ins Cl (fs y)) (cl : Cls K Cl) (na : NoAttr K Cl f)
    (hf : ∀ y, (fs y).lookup f = some (eV (gt y))) (hs : ∀ y z, setO [.fld f] (eC y) (eV z) = eC (st y z)) (hlen : ∀ y, (fs y).length < 1000) (h : EvO K ds .f tc o) (k : ∀ z, SvO K (ds.set i (.tr v (e0 z))) u (r z) out) :
    SvO K ds (tSeq (sFld K te tc f) u) ((o.bind fun y => ol.map fun l => l.upd (st l.y y)).bind r) out := fun z hz B F M H σ D E fin => by
  obtain ⟨z1, e1, e2⟩ := bind_some' hz
  obtain ⟨y, e4, e1⟩ := bind_some' e1
  cases e3 : ol with
  | none => rw [e3] at e1; cases e1
  | some l =>
    rw [e3] at e1
    cases e1
    refine h y e4 B F M H σ _ E fun vy F1 H1 x1 ry => lo.run e3 (E.ext x1) fun w F2 H2 x2 hw => ?_
    obtain ⟨m2, hO2, hM, up⟩ := hw F2 H2 (Ext.refl x2.sub)
    have hO3 := hO2
    rw [hC] at hO3
    cases hO3 with
    | @ins p dx C fv xs ms' hp hdx r' hk hn hn2 hn3 =>
      obtain ⟨i', j1, j2⟩ := lookup_ix (hf l.y)
      obtain ⟨t, j4, j5⟩ := ix_lookup (fs := fv) (f := f) (i := i') (by rw [kIx_keys hk]; exact j1)
      obtain ⟨uu, mm, R, g1, g2, g3, g4, g5⟩ := r'.get (map_ix j2)
      have hmm : mm = [] := by unfold eV at g2; cases g2; rfl
      subst hmm
      have hfl : fv.length = (fs l.y).length := by have := congrArg List.length hk; simpa using this
      refine ⟨p, Cl, dx, fv, rfl, hp, cl, na, by rw [hfl]; exact hlen _, ?_⟩
      rw [putF_keys (kIx_keys hk ▸ j1) j4]
      obtain ⟨ms3, q1, q2⟩ := g5 F2 (upd H2 p (.ins Cl dx (fv.set i' (f, vy)))) vy (eV y) [] (Same.refl _) (fun a ha u z => by
        rw [upd_ne fun e => hn (by rw [← e]; exact (g3 a).mpr (.inr ha))]; exact z) (.v (ry.mono x2.sF)) (fun a ha => by cases ha)
      have hm3 : ∀ a, a ∈ ms3 ↔ a ∈ ms' := fun a => by rw [q2, g3]
      have hset : eC (st l.y y) = .ins Cl ((fs l.y).set i' (f, eV y)) := by
        rw [← hs, hC]
        show OD.ins Cl (match kIx (fs l.y) f with | some i => (match (fs l.y)[i]? with | some x => (fs l.y).set i (x.1, setO [] x.2 (eV y)) | none => fs l.y) | none => fs l.y) = _
        rw [j1]
        simp only [j2]
        rfl
      have hnew : Ow F2 (upd H2 p (.ins Cl dx (fv.set i' (f, vy)))) (.ref p) (eC (st l.y y)) (p :: dx :: ms3) := by
        rw [hset]
        exact .ins upd_same (by rw [upd_ne fun e => hn3 e.symm]; exact hdx) (by rw [map_set_snd, map_set_snd]; exact q1) (by rw [map_set_fst j4, map_set_fst j2]; exact hk) (fun z => hn ((hm3 p).mp z)) (fun z => hn2 ((hm3 dx).mp z)) hn3
      refine k _ z e2 B F2 M _ σ D (up _ _ (p :: dx :: ms3) (keep1 (by simp)) hnew (fun a ha => ?_) (al1 hO2 fun _ z => nomatch z)) ((fin.ext (x1.trans x2)).step (.of1 (hM p (by simp))))
      rcases List.mem_cons.mp ha with rfl | ha
      · simp
      · rcases List.mem_cons.mp ha with rfl | ha
        · simp
        · simp [(hm3 a).mp ha]
end
end Tw
/-! Trees lent to a call. -/
namespace Tw
open PySem L2
/-! ### what a def is handed -/
inductive Pm | f (d : PyData) | t (od : OD) | m (od : OD) | s (ns : List Int)
def Pm.sl : Pm → V → Sl
  | .f d, _ => .val d
  | .t od, _ => .rt od
  | .m od, v => .tr v od
  | .s ns, _ => .scr ns
def Pq : Option OD → V → Sl
  | none, _ => .no
  | some od, v => .tr v od
inductive RX | vl (s : Sl) (os : List (Option OD)) | xx (c : Value) (os : List (Option OD))
def RX.ox (E : XK) (vs : List V) : RX → OX
  | .vl s os => .vl s (List.zipWith Pq os vs)
  | .xx c os => .xx E c (List.zipWith Pq os vs)
/-- the promise of a def that is lent trees -/
def spX (K : PySem.W.Frag) {τ ρ : Type} (P : τ → List Pm) (f : τ → Option ρ) (R : ρ → RX) : Sp := fun vs H Q E => ∃ B F M t r, Env K B F M H (vs.map some) (List.zipWith Pm.sl (P t) vs) ∧ vs.length = (P t).length ∧ f t = some r ∧ FinX K B F M H (vs.map some) ((R r).ox E vs) Q
/-! ### what a call hands over -/
inductive Ag | f (d : PyData) | tb (od : OD) | tm (j : Nat) (od : OD) | m (j : Nat) (odr od : OD) (bk : OD → OD → Prop) | s (ns : List Int)
def Ag.pm : Ag → Pm
  | .f d => .f d
  | .tb od => .t od
  | .tm _ od => .t od
  | .m _ _ od _ => .m od
  | .s ns => .s ns
def Ag.lx : Ag → Option Nat
  | .m j _ _ _ => some j
  | _ => none
def Ag.tx : Ag → Option Nat
  | .tm j _ => some j
  | _ => none
def AgOk (K : PySem.W.Frag) (B F H : Hp) (ds : List Sl) : V → Ag → Prop
  | v, .f d => Rp F v d
  | v, .tb od => ∃ ms, Ow F B v od ms
  | v, .tm j od => ∃ root odr π, ds[j]? = some (.tr root odr) ∧ AtP H root π v ∧ subO odr π = some od
  | v, .m j odr od bk => ∃ root π, ds[j]? = some (.tr root odr) ∧ AtP H root π v ∧ subO odr π = some od ∧ ∀ o' o'', bk o' o'' → setO π odr o' = o''
  | v, .s ns => ∃ a, v = .ref a ∧ SqL K B a (ns.map V.int)
inductive All2 {α β : Type} (R : α → β → Prop) : List α → List β → Prop
  | nil : All2 R [] []
  | cons {a b as bs} : R a b → All2 R as bs → All2 R (a :: as) (b :: bs)
theorem All2.len {α β : Type} {R : α → β → Prop} : ∀ {as : List α} {bs : List β}, All2 R as bs → as.length = bs.length
  | _, _, .nil => rfl
  | _, _, .cons _ h => by rw [List.length_cons, List.length_cons, h.len]
theorem All2.get {α β : Type} {R : α → β → Prop} : ∀ {as : List α} {bs : List β} {i : Nat} {b : β}, All2 R as bs → bs[i]? = some b → ∃ a, as[i]? = some a ∧ R a b
  | _, _, _, _, .nil, h => by simp at h
  | _, _, 0, _, .cons r _, h => by simp at h; subst h; exact ⟨_, rfl, r⟩
  | _, _, i + 1, _, .cons _ t, h => by
    obtain ⟨a, h1, h2⟩ := t.get (i := i) (by simpa using h)
    exact ⟨a, by simpa using h1, h2⟩
theorem All2.mono {α β : Type} {R S : α → β → Prop} (h : ∀ a b, R a b → S a b) : ∀ {as : List α} {bs : List β}, All2 R as bs → All2 S as bs
  | _, _, .nil => .nil
  | _, _, .cons r t => .cons (h _ _ r) (t.mono h)
theorem mem_lx {L : List Ag} {k j : Nat} {odr od : OD} {bk : OD → OD → Prop} (h : L[k]? = some (.m j odr od bk)) : j ∈ L.filterMap Ag.lx := List.mem_filterMap.mpr ⟨.m j odr od bk, List.mem_of_getElem? h, rfl⟩
theorem mem_tx {L : List Ag} {k j : Nat} {od : OD} (h : L[k]? = some (.tm j od)) : j ∈ L.filterMap Ag.tx := List.mem_filterMap.mpr ⟨.tm j od, List.mem_of_getElem? h, rfl⟩
/-- the slots behind a call -/
inductive Bk : List Sl → List Ag → List (Option OD) → List Sl → Prop
  | nil {ds} : Bk ds [] [] ds
  | f {ds d L os es} : Bk ds L os es → Bk ds (.f d :: L) (none :: os) es
  | tb {ds d L os es} : Bk ds L os es → Bk ds (.tb d :: L) (none :: os) es
  | tm {ds j d L os es} : Bk ds L os es → Bk ds (.tm j d :: L) (none :: os) es
  | s {ds d L os es} : Bk ds L os es → Bk ds (.s d :: L) (none :: os) es
  | m {ds j v odr od bk L o' o'' os es} : ds[j]? = some (.tr v odr) → bk o' o'' → Bk (ds.set j (.tr v o'')) L os es → Bk ds (.m j odr od bk :: L) (some o' :: os) es
theorem Bk.len : ∀ {ds L os es}, Bk ds L os es → es.length = ds.length ∧ os.length = L.length
  | _, _, _, _, .nil => ⟨rfl, rfl⟩
  | _, _, _, _, .f h => ⟨h.len.1, by simp [h.len.2]⟩
  | _, _, _, _, .tb h => ⟨h.len.1, by simp [h.len.2]⟩
  | _, _, _, _, .tm h => ⟨h.len.1, by simp [h.len.2]⟩
  | _, _, _, _, .s h => ⟨h.len.1, by simp [h.len.2]⟩
  | _, _, _, _, .m _ _ h => ⟨by rw [h.len.1, List.length_set], by simp [h.len.2]⟩
theorem Bk.out : ∀ {ds L os es}, Bk ds L os es → ∀ i, i ∉ L.filterMap Ag.lx → es[i]? = ds[i]?
  | _, _, _, _, .nil, _, _ => rfl
  | _, _, _, _, .f h, i, n => h.out i n
  | _, _, _, _, .tb h, i, n => h.out i n
  | _, _, _, _, .tm h, i, n => h.out i n
  | _, _, _, _, .s h, i, n => h.out i n
  | _, _, _, _, .m (j := j) (L := L0) _ _ h, i, n => by
    have n' : i ≠ j ∧ i ∉ List.filterMap Ag.lx L0 := by simpa [List.filterMap_cons, Ag.lx] using n
    rw [h.out i n'.2, List.getElem?_set_ne (fun e => n'.1 e.symm)]
theorem Bk.in_ : ∀ {ds L os es}, Bk ds L os es → (L.filterMap Ag.lx).Nodup → ∀ (k : Nat) j odr od bk, L[k]? = some (.m j odr od bk) → ∃ v o' o'', ds[j]? = some (.tr v odr) ∧ os[k]? = some (some o') ∧ bk o' o'' ∧ es[j]? = some (.tr v o'')
  | _, _, _, _, .nil, _, k, _, _, _, _, h => by simp at h
  | _, _, _, _, .f h, nd, 0, _, _, _, _, e => by simp at e
  | _, _, _, _, .tb h, nd, 0, _, _, _, _, e => by simp at e
  | _, _, _, _, .tm h, nd, 0, _, _, _, _, e => by simp at e
  | _, _, _, _, .s h, nd, 0, _, _, _, _, e => by simp at e
  | _, _, _, _, .f h, nd, k + 1, j, odr, od, bk, e => by
    obtain ⟨v, o', o'', h1, h2, h3, h4⟩ := h.in_ nd k j odr od bk (by simpa using e)
    exact ⟨v, o', o'', h1, by simpa using h2, h3, h4⟩
  | _, _, _, _, .tb h, nd, k + 1, j, odr, od, bk, e => by
    obtain ⟨v, o', o'', h1, h2, h3, h4⟩ := h.in_ nd k j odr od bk (by simpa using e)
    exact ⟨v, o', o'', h1, by simpa using h2, h3, h4⟩
  | _, _, _, _, .tm h, nd, k + 1, j, odr, od, bk, e => by
    obtain ⟨v, o', o'', h1, h2, h3, h4⟩ := h.in_ nd k j odr od bk (by simpa using e)
    exact ⟨v, o', o'', h1, by simpa using h2, h3, h4⟩
  | _, _, _, _, .s h, nd, k + 1, j, odr, od, bk, e => by
    obtain ⟨v, o', o'', h1, h2, h3, h4⟩ := h.in_ nd k j odr od bk (by simpa using e)
    exact ⟨v, o', o'', h1, by simpa using h2, h3, h4⟩
  | ds, _, _, es, .m (j := j0) (v := v0) (o' := p') (o'' := p'') (L := L0) hd hb h, nd, 0, j, odr, od, bk, e => by
    simp only [List.getElem?_cons_zero, Option.some.injEq, Ag.m.injEq] at e
    obtain ⟨rfl, rfl, rfl, rfl⟩ := e
    have nd' : j0 ∉ List.filterMap Ag.lx L0 ∧ (List.filterMap Ag.lx L0).Nodup := by simpa [List.filterMap_cons, Ag.lx] using nd
    have hl := (List.getElem?_eq_some_iff.mp hd).1
    exact ⟨v0, p', p'', hd, rfl, hb, by rw [h.out j0 nd'.1, List.getElem?_set_self hl]⟩
  | ds, _, _, es, .m (j := j0) (v := v0) (o' := p') (o'' := p'') (L := L0) hd hb h, nd, k + 1, j, odr, od, bk, e => by
    have nd' : j0 ∉ List.filterMap Ag.lx L0 ∧ (List.filterMap Ag.lx L0).Nodup := by simpa [List.filterMap_cons, Ag.lx] using nd
    have e' : L0[k]? = some (Ag.m j odr od bk) := by simpa using e
    obtain ⟨v, o', o'', h1, h2, h3, h4⟩ := h.in_ nd'.2 k j odr od bk e'
    have hne : j ≠ j0 := fun q => nd'.1 (by
      subst q
      exact mem_lx e')
    rw [List.getElem?_set_ne (fun q => hne q.symm)] at h1
    exact ⟨v, o', o'', h1, by simpa using h2, h3, h4⟩
/-- slots that do not hang on what stood at the entry -/
def Sl.bf : Sl → Bool
  | .rd _ => false
  | .scr _ => false
  | .rdi _ => false
  | .rdp _ => false
  | .rt _ => false
  | .rtp _ _ => false
  | _ => true
theorem hold.anyB {K : PySem.W.Frag} {B B' F H : Hp} {s : Sl} {v : Option (Option V)} {m : Addr → Prop} (h : s.bf = true) (q : hold K B F H s v m) : hold K B' F H s v m := by
  cases s with
  | rd _ => cases h
  | scr _ => cases h
  | rdi _ => cases h
  | rdp _ => cases h
  | rt _ => cases h
  | rtp _ _ => cases h
  | _ => exact q
open Classical in
/-- the lent parts of the caller's slots: to the callee, and back -/
theorem Env.lend {K : PySem.W.Frag} {B F H : Hp} {M : Addr → Prop} {σ : L2.St} {ds : List Sl} (E : Env K B F M H σ ds) {vs : List V} {L : List Ag} (ok : All2 (AgOk K B F H ds) vs L) (nd : (L.filterMap Ag.lx).Nodup) (nt : ∀ j ∈ L.filterMap Ag.tx, j ∉ L.filterMap Ag.lx) :
    ∃ B1 M1, (∀ a, M1 a → M a) ∧ Env K B1 F M1 H (vs.map some) (List.zipWith Pm.sl (L.map Ag.pm) vs) ∧ (∀ (F' : Hp) (M1' : Addr → Prop) (H' : Hp) (u : V) (s : Sl) (os : List (Option OD)) (es : List Sl), Stp F M1 H F' M1' H' → Env K B1 F' M1' H' (some u :: vs.map some) (s :: List.zipWith Pq os vs) → s.bf = true → Bk ds L os es →
      ∃ M', Stp F M H F' M' H' ∧ Env K B F' M' H' (some u :: σ) (s :: es)) := by
  obtain ⟨foot, f1, f2, f3⟩ := id E.ft
  -- the parts
  have hex : ∀ k : Nat, ∃ D : List Addr × List Addr, (∀ j odr od bk, L[k]? = some (.m j odr od bk) → ∃ v root, vs[k]? = some v ∧ ds[j]? = some (.tr root odr) ∧ Ow F H v od D.1 ∧ (∀ a ∈ D.1, foot j a) ∧ (∀ a ∈ D.2, foot j a) ∧ (∀ a ∈ D.1, a ∉ D.2) ∧
      ∀ F' H' o' o'' m', Same F F' → (∀ a ∈ D.2, ∀ u, H a = some u → H' a = some u) → Ow F' H' v o' m' → (∀ a ∈ m', a ∉ D.2) → bk o' o'' → ∃ ms', Ow F' H' root o'' ms' ∧ ∀ a, a ∈ ms' ↔ a ∈ m' ∨ a ∈ D.2) ∧ ((∀ j odr od bk, L[k]? ≠ some (.m j odr od bk)) → D = ([], [])) := by
    intro k
    by_cases h : ∃ j odr od bk, L[k]? = some (.m j odr od bk)
    · obtain ⟨j, odr, od, bk, hk⟩ := h
      obtain ⟨v, hv, root, π, h1, h2, h3, h4⟩ := ok.get hk
      have h5 := f3 j
      rw [h1] at h5
      obtain ⟨e, ms, hO, hms⟩ := h5
      obtain ⟨w, m, R, g1, g2, g3, g4, g5⟩ := hO.focus E.sF h3
      have hw : v = w := h2.uniq g1
      subst hw
      refine ⟨(m, R), fun j' odr' od' bk' hk' => ?_, fun n => absurd hk (n j odr od bk)⟩
      rw [hk] at hk'
      simp only [Option.some.injEq, Ag.m.injEq] at hk'
      obtain ⟨rfl, rfl, rfl, rfl⟩ := hk'
      refine ⟨v, root, hv, h1, g2, fun a ha => hms a ((g3 a).mpr (.inl ha)), fun a ha => hms a ((g3 a).mpr (.inr ha)), g4, fun F' H' o' o'' m' sF kp h' d' hb => ?_⟩
      obtain ⟨ms', q1, q2⟩ := g5 F' H' o' m' sF kp h' d'
      rw [h4 o' o'' hb] at q1
      exact ⟨ms', q1, q2⟩
    · exact ⟨([], []), fun j odr od bk hk => absurd ⟨j, odr, od, bk, hk⟩ h, fun _ => rfl⟩
  obtain ⟨D, hD⟩ := Classical.axiomOfChoice hex
  have hfoot : ∀ k a, a ∈ (D k).1 → ∃ j odr od bk, L[k]? = some (.m j odr od bk) ∧ foot j a := fun k a ha => by
    by_cases h : ∃ j odr od bk, L[k]? = some (.m j odr od bk)
    · obtain ⟨j, odr, od, bk, hk⟩ := h
      obtain ⟨v, root, _, _, _, h6, _⟩ := (hD k).1 j odr od bk hk
      exact ⟨j, odr, od, bk, hk, h6 a ha⟩
    · have := (hD k).2 fun j odr od bk hk => h ⟨j, odr, od, bk, hk⟩
      rw [this] at ha
      cases ha
  -- a lent slot is lent once
  have honce : ∀ {L : List Ag}, (L.filterMap Ag.lx).Nodup → ∀ (k k' : Nat) j odr od bk odr' od' bk', L[k]? = some (.m j odr od bk) → L[k']? = some (.m j odr' od' bk') → k = k' := by
    intro L
    induction L with
    | nil => intro _ k k' j odr od bk odr' od' bk' h; simp at h
    | cons x L ih =>
      intro nd k k' j odr od bk odr' od' bk' h h'
      have nd2 : (L.filterMap Ag.lx).Nodup := by
        cases hx : Ag.lx x with
        | none => rw [List.filterMap_cons_none hx] at nd; exact nd
        | some y => rw [List.filterMap_cons_some hx] at nd; exact (List.nodup_cons.mp nd).2
      cases k with
      | zero =>
        cases k' with
        | zero => rfl
        | succ k' =>
          simp only [List.getElem?_cons_zero, Option.some.injEq] at h
          subst h
          rw [List.filterMap_cons_some (by rfl : Ag.lx (.m j odr od bk) = some j)] at nd
          exact absurd (mem_lx (k := k') (by simpa using h')) (List.nodup_cons.mp nd).1
      | succ k =>
        cases k' with
        | zero =>
          simp only [List.getElem?_cons_zero, Option.some.injEq] at h'
          subst h'
          rw [List.filterMap_cons_some (by rfl : Ag.lx (.m j odr' od' bk') = some j)] at nd
          exact absurd (mem_lx (k := k) (by simpa using h)) (List.nodup_cons.mp nd).1
        | succ k' => rw [ih nd2 k k' j odr od bk odr' od' bk' (by simpa using h) (by simpa using h')]
  let M1 : Addr → Prop := fun a => ∃ k, a ∈ (D k).1
  have hM1 : ∀ a, M1 a → M a := fun a ⟨k, ha⟩ => by
    obtain ⟨j, _, _, _, _, hf⟩ := hfoot k a ha
    exact f1 j a hf
  let B1 : Hp := fun a => if M1 a then none else H a
  have hB1 : ∀ a u, H a = some u → ¬ M1 a → B1 a = some u := fun a u z n => by show (if M1 a then none else H a) = _; rw [if_neg n]; exact z
  have hB1n : ∀ a, M1 a → B1 a = none := fun a z => if_pos z
  have sB1 : Same B1 H := fun a u z => by
    have z : (if M1 a then none else H a) = some u := z
    split at z
    · cases z
    · exact z
  have BB1 : Same B B1 := fun a u z => hB1 a u (E.sB a u z) fun w => by rw [E.mB a (hM1 a w)] at z; cases z
  have hlen := ok.len
  refine ⟨B1, M1, hM1, ⟨by rw [List.length_map, List.length_zipWith, List.length_map, hlen, Nat.min_self], sB1, E.sF, hB1n, fun a z => E.mF a (hM1 a z), fun a z => E.mH a (hM1 a z), fun a xs z => E.mT a xs (hM1 a z), fun k a => a ∈ (D k).1, fun k a z => ⟨k, z⟩, fun k k' a z z' => ?_, fun k => ?_⟩, ?_⟩
  · obtain ⟨j, odr, od, bk, h1, h2⟩ := hfoot k a z
    obtain ⟨j', odr', od', bk', h1', h2'⟩ := hfoot k' a z'
    have := f2 j j' a h2 h2'
    subst this
    exact honce nd k k' j _ _ _ _ _ _ h1 h1'
  · rw [List.getElem?_zipWith, List.getElem?_map]
    cases hk : L[k]? with
    | none => simp only [Option.map_none]; trivial
    | some x =>
      obtain ⟨v, hv, hx⟩ := ok.get hk
      rw [hv, List.getElem?_map, hv]
      cases x with
      | f d => exact ⟨v, rfl, hx⟩
      | tb od =>
        obtain ⟨ms, hO⟩ := hx
        exact ⟨v, rfl, ms, hO.mono (Same.refl _) fun a _ u z => BB1 a u z⟩
      | tm j od =>
        obtain ⟨root, odr, π, h1, h2, h3⟩ := hx
        have h5 := f3 j
        rw [h1] at h5
        obtain ⟨e, ms, hO, hms⟩ := h5
        obtain ⟨w, m, R, g1, g2, g3, g4, g5⟩ := hO.focus E.sF h3
        have hw : v = w := h2.uniq g1
        subst hw
        refine ⟨v, rfl, m, g2.mono (Same.refl _) fun a ha u z => hB1 a u z ?_⟩
        rintro ⟨k', hk'⟩
        obtain ⟨j', odr', od', bk', h1', h2'⟩ := hfoot k' a hk'
        have := f2 j j' a (hms a ((g3 a).mpr (.inl ha))) h2'
        subst this
        exact nt j (mem_tx hk) (mem_lx h1')
      | m j odr od bk =>
        obtain ⟨v', root, hv', _, hO, _⟩ := (hD k).1 j odr od bk hk
        rw [hv] at hv'
        cases hv'
        exact ⟨rfl, _, hO, fun a z => z⟩
      | s ns =>
        obtain ⟨a, rfl, q⟩ := hx
        exact ⟨a, rfl, BB1.seq q⟩
  · intro F' M1' H' u s os es st E' hs bk
    have hHn : ∀ a, M1' a → M1 a ∨ H a = none := st.mn
    have hMk : ∀ a, M a → ¬ M1 a → ∀ o, H a = some o → H' a = some o := fun a _ n o z => st.keep a o z n
    refine ⟨fun a => (M a ∧ ¬ M1 a) ∨ M1' a, ⟨st.sF, fun a z => (st.new a z).imp_right fun q => q.imp_right (hM1 a), fun b o z n => st.keep b o z fun w => n (hM1 b w), fun a z => ?_⟩, ?_⟩
    · rcases z with z | z
      · exact .inl z.1
      · exact (hHn a z).imp (hM1 a) id
    · obtain ⟨hl1, hl2⟩ := bk.len
      obtain ⟨ft, t1, t2, t3⟩ := id E'.ft
      refine ⟨by simp [E.len, hl1], fun a o z => ?_, E'.sF, fun a z => ?_, fun a z => ?_, fun a z => ?_, fun a xs z => ?_,
        fun i a => match i with | 0 => ft 0 a | i + 1 => (foot i a ∧ ¬ M1 a) ∨ ∃ k odr od bk, L[k]? = some (.m i odr od bk) ∧ ft (k + 1) a, fun i a z => ?_, fun i j a z1 z2 => ?_, fun i => ?_⟩
      · exact st.keep a o (E.sB a o z) fun w => by rw [E.mB a (hM1 a w)] at z; cases z
      · rcases z with z | z
        · exact E.mB a z.1
        · exact none_of_same BB1 (E'.mB a z)
      · rcases z with ⟨z, n⟩ | z
        · cases y : F' a with
          | none => rfl
          | some o =>
            rcases st.new a (by rw [y]; exact fun z => nomatch z) with h | (h | ⟨ts, h⟩) | h
            · exact absurd (E.mF a z) h
            · exact absurd h (E.mH a z)
            · exact absurd h (E.mT a ts z)
            · exact absurd h n
        · exact E'.mF a z
      · rcases z with ⟨z, n⟩ | z
        · cases y : H a with
          | none => exact absurd y (E.mH a z)
          | some o => rw [hMk a z n o y]; exact fun z => nomatch z
        · exact E'.mH a z
      · rcases z with ⟨z, n⟩ | z
        · cases y : H a with
          | none => exact absurd y (E.mH a z)
          | some o => rw [hMk a z n o y]; exact fun q => E.mT a xs z (by rw [y, q])
        · exact E'.mT a xs z
      · cases i with
        | zero => exact .inr (t1 0 a z)
        | succ i =>
          rcases z with ⟨z, n⟩ | ⟨k, _, _, _, _, z⟩
          · exact .inl ⟨f1 i a z, n⟩
          · exact .inr (t1 _ a z)
      · have hno : ∀ i a k, foot i a → ¬ M1 a → ft k a → False := fun i a k h1 h2 h3 => by
          rcases hHn a (t1 k a h3) with q | q
          · exact h2 q
          · exact E.mH a (f1 i a h1) q
        cases i with
        | zero =>
          cases j with
          | zero => rfl
          | succ j =>
            rcases z2 with ⟨z, n⟩ | ⟨k, _, _, _, _, z⟩
            · exact (hno j a 0 z n z1).elim
            · have := t2 _ _ a z1 z; omega
        | succ i =>
          cases j with
          | zero =>
            rcases z1 with ⟨z, n⟩ | ⟨k, _, _, _, _, z⟩
            · exact (hno i a 0 z n z2).elim
            · have := t2 _ _ a z z2; omega
          | succ j =>
            rcases z1 with ⟨z, n⟩ | ⟨k, odr, od, bk1, hk, z⟩
            · rcases z2 with ⟨z', n'⟩ | ⟨k', _, _, _, _, z'⟩
              · rw [f2 i j a z z']
              · exact (hno i a _ z n z').elim
            · rcases z2 with ⟨z', n'⟩ | ⟨k', odr', od', bk2, hk', z'⟩
              · exact (hno j a _ z' n' z).elim
              · have := t2 _ _ a z z'
                have hkk : k = k' := by omega
                subst hkk
                rw [hk] at hk'
                simp only [Option.some.injEq, Ag.m.injEq] at hk'
                rw [hk'.1]
      · cases i with
        | zero => exact hold.anyB hs (t3 0)
        | succ i =>
          show hold K B F' H' (es[i]?.getD .no) (σ[i]?) _
          by_cases hi : i ∈ L.filterMap Ag.lx
          · obtain ⟨x, hx, hxl⟩ := List.mem_filterMap.mp hi
            obtain ⟨k, hk⟩ := List.mem_iff_getElem?.mp hx
            cases x with
            | m j odr od bk1 =>
              cases hxl
              obtain ⟨v0, o', o'', e1, e2, e3, e4⟩ := bk.in_ nd k i odr od bk1 hk
              obtain ⟨v, root, hv, hroot, hO, q1, q2, q3, q4⟩ := (hD k).1 i odr od bk1 hk
              rw [e1] at hroot
              cases hroot
              rw [e4]
              have h5 := f3 i
              rw [e1] at h5
              obtain ⟨hσ, _⟩ := h5
              have h6 := t3 (k + 1)
              have e5 : (List.zipWith Pq os vs)[k]? = some (.tr v o') := by rw [List.getElem?_zipWith, e2, hv]; rfl
              have e6 : (s :: List.zipWith Pq os vs)[k + 1]?.getD Sl.no = .tr v o' := by rw [List.getElem?_cons_succ, e5]; rfl
              rw [e6] at h6
              obtain ⟨_, m', hO', hm'⟩ := h6
              have nM1 : ∀ a ∈ (D k).2, ¬ M1 a := fun a ha ⟨k', hk'⟩ => by
                obtain ⟨j', odr', od', bk', h1', h2'⟩ := hfoot k' a hk'
                have := f2 i j' a (q2 a ha) h2'
                subst this
                have := honce nd k k' i _ _ _ _ _ _ hk h1'
                subst this
                exact q3 a hk' ha
              obtain ⟨ms', r1, r2⟩ := q4 F' H' o' o'' m' st.sF (fun a ha w z => st.keep a w z (nM1 a ha)) hO' (fun a ha z => by
                rcases hHn a (t1 _ a (hm' a ha)) with y | y
                · exact nM1 a z y
                · exact E.mH a (f1 i a (q2 a z)) y) e3
              refine ⟨hσ, ms', r1, fun a ha => ?_⟩
              rcases (r2 a).mp ha with y | y
              · exact .inr ⟨k, odr, od, bk1, hk, hm' a y⟩
              · exact .inl ⟨q2 a y, nM1 a y⟩
            | f _ => cases hxl
            | tb _ => cases hxl
            | tm _ _ => cases hxl
            | s _ => cases hxl
          · rw [bk.out i hi]
            have nM1 : ∀ a, foot i a → ¬ M1 a := fun a ha ⟨k', hk'⟩ => by
              obtain ⟨j', odr', od', bk', h1', h2'⟩ := hfoot k' a hk'
              have := f2 i j' a ha h2'
              subst this
              exact hi (mem_lx h1')
            have : (fun a => (foot i a ∧ ¬ M1 a) ∨ ∃ k odr od bk, L[k]? = some (.m i odr od bk) ∧ ft (k + 1) a) = foot i := by
              funext a
              refine propext ⟨fun z => ?_, fun z => .inl ⟨z, nM1 a z⟩⟩
              rcases z with z | ⟨k, odr, od, bk1, hk, _⟩
              · exact z.1
              · exact absurd (mem_lx hk) hi
            show hold K B F' H' _ _ (fun a => (foot i a ∧ ¬ M1 a) ∨ ∃ k odr od bk, L[k]? = some (.m i odr od bk) ∧ ft (k + 1) a)
            rw [this]
            exact (f3 i).mono st.sF (fun a o ha z => st.keep a o z (nM1 a ha)) E.sF E'.sF
end Tw
/-! Calls that are lent trees; defs; classes made. -/
namespace Tw
open PySem L2
def EvAX (K : PySem.W.Frag) (ds : List Sl) (ta : TA) {τ : Type} (o : Option τ) (L : τ → List Ag) : Prop := ∀ t, o = some t → ∀ B F M H σ Q, Env K B F M H σ ds → (∀ vs F' H', Ext F H F' H' → All2 (AgOk K B F' H' ds) vs (L t) → Q vs H') → ta σ H Q
theorem AgOk.mono {K : PySem.W.Frag} {B F H F' H' : Hp} {ds : List Sl} (x : Ext F H F' H') : ∀ (v : V) (a : Ag), AgOk K B F H ds v a → AgOk K B F' H' ds v a
  | v, .f d, h => Rp.mono x.sF h
  | v, .tb od, ⟨ms, h⟩ => ⟨ms, h.mono x.sF fun _ _ _ z => z⟩
  | v, .tm j od, ⟨r, o, π, h1, h2, h3⟩ => ⟨r, o, π, h1, h2.mono x.sH, h3⟩
  | v, .m j odr od bk, ⟨r, π, h1, h2, h3, h4⟩ => ⟨r, π, h1, h2.mono x.sH, h3, h4⟩
  | v, .s ns, h => h
/-- what a tree at a place becomes -/
def bkL {α β : Type} (e0 : α → OD) (e : β → OD) (l : Loc α β) : OD → OD → Prop := fun o' o'' => ∃ y', o' = e y' ∧ o'' = e0 (l.upd y')
section
variable {K : PySem.W.Frag} {ds es : List Sl} {ta tb tc te td : TE} {tr : TA} {t u w T : TS} {g : TG} {C : V → TS} {m m1 m2 m3 : Md} {α β γ δ κ τ τ' τc ρ χ : Type} {out : τ → Out}
theorem eax_nil : EvAX K ds tNil (some ()) fun _ => [] := fun t _ B F M H σ Q E q => q [] F H (Ext.refl E.sF) .nil
theorem eax_f [Em α] {o : Option α} {os : Option τ} {L : τ → List Ag} (h : EvO K ds .f te o) (hr : EvAX K ds tr os L) : EvAX K ds (tCons te tr) (oarg o os) fun t => .f (em t.1) :: L t.2 := fun t ht B F M H σ Q E q => by
  obtain ⟨x, y, e1, e2, e3⟩ := obin_some ht
  cases e3
  exact h x e1 B F M H σ _ E fun v F1 H1 x1 r1 => hr y e2 B F1 M H1 σ _ (E.ext x1) fun vs F2 H2 x2 r2 => q _ F2 H2 (x1.trans x2) (.cons (r1.mono x2.sF) r2)
theorem eax_tb {e : β → OD} {o : Option β} {os : Option τ} {L : τ → List Ag} (h : EvR K ds .b te e o) (hr : EvAX K ds tr os L) : EvAX K ds (tCons te tr) (oarg o os) fun t => .tb (e t.1) :: L t.2 := fun t ht B F M H σ Q E q => by
  obtain ⟨x, y, e1, e2, e3⟩ := obin_some ht
  cases e3
  exact h x e1 B F M H σ _ E fun v ms F1 H1 x1 r1 => hr y e2 B F1 M H1 σ _ (E.ext x1) fun vs F2 H2 x2 r2 => q _ F2 H2 (x1.trans x2) (.cons ⟨ms, r1.mono x2.sF fun _ _ _ z => z⟩ r2)
theorem eax_tm {i : Nat} {v : V} {e0 : α → OD} {x0 : α} {e : β → OD} {ol : Option (Loc α β)} {os : Option τ} {L : τ → List Ag} (lo : EvLoc K ds i v te e0 x0 e ol) (hr : EvAX K ds tr os L) : EvAX K ds (tCons te tr) (oarg ol os) fun t => .tm i (e t.1.y) :: L t.2 := fun t ht B F M H σ Q E q => by
  obtain ⟨l, y, e1, e2, e3⟩ := obin_some ht
  cases e3
  obtain ⟨π, h1, h2, h3⟩ := lo.2 l e1
  exact h3 B F M H σ _ E fun w F1 H1 x1 hat => hr y e2 B F1 M H1 σ _ (E.ext x1) fun vs F2 H2 x2 r2 => q _ F2 H2 (x1.trans x2) (.cons ⟨v, e0 x0, π, lo.1, hat.mono x2.sH, h1⟩ r2)
theorem eax_m {i : Nat} {v : V} {e0 : α → OD} {x0 : α} {e : β → OD} {ol : Option (Loc α β)} {os : Option τ} {L : τ → List Ag} (lo : EvLoc K ds i v te e0 x0 e ol) (hr : EvAX K ds tr os L) : EvAX K ds (tCons te tr) (oarg ol os) fun t => .m i (e0 x0) (e t.1.y) (bkL e0 e t.1) :: L t.2 := fun t ht B F M H σ Q E q => by
  obtain ⟨l, y, e1, e2, e3⟩ := obin_some ht
  cases e3
  obtain ⟨π, h1, h2, h3⟩ := lo.2 l e1
  exact h3 B F M H σ _ E fun w F1 H1 x1 hat => hr y e2 B F1 M H1 σ _ (E.ext x1) fun vs F2 H2 x2 r2 => q _ F2 H2 (x1.trans x2) (.cons ⟨v, π, lo.1, hat.mono x2.sH, h1, fun o' o'' hb => by
    obtain ⟨y', rfl, rfl⟩ := hb
    exact h2 y'⟩ r2)
theorem eax_s {i : Nat} {ns : List Int} {os : Option τ} {L : τ → List Ag} (h : ds[i]? = some (.scr ns)) (hr : EvAX K ds tr os L) : EvAX K ds (tCons (tVar i) tr) (oarg (some ns) os) fun t => .s t.1 :: L t.2 := fun t ht B F M H σ Q E q => by
  obtain ⟨x, y, e1, e2, e3⟩ := obin_some ht
  cases e3
  cases e1
  obtain ⟨_, _, a, e, r⟩ := E.at h
  exact ⟨.ref a, e, hr y e2 B F M H σ _ E fun vs F2 H2 x2 r2 => q _ F2 H2 x2 (.cons ⟨a, rfl, r⟩ r2)⟩
theorem Ext.stp {F H F1 H1 F' H' : Hp} {M M' : Addr → Prop} (x : Ext F H F1 H1) (st : Stp F1 M H1 F' M' H') : Stp F M H F' M' H' := (Stp.ofExt x).trans st
theorem pm_len {L : List Ag} {vs : List V} (h : All2 (AgOk K B F H ds) vs L) : vs.length = (L.map Ag.pm).length := by rw [List.length_map]; exact h.len
/-- the callee runs -/
theorem run_x {B F H : Hp} {M : Addr → Prop} {σ : L2.St} {Q : VK} {XE : XK} {L : List Ag} {P : τc → List Pm} {f : τc → Option ρ} {s : ρ → Sl} {os : ρ → List (Option OD)} {tc : τc} {r : ρ} {vs : List V} {d : List Sl} (E : Env K B F M H σ ds) (ok : All2 (AgOk K B F H ds) vs L) (hp : L.map Ag.pm = P tc) (nd : (L.filterMap Ag.lx).Nodup) (nt : ∀ j ∈ L.filterMap Ag.tx, j ∉ L.filterMap Ag.lx) (hf : f tc = some r) (hs : (s r).bf = true) (hb : Bk ds L (os r) d)
    (q : ∀ F' M' H' u, Stp F M H F' M' H' → Env K B F' M' H' (some u :: σ) (s r :: d) → Q u H') : spX K P f (fun r => .vl (s r) (os r)) vs H Q XE := by
  obtain ⟨B1, M1, hM, E1, back⟩ := E.lend ok nd nt
  rw [hp] at E1
  refine ⟨B1, F, M1, tc, r, E1, by rw [← hp, List.length_map]; exact ok.len, hf, fun F' M' H' u st E' => ?_⟩
  obtain ⟨M2, st2, E2⟩ := back F' M' H' u (s r) (os r) d st E' hs hb
  exact q F' M2 H' u st2 E2
theorem ex_call {XE : XK} {o : Option τ} {L : τ → List Ag} {P : τc → List Pm} {f : τc → Option ρ} {c : τ → τc} {s : ρ → Sl} {os : ρ → List (Option OD)} {d : τ → ρ → List Sl} (h : EvAX K ds tr o L) (hp : ∀ t, (L t).map Ag.pm = P (c t)) (nd : ∀ t, ((L t).filterMap Ag.lx).Nodup) (nt : ∀ t, ∀ j ∈ (L t).filterMap Ag.tx, j ∉ (L t).filterMap Ag.lx) (hs : ∀ r, (s r).bf = true) (hb : ∀ t r, Bk ds (L t) (os r) (d t r)) :
    EvX K ds (tCall (spX K P f fun r => .vl (s r) (os r)) [] XE tr) (o.bind fun t => (f (c t)).map fun r => (t, r)) fun z => .vl (s z.2) (d z.1 z.2) := fun z hz B F M H σ Q E q => by
  obtain ⟨t, e1, e2⟩ := bind_some' hz
  cases hf : f (c t) with
  | none => rw [hf] at e2; cases e2
  | some r =>
    rw [hf] at e2
    cases e2
    refine h t e1 B F M H σ _ E fun vs F1 H1 x1 ok => ?_
    show spX K P f _ (vs ++ []) H1 Q XE
    rw [List.append_nil]
    exact run_x (E.ext x1) ok (hp t) (nd t) (nt t) hf (hs r) (hb t r) fun F' M' H' u st E' => q F' M' H' u (x1.stp st) E'
/-- o.m(..), o changed -/
theorem ex_meth {XE : XK} {i : Nat} {v : V} {e0 : α → OD} {x0 : α} {eC : β → OD} {Cl : Addr} {fs : β → List (Str × OD)} {mth : Str} {ol : Option (Loc α β)} {o : Option τ} {L : τ → List Ag} {P : τc → List Pm} {f : τc → Option ρ} {c : Loc α β → τ → τc} {s : ρ → Sl} {os : ρ → List (Option OD)} {d : Loc α β → τ → ρ → List Sl}
    (lo : EvLoc K ds i v ta e0 x0 eC ol) (hC : ∀ y, eC y = .ins Cl (fs y)) (hm : ∀ y, (fs y).lookup mth = none) (h : EvAX K ds tr o L) (hp : ∀ l t, Pm.m (eC l.y) :: (L t).map Ag.pm = P (c l t)) (nd : ∀ t, (i :: (L t).filterMap Ag.lx).Nodup) (nt : ∀ t, ∀ j ∈ (L t).filterMap Ag.tx, j ∉ i :: (L t).filterMap Ag.lx) (hs : ∀ r, (s r).bf = true)
    (hb : ∀ l t r, Bk ds (.m i (e0 x0) (eC l.y) (bkL e0 eC l) :: L t) (os r) (d l t r)) :
    EvX K ds (tMeth Cl mth (spX K P f fun r => .vl (s r) (os r)) [] XE ta tr) (ol.bind fun l => o.bind fun t => (f (c l t)).map fun r => (l, t, r)) fun z => .vl (s z.2.2) (d z.1 z.2.1 z.2.2) := fun z hz B F M H σ Q E q => by
  obtain ⟨l, e1, hz⟩ := bind_some' hz
  obtain ⟨t, e2, e3⟩ := bind_some' hz
  cases hf : f (c l t) with
  | none => rw [hf] at e3; cases e3
  | some r =>
    rw [hf] at e3
    cases e3
    obtain ⟨π, h1, h2, h3⟩ := lo.2 l e1
    refine h3 B F M H σ _ E fun w F1 H1 x1 hat => ?_
    have E1 := E.ext x1
    obtain ⟨w', m', g1, g2, _, _⟩ := E1.mut0 lo.1 h1
    have hww : w = w' := hat.uniq g1
    subst hww
    rw [hC] at g2
    cases g2 with
    | @ins p dx _ fv xs ms' hp' hdx r' hk hn hn2 hn3 =>
      refine ⟨p, dx, fv, rfl, hp', ?_, h t e2 B F1 M H1 σ _ E1 fun vs F2 H2 x2 ok => ?_⟩
      · cases hq : fv.lookup mth with
        | none => rfl
        | some u =>
          obtain ⟨i', j1, j2⟩ := lookup_ix hq
          obtain ⟨y', _, j5⟩ := ix_lookup (fs := fs l.y) (f := mth) (i := i') (by rw [← kIx_keys hk]; exact j1)
          rw [hm] at j5
          cases j5
      · rw [List.append_nil]
        refine run_x (L := .m i (e0 x0) (eC l.y) (bkL e0 eC l) :: L t) (E1.ext x2) (.cons ⟨v, π, lo.1, hat.mono x2.sH, h1, fun o' o'' hb => by
          obtain ⟨y', rfl, rfl⟩ := hb
          exact h2 y'⟩ ok) (hp l t) (show (i :: (L t).filterMap Ag.lx).Nodup from nd t) (show ∀ j ∈ (L t).filterMap Ag.tx, j ∉ i :: (L t).filterMap Ag.lx from nt t) hf (hs r) (hb l t r) fun F' M' H' u st E' => q F' M' H' u ((x1.trans x2).stp st) E'
/-- o.m(..), nothing changed: o handed on as a tree to be read -/
theorem ev_methR [Em ρ] {XE : XK} {eC : β → OD} {Cl : Addr} {fs : β → List (Str × OD)} {mth : Str} {oy : Option β} {o : Option τ} {A : τ → List Ar} {f : β × τ → Option ρ} (h : EvR K ds m ta eC oy) (hC : ∀ y, eC y = .ins Cl (fs y)) (hm : ∀ y, (fs y).lookup mth = none) (hr : EvA K ds tr o A) :
    EvO K ds .f (tMeth Cl mth (spP K (fun t => .t (eC t.1) :: A t.2) f) [] XE ta tr) ((oarg oy o).bind f) := fun z hz B F M H σ Q E q => by
  obtain ⟨yt, e1, e2⟩ := bind_some' hz
  obtain ⟨y, t, e3, e4, e5⟩ := obin_some e1
  cases e5
  refine h y e3 B F M H σ _ E fun w ms F1 H1 x1 hw => ?_
  have hw2 := hw.mono (H' := H1) (Same.refl _) fun a _ u z => hp_H (E.ext x1) a u z
  have hw3 := hw2
  rw [hC] at hw3
  cases hw3 with
  | @ins p dx _ fv xs ms' hp' hdx r' hk hn hn2 hn3 =>
    refine ⟨p, dx, fv, rfl, hp', ?_, hr t e4 B F1 M H1 σ _ (E.ext x1) fun vs F2 H2 x2 ok => ?_⟩
    · cases hq : fv.lookup mth with
      | none => rfl
      | some u =>
        obtain ⟨i', j1, j2⟩ := lookup_ix hq
        obtain ⟨y', _, j5⟩ := ix_lookup (fs := fs y) (f := mth) (i := i') (by rw [← kIx_keys hk]; exact j1)
        rw [hm] at j5
        cases j5
    · rw [List.append_nil]
      exact ⟨F2, (y, t), z, x2.sub, ⟨⟨_, hw2.same x2.sF x2.sH⟩, ok⟩, e2, fun v F' H' x r => q v F' H' ((x1.trans x2).trans x) r⟩
/-- a def that hands back a new own tree -/
def spO (K : PySem.W.Frag) {τ β : Type} (e : β → OD) (A : τ → List Ar) (f : τ → Option β) : Sp := fun vs H Q _ => ∃ F t b, Same F H ∧ AOk K F H vs (A t) ∧ f t = some b ∧
  ∀ v ms F' H', Ext F H F' H' → Ow F' H' v (e b) ms → (∀ a ∈ ms, F' a = none ∧ H a = none) → Q v H'
theorem eo_call {XE : XK} {e : β → OD} {o : Option τ} {A : τ → List Ar} {f : τ → Option β} (h : EvA K ds tr o A) : EvOw K ds (tCall (spO K e A f) [] XE tr) e (o.bind f) := fun b hb B F M H σ Q E q => by
  obtain ⟨t, e1, e2⟩ := bind_some' hb
  refine h t e1 B F M H σ _ E fun vs F1 H1 x1 a1 => ?_
  show spO K e A f (vs ++ []) H1 Q XE
  rw [List.append_nil]
  exact ⟨F1, t, b, x1.sub, a1, e2, fun v ms F' H' x hO hf => q v ms F' H' (x1.trans x) hO fun a ha => ⟨(hf a ha).1, none_of_same x1.sH (hf a ha).2⟩⟩
theorem eo_methR {XE : XK} {e : γ → OD} {eC : β → OD} {Cl : Addr} {fs : β → List (Str × OD)} {mth : Str} {oy : Option β} {o : Option τ} {A : τ → List Ar} {f : β × τ → Option γ} (h : EvR K ds m ta eC oy) (hC : ∀ y, eC y = .ins Cl (fs y)) (hm : ∀ y, (fs y).lookup mth = none) (hr : EvA K ds tr o A) :
    EvOw K ds (tMeth Cl mth (spO K e (fun t => .t (eC t.1) :: A t.2) f) [] XE ta tr) e ((oarg oy o).bind f) := fun z hz B F M H σ Q E q => by
  obtain ⟨yt, e1, e2⟩ := bind_some' hz
  obtain ⟨y, t, e3, e4, e5⟩ := obin_some e1
  cases e5
  refine h y e3 B F M H σ _ E fun w ms F1 H1 x1 hw => ?_
  have hw2 := hw.mono (H' := H1) (Same.refl _) fun a _ u z => hp_H (E.ext x1) a u z
  have hw3 := hw2
  rw [hC] at hw3
  cases hw3 with
  | @ins p dx _ fv xs ms' hp' hdx r' hk hn hn2 hn3 =>
    refine ⟨p, dx, fv, rfl, hp', ?_, hr t e4 B F1 M H1 σ _ (E.ext x1) fun vs F2 H2 x2 ok => ?_⟩
    · cases hq : fv.lookup mth with
      | none => rfl
      | some u =>
        obtain ⟨i', j1, j2⟩ := lookup_ix hq
        obtain ⟨y', _, j5⟩ := ix_lookup (fs := fs y) (f := mth) (i := i') (by rw [← kIx_keys hk]; exact j1)
        rw [hm] at j5
        cases j5
    · rw [List.append_nil]
      exact ⟨F2, (y, t), z, x2.sub, ⟨⟨_, hw2.same x2.sF x2.sH⟩, ok⟩, e2, fun v ms F' H' x hO hf => q v ms F' H' ((x1.trans x2).trans x) hO fun a ha => ⟨(hf a ha).1, none_of_same (x1.trans x2).sH (hf a ha).2⟩⟩
/-- an argument for one that only reads -/
theorem AgOk.toB {B F H : Hp} {M : Addr → Prop} {σ : L2.St} (E : Env K B F M H σ ds) {v : V} {a : Ag} (h : AgOk K B F H ds v a) (hm : a.lx = none) {F' H' B' : Hp} (sF : Same F F') (sB : Same H B') : hold K B' F' H' (a.pm.sl v) (some (some v)) (fun _ => False) := by
  cases a with
  | f d => exact ⟨v, rfl, Rp.mono sF h⟩
  | tb od =>
    obtain ⟨ms, hO⟩ := h
    exact ⟨v, rfl, ms, hO.mono sF fun a _ u z => sB a u (E.sB a u z)⟩
  | tm j od =>
    obtain ⟨root, odr, π, h1, h2, h3⟩ := h
    obtain ⟨_, _, e, ms, hO, _⟩ := E.at h1
    obtain ⟨w, m, R, g1, g2, _⟩ := hO.focus E.sF h3
    have hw : v = w := h2.uniq g1
    subst hw
    exact ⟨v, rfl, m, g2.mono sF fun a _ u z => sB a u z⟩
  | m j odr od bk => cases hm
  | s ns =>
    obtain ⟨a, e, q⟩ := h
    exact ⟨a, by rw [e], (E.sB.trans sB).seq q⟩
/-- C(..) -/
theorem eo_make {XE : XK} {Cl : Addr} {o : Option τ} {L : τ → List Ag} {P : τc → List Pm} {f : τc → Option ρ} {g : ρ → β} {c : τ → τc} {eC : β → OD} {os : ρ → List (Option OD)} (h : EvAX K ds tr o L) (hp : ∀ t, Pm.m (.ins Cl []) :: (L t).map Ag.pm = P (c t)) (nl : ∀ t, ∀ a ∈ L t, a.lx = none) (hos : ∀ r, (os r)[0]? = some (some (eC (g r)))) :
    EvOw K ds (tMake Cl (spX K P f fun r => .vl (.val .none) (os r)) [] XE tr) eC (o.bind fun t => (f (c t)).map g) := fun b0 hb B F M H σ Q E q => by
  obtain ⟨t, e1, e20⟩ := bind_some' hb
  obtain ⟨b, e2, rfl⟩ : ∃ b, f (c t) = some b ∧ g b = b0 := by
    cases hf : f (c t) with
    | none => rw [hf] at e20; cases e20
    | some b => rw [hf] at e20; cases e20; exact ⟨b, rfl, rfl⟩
  refine h t e1 B F M H σ _ E fun vs F1 H1 x1 ok x dx hx hdx hne => ?_
  have E1 := E.ext x1
  rw [List.append_nil]
  have hH' : ∀ a u, H1 a = some u → upd (upd H1 dx (.own x)) x (.ins Cl dx []) a = some u := fun a u z => by
    rw [upd_ne (ne_of_none z hx), upd_ne (ne_of_none z hdx)]; exact z
  have sH' : Same H1 (upd (upd H1 dx (.own x)) x (.ins Cl dx [])) := hH'
  refine ⟨H1, F1, fun a => a = x ∨ a = dx, c t, b, ⟨?_, sH', x1.sub.trans sH', fun a z => ?_, fun a z => ?_, fun a z => ?_, fun a xs z => ?_, fun k a => k = 0 ∧ (a = x ∨ a = dx), fun k a z => z.2, fun k k' a z z' => z.1.trans z'.1.symm, fun k => ?_⟩, ?_, e2, fun F' M' H' u st E' => ?_⟩
  · rw [← hp, List.length_map, List.zipWith_cons_cons, List.length_cons, List.length_cons, List.length_zipWith, List.length_map, ok.len, Nat.min_self]
  · rcases z with rfl | rfl
    · exact hx
    · exact hdx
  · rcases z with rfl | rfl
    · exact none_of_same x1.sub hx
    · exact none_of_same x1.sub hdx
  · rcases z with rfl | rfl
    · rw [upd_same]; exact fun z => nomatch z
    · rw [upd_ne hne, upd_same]; exact fun z => nomatch z
  · rcases z with rfl | rfl
    · rw [upd_same]; exact fun z => nomatch z
    · rw [upd_ne hne, upd_same]; exact fun z => nomatch z
  · rw [← hp]
    cases k with
    | zero => exact ⟨rfl, [x, dx], .ins upd_same (by rw [upd_ne hne, upd_same]) .nil rfl List.not_mem_nil List.not_mem_nil (fun e => hne e.symm), fun a ha => ⟨rfl, by
        rcases List.mem_cons.mp ha with rfl | ha
        · exact .inl rfl
        · rw [List.mem_singleton] at ha; exact .inr ha⟩⟩
    | succ k =>
      show hold K H1 F1 _ ((List.zipWith Pm.sl ((L t).map Ag.pm) vs)[k]?.getD .no) ((vs.map some)[k]?) _
      rw [List.getElem?_zipWith, List.getElem?_map]
      cases hk : (L t)[k]? with
      | none => simp only [Option.map_none]; trivial
      | some a =>
        obtain ⟨v, hv, hx⟩ := ok.get hk
        rw [hv, List.getElem?_map, hv]
        have q0 := hx.toB E1 (nl t a (List.mem_of_getElem? hk)) (F' := F1) (B' := H1) (H' := upd (upd H1 dx (.own x)) x (.ins Cl dx [])) (Same.refl _) (Same.refl _)
        have : (fun a => k + 1 = 0 ∧ (a = x ∨ a = dx)) = fun _ => False := by funext a; simp
        show hold K H1 F1 _ (a.pm.sl v) (some (some v)) (fun c => k + 1 = 0 ∧ (c = x ∨ c = dx))
        rw [this]
        exact q0
  · rw [← hp, List.length_cons, List.length_cons, List.length_map, ok.len]
  · refine ⟨?_, ?_⟩
    · obtain ⟨_, _, v, e, r⟩ := E'.at (i := 0) rfl
      cases e
      have r : Rp F' u .none := r
      cases r
      rfl
    · have hsl : ((Sl.val PyData.none) :: List.zipWith Pq (os b) (V.ref x :: vs))[1]? = some (.tr (.ref x) (eC (g b))) := by
        rw [List.getElem?_cons_succ, List.getElem?_zipWith, hos]
        rfl
      obtain ⟨mf, hmf, e, ms, hO, hms⟩ := E'.at hsl
      have fresh : ∀ a, M' a → H1 a = none := fun a z => by
        rcases st.mn a z with (rfl | rfl) | z
        · exact hx
        · exact hdx
        · exact none_of_same sH' z
      refine q (.ref x) ms F' H' ⟨x1.sF.trans st.sF, fun a u z => ?_, E'.sF, fun a z => ?_⟩ hO fun a ha => ⟨E'.mF a (hmf a (hms a ha)), none_of_same x1.sH (fresh a (hmf a (hms a ha)))⟩
      · have z1 := x1.sH a u z
        exact st.keep a u (hH' a u z1) fun w => by
          rcases w with rfl | rfl
          · rw [hx] at z1; cases z1
          · rw [hdx] at z1; cases z1
      · rcases st.new a z with h | (h | ⟨ts, h⟩) | h
        · exact x1.new a h
        · exact .inr (.inl (none_of_same (x1.sH.trans sH') h))
        · cases y : H a with
          | none => exact .inr (.inl rfl)
          | some o =>
            have := sH' a o (x1.sH a o y)
            rw [h] at this
            cases this
            exact .inr (.inr ⟨ts, y⟩)
        · rcases h with rfl | rfl
          · exact .inr (.inl (none_of_same x1.sH hx))
          · exact .inr (.inl (none_of_same x1.sH hdx))
/-! ### defs -/
theorem Env.pad {B F M H σ} (E : Env K B F M H σ ds) (n : Nat) : Env K B F M H (σ ++ List.replicate n none) (ds ++ List.replicate n Sl.no) := by
  obtain ⟨len, sB, sF, mB, mF, mH, mT, foot, f1, f2, f3⟩ := E
  refine ⟨by simp [len], sB, sF, mB, mF, mH, mT, foot, f1, f2, fun i => ?_⟩
  by_cases hi : i < ds.length
  · rw [List.getElem?_append_left hi, List.getElem?_append_left (by rw [len]; exact hi)]
    exact f3 i
  · have : (ds ++ List.replicate n Sl.no)[i]?.getD Sl.no = Sl.no := by
      rw [List.getElem?_append_right (by omega)]
      cases h : (List.replicate n Sl.no)[i - ds.length]? with
      | none => rfl
      | some z => exact (List.mem_replicate.mp (List.mem_of_getElem? h)).2
    rw [this]
    trivial
theorem Env.exit {B F M H} {v : V} {s : Sl} {σ' : L2.St} {os : List (Option OD)} {vs : List V} {n : Nat} (hl : os.length = vs.length) (E : Env K B F M H (some v :: σ') (s :: (List.zipWith Pq os vs ++ List.replicate n Sl.no))) : Env K B F M H (some v :: vs.map some) (s :: List.zipWith Pq os vs) := by
  obtain ⟨len, sB, sF, mB, mF, mH, mT, foot, f1, f2, f3⟩ := E
  have hz : (List.zipWith Pq os vs).length = vs.length := by rw [List.length_zipWith, hl, Nat.min_self]
  refine ⟨by simp [hz], sB, sF, mB, mF, mH, mT, foot, f1, f2, fun i => ?_⟩
  cases i with
  | zero => exact f3 0
  | succ i =>
    have h3 := f3 (i + 1)
    simp only [List.getElem?_cons_succ] at h3 ⊢
    by_cases hi : i < vs.length
    · rw [List.getElem?_append_left (by rw [hz]; exact hi)] at h3
      rw [List.getElem?_zipWith] at h3 ⊢
      rw [List.getElem?_map]
      rw [List.getElem?_eq_getElem hi] at h3 ⊢
      cases ho : os[i]? with
      | none => rw [List.getElem?_eq_getElem (by omega)] at ho; cases ho
      | some o =>
        rw [ho] at h3
        cases o with
        | none => trivial
        | some od =>
          obtain ⟨_, h4⟩ := h3
          exact ⟨rfl, h4⟩
    · have : (List.zipWith Pq os vs)[i]? = none := List.getElem?_eq_none (by rw [hz]; omega)
      rw [this]
      trivial
end
section
variable {P' : Program} {w : World} {K : PySem.W.Frag} {mg : Str → Option Value} {base : Heap} {τ ρ β : Type}
/-- a def that is lent trees, by its statements' judgement; it hands something back | falls off its end -/
theorem fn_x {x qual : Str} {st : Stmt} {f : Addr} {fd : FuncData} {N ps : List Str} {k : Nat} {P : τ → List Pm} {g : τ → Option ρ} {s : ρ → Sl} {os : ρ → List (Option OD)} (F : Fun K x qual st f fd) (S : FnScope N ps (defScope st)) (hP : ∀ t, (P t).length = ps.length) (hR : ∀ r, (os r).length = ps.length)
    (body : ∀ (cdv : Value) (A' : Around) (outer : List PySem.Env) (s' : Shared) (H : Hp) (E : XK), Room k (A'.deeper (PyProof.Rows.envOfC qual (defScope st) s'.heap.objs.size f cdv)) →
      ∃ t, PSs (cxOf CX0 P' w K mg base N qual (defScope st) f cdv A' outer s' H E).nox (defBody st) t ∧ ∀ z vs, vs.length = ps.length → SvO K (List.zipWith Pm.sl (P z) vs ++ List.replicate (N.length - ps.length) Sl.no) t (g z) fun r => .rd (s r) (List.zipWith Pq (os r) vs ++ List.replicate (N.length - ps.length) Sl.no)) : FnOk P' w K mg base CX0 (k + 1) f fd ps (spX K P g fun r => .vl (s r) (os r)) := by
  refine F.ok S (fun vs H Q E h => ?_) (fun cdv A' outer s' H vs Q E hr h => ?_)
  · obtain ⟨_, _, _, t, _, _, h, _⟩ := h
    rw [h, hP]
  · obtain ⟨B, F0, M, z, r, E0, hl, hg, fin⟩ := h
    obtain ⟨t, hp, hb⟩ := body cdv A' outer s' H E hr
    have hvl : vs.length = ps.length := by rw [hl, hP]
    refine ⟨t, hp, hb z vs hvl r hg B F0 M H _ _ (by
      have := E0.pad (N.length - ps.length)
      unfold L2.start
      rw [hvl]
      exact this) fun F' M' H' v σ' st' E' => ?_⟩
    exact fin F' M' H' v st' (E'.exit (by rw [hR, hvl]))
theorem fn_xn {x qual : Str} {st : Stmt} {f : Addr} {fd : FuncData} {N ps : List Str} {k : Nat} {P : τ → List Pm} {g : τ → Option ρ} {os : ρ → List (Option OD)} (F : Fun K x qual st f fd) (S : FnScope N ps (defScope st)) (hP : ∀ t, (P t).length = ps.length) (hR : ∀ r, (os r).length = ps.length)
    (body : ∀ (cdv : Value) (A' : Around) (outer : List PySem.Env) (s' : Shared) (H : Hp) (E : XK), Room k (A'.deeper (PyProof.Rows.envOfC qual (defScope st) s'.heap.objs.size f cdv)) →
      ∃ t, PSs (cxOf CX0 P' w K mg base N qual (defScope st) f cdv A' outer s' H E).nox (defBody st) t ∧ ∀ z vs, vs.length = ps.length → SvO K (List.zipWith Pm.sl (P z) vs ++ List.replicate (N.length - ps.length) Sl.no) t (g z) fun r => .nx (List.zipWith Pq (os r) vs ++ List.replicate (N.length - ps.length) Sl.no)) : FnOk P' w K mg base CX0 (k + 1) f fd ps (spX K P g fun r => .vl (.val .none) (os r)) := by
  refine F.ok S (fun vs H Q E h => ?_) (fun cdv A' outer s' H vs Q E hr h => ?_)
  · obtain ⟨_, _, _, t, _, _, h, _⟩ := h
    rw [h, hP]
  · obtain ⟨B, F0, M, z, r, E0, hl, hg, fin⟩ := h
    obtain ⟨t, hp, hb⟩ := body cdv A' outer s' H E hr
    have hvl : vs.length = ps.length := by rw [hl, hP]
    refine ⟨t, hp, hb z vs hvl r hg B F0 M H _ _ (by
      have := E0.pad (N.length - ps.length)
      unfold L2.start
      rw [hvl]
      exact this) fun F' M' H' σ' st' E' => ?_⟩
    exact fin F' M' H' .non st' ((E'.head0 (v := .non) (d := .none) .non).exit (by rw [hR, hvl]))
/-- a def that hands back a new own tree -/
theorem fn_tree {x qual : Str} {st : Stmt} {f : Addr} {fd : FuncData} {N ps : List Str} {k : Nat} {e : β → OD} {A : τ → List Ar} {g : τ → Option β} (F : Fun K x qual st f fd) (S : FnScope N ps (defScope st)) (hA : ∀ t, (A t).length = ps.length)
    (body : ∀ (cdv : Value) (A' : Around) (outer : List PySem.Env) (s : Shared) (H : Hp) (E : XK), Room k (A'.deeper (PyProof.Rows.envOfC qual (defScope st) s.heap.objs.size f cdv)) →
      ∃ t, PSs (cxOf CX0 P' w K mg base N qual (defScope st) f cdv A' outer s H E).nox (defBody st) t ∧ ∀ z, SvO K ((A z).map Ar.sl ++ List.replicate (N.length - (A z).length) Sl.no) t (g z) fun b => .rd (.ow (e b)) (List.replicate N.length Sl.no)) : FnOk P' w K mg base CX0 (k + 1) f fd ps (spO K e A g) := by
  refine F.ok S (fun vs H Q E h => ?_) (fun cdv A' outer s H vs Q E hr h => ?_)
  · obtain ⟨_, t, _, _, a, _⟩ := h
    rw [a.len, hA]
  · obtain ⟨F0, z, b, sm, a, ee, q⟩ := h
    obtain ⟨t, hp, hb⟩ := body cdv A' outer s H E hr
    refine ⟨t, hp, hb z b ee H F0 _ H _ _ (env_start N sm a) fun F' M' H' v σ' st E' => ?_⟩
    obtain ⟨m, hm, v', e2, ms, hO, hms⟩ := E'.at (i := 0) rfl
    cases e2
    have e' : Ext F0 H F' H' := ⟨st.sF, fun c o z => st.keep c o z (fun h => h), E'.sF, fun c z => (st.new c z).imp_right fun h => h.resolve_right fun h => h⟩
    exact q v ms F' H' e' hO fun a ha => ⟨E'.mF a (hm a (hms a ha)), E'.mB a (hm a (hms a ha))⟩
/-- .. frozen things -/
theorem fn_val [Em β] {x qual : Str} {st : Stmt} {f : Addr} {fd : FuncData} {N ps : List Str} {k : Nat} {A : τ → List Ar} {g : τ → Option β} (F : Fun K x qual st f fd) (S : FnScope N ps (defScope st)) (hA : ∀ t, (A t).length = ps.length)
    (body : ∀ (cdv : Value) (A' : Around) (outer : List PySem.Env) (s : Shared) (H : Hp) (E : XK), Room k (A'.deeper (PyProof.Rows.envOfC qual (defScope st) s.heap.objs.size f cdv)) →
      ∃ t, PSs (cxOf CX0 P' w K mg base N qual (defScope st) f cdv A' outer s H E).nox (defBody st) t ∧ ∀ z, SvO K ((A z).map Ar.sl ++ List.replicate (N.length - (A z).length) Sl.no) t (g z) fun b => .rd (.val (em b)) (List.replicate N.length Sl.no)) : FnOk P' w K mg base CX0 (k + 1) f fd ps (spP K A g) := by
  refine F.ok S (fun vs H Q E h => ?_) (fun cdv A' outer s H vs Q E hr h => ?_)
  · obtain ⟨_, t, _, _, a, _⟩ := h
    rw [a.len, hA]
  · obtain ⟨F0, z, b, sm, a, ee, q⟩ := h
    obtain ⟨t, hp, hb⟩ := body cdv A' outer s H E hr
    refine ⟨t, hp, hb z b ee H F0 _ H _ _ (env_start N sm a) fun F' M' H' v σ' st E' => ?_⟩
    obtain ⟨m, hm, v', e2, r⟩ := E'.at (i := 0) rfl
    cases e2
    exact q v F' H' ⟨st.sF, fun c o z => st.keep c o z (fun h => h), E'.sF, fun c z => (st.new c z).imp_right fun h => h.resolve_right fun h => h⟩ r
end
end Tw
/-! Dicts walked: they are locked while that is so. -/
namespace Tw
open PySem L2
/-- lists and tuples stay -/
def LT (F G : Hp) : Prop := (∀ a vs, F a = some (.lst vs) → G a = some (.lst vs)) ∧ ∀ a vs, F a = some (.tup vs) → G a = some (.tup vs)
mutual
theorem Rp.conv {F G : Hp} (h : LT F G) : ∀ {v : V} {d : PyData}, Rp F v d → Rp G v d
  | _, _, .non => .non
  | _, _, .bl b => .bl b
  | _, _, .int i => .int i
  | _, _, .str x => .str x
  | _, _, .lst e r => .lst (h.1 _ _ e) (RpA.conv h r)
  | _, _, .tup e r => .tup (h.2 _ _ e) (RpA.conv h r)
theorem RpA.conv {F G : Hp} (h : LT F G) : ∀ {vs : List V} {ds : List PyData}, RpA F vs ds → RpA G vs ds
  | _, _, .nil => .nil
  | _, _, .cons e r => .cons (Rp.conv h e) (RpA.conv h r)
end
mutual
theorem Ow.conv {F H F' H' : Hp} (h : LT F F') : ∀ {x : V} {o : OD} {ms : List Addr}, Ow F H x o ms → NL o → (∀ a ∈ ms, ∀ u, H a = some u → H' a = some u) → Ow F' H' x o ms
  | _, _, _, .v r => fun _ _ => .v (r.conv h)
  | _, _, _, .lst e r n => fun nl k => by
    cases nl with
    | lst nl => exact .lst (k _ (by simp) _ e) (OwL.conv h r nl fun a ha => k a (by simp [ha])) n
  | _, _, _, .tup e r => fun nl k => by
    cases nl with
    | tup nl => exact .tup (h.2 _ _ e) (OwL.conv h r nl k)
  | _, _, _, .di e r q n => fun nl k => by
    cases nl with
    | di nl => exact .di (k _ (by simp) _ e) (OwL.conv h r nl fun a ha => k a (by simp [ha])) q n
  | _, _, _, .dp e r q n => fun nl k => by
    cases nl with
    | dp nl => exact .dp (k _ (by simp) _ e) (OwL.conv h r nl fun a ha => k a (by simp [ha])) q n
  | _, _, _, .dik e r q => fun nl k => nomatch nl
  | _, _, _, .dpk e r q => fun nl k => nomatch nl
  | _, _, _, .ins e h2 r q n n2 n3 => fun nl k => by
    cases nl with
    | ins nl => exact .ins (k _ (by simp) _ e) (k _ (by simp) _ h2) (OwL.conv h r nl fun a ha => k a (by simp [ha])) q n n2 n3
theorem OwL.conv {F H F' H' : Hp} (h : LT F F') : ∀ {vs : List V} {xs : List OD} {ms : List Addr}, OwL F H vs xs ms → NLs xs → (∀ a ∈ ms, ∀ u, H a = some u → H' a = some u) → OwL F' H' vs xs ms
  | _, _, _, .nil => fun _ _ => .nil
  | _, _, _, .cons e r d => fun nl k => by
    cases nl with
    | cons n1 n2 => exact .cons (Ow.conv h e n1 fun a ha => k a (by simp [ha])) (OwL.conv h r n2 fun a ha => k a (by simp [ha])) d
end
mutual
/-- a tree that is data owns but lists -/
theorem Ow.lists {F H : Hp} : ∀ {x : V} {o : OD} {ms : List Addr}, Ow F H x o ms → (toD o).isSome = true → NL o ∧ ∀ a ∈ ms, ∃ vs, H a = some (.lst vs)
  | _, _, _, .v _ => fun _ => ⟨.v, fun a ha => by simp at ha⟩
  | _, _, _, .lst h r n => fun e => by
    obtain ⟨q1, q2⟩ := OwL.lists r (by simpa [toD] using e)
    refine ⟨.lst q1, fun a ha => ?_⟩
    rcases List.mem_cons.mp ha with rfl | ha
    · exact ⟨_, h⟩
    · exact q2 a ha
  | _, _, _, .tup h r => fun e => by
    obtain ⟨q1, q2⟩ := OwL.lists r (by simpa [toD] using e)
    exact ⟨.tup q1, q2⟩
  | _, _, _, .di _ _ _ _ => fun e => by simp [toD] at e
  | _, _, _, .dp _ _ _ _ => fun e => by simp [toD] at e
  | _, _, _, .dik _ _ _ => fun e => by simp [toD] at e
  | _, _, _, .dpk _ _ _ => fun e => by simp [toD] at e
  | _, _, _, .ins _ _ _ _ _ _ _ => fun e => by simp [toD] at e
theorem OwL.lists {F H : Hp} : ∀ {vs : List V} {xs : List OD} {ms : List Addr}, OwL F H vs xs ms → (toDs xs).isSome = true → NLs xs ∧ ∀ a ∈ ms, ∃ vs, H a = some (.lst vs)
  | _, _, _, .nil => fun _ => ⟨.nil, fun a ha => by simp at ha⟩
  | _, _, _, .cons (o := o) (xs := xs) h r d => fun e => by
    have e' : (toD o).isSome = true ∧ (toDs xs).isSome = true := by
      simp only [toDs] at e
      cases h1 : toD o with
      | none => rw [h1] at e; cases e
      | some d =>
        cases h2 : toDs xs with
        | none => rw [h1, h2] at e; cases e
        | some ds => exact ⟨rfl, rfl⟩
    obtain ⟨q1, q2⟩ := Ow.lists h e'.1
    obtain ⟨q3, q4⟩ := OwL.lists r e'.2
    exact ⟨.cons q1 q3, fun a ha => (List.mem_append.mp ha).elim (q2 a) (q4 a)⟩
end
/-- slots that a lock leaves as they are (b: what stood at the entry stays) -/
def Sl.pl : Sl → Bool
  | .no => true
  | .val _ => true
  | .rd _ => true
  | .scr _ => true
  | .own _ => true
  | .di _ => true
  | .dp _ => true
  | .fx _ => true
  | _ => false
inductive LkS (b : Bool) : Sl → Sl → Prop
  | keep {s : Sl} (h : s.pl = true := by rfl) : LkS b s s
  | tree {α : Type} {e : α → OD} {v : V} {x : α} (h : NoLk e := by infer_instance) : LkS b (.tr v (e x)) (.tr v (e x))
  | ow {α : Type} {e : α → OD} {x : α} (h : NoLk e := by infer_instance) : LkS b (.ow (e x)) (.ow (e x))
  | data {od : OD} (h : (toD od).isSome = true) : LkS b (.rt od) (.rt od)
  | rt {α : Type} {e : α → OD} {x : α} (hb : b = true := by rfl) (h : NoLk e := by infer_instance) : LkS b (.rt (e x)) (.rt (e x))
  | rtp {α : Type} {e : α → OD} {v : V} {x : α} (hb : b = true := by rfl) (h : NoLk e := by infer_instance) : LkS b (.rtp v (e x)) (.rtp v (e x))
  | drop {s : Sl} : LkS b s .no
inductive Lks (b : Bool) : Nat → List Sl → List Sl → Prop
  | here {s s' : Sl} {xs ys : List Sl} : All2 (LkS b) xs ys → Lks b 0 (s :: xs) (s' :: ys)
  | next {i : Nat} {s s' : Sl} {xs ys : List Sl} : LkS b s s' → Lks b i xs ys → Lks b (i + 1) (s :: xs) (s' :: ys)
theorem Lks.len {b : Bool} : ∀ {i : Nat} {xs ys : List Sl}, Lks b i xs ys → xs.length = ys.length
  | _, _, _, .here h => by rw [List.length_cons, List.length_cons, h.len]
  | _, _, _, .next _ h => by rw [List.length_cons, List.length_cons, h.len]
theorem All2.gets {b : Bool} : ∀ {xs ys : List Sl}, All2 (LkS b) xs ys → ∀ j : Nat, LkS b (xs[j]?.getD .no) (ys[j]?.getD .no)
  | _, _, .nil, j => by simp only [List.getElem?_nil]; exact .drop
  | _, _, .cons h _, 0 => h
  | _, _, .cons _ t, j + 1 => by simpa using t.gets j
theorem Lks.gets {b : Bool} : ∀ {i : Nat} {xs ys : List Sl}, Lks b i xs ys → ∀ j : Nat, j ≠ i → LkS b (xs[j]?.getD .no) (ys[j]?.getD .no)
  | _, _, _, .here h, 0, n => absurd rfl n
  | _, _, _, .here h, j + 1, _ => by simpa using h.gets j
  | _, _, _, .next h _, 0, _ => h
  | _, _, _, .next _ t, j + 1, n => by simpa using t.gets j (fun e => n (by rw [e]))
theorem kvr_conv {κ : Type} {F F' : Hp} (lF : LT F F') : ∀ {xs : List (κ × V)} {ys : List (κ × PyData)}, KvR F xs ys → KvR F' xs ys
  | _, _, .nil => .nil
  | _, _, .cons h r => .cons (h.conv lF) (kvr_conv lF r)
def cutF (F : Hp) (p : Addr) : Hp := fun a => if a = p then none else F a
theorem cutF_ne {F : Hp} {p a : Addr} (h : a ≠ p) : cutF F p a = F a := if_neg h
theorem cutF_at {F : Hp} {p : Addr} : cutF F p p = none := if_pos rfl
/-- nothing but p changes, where no list or tuple stands -/
theorem lt_but {F G : Hp} {p : Addr} (h : ∀ a, a ≠ p → F a = G a) (n1 : ∀ vs, F p ≠ some (.lst vs)) (n2 : ∀ vs, F p ≠ some (.tup vs)) : LT F G := by
  refine ⟨fun a vs e => ?_, fun a vs e => ?_⟩
  · rw [← h a fun z => by subst z; exact n1 _ e]; exact e
  · rw [← h a fun z => by subst z; exact n2 _ e]; exact e
theorem sql_conv {K : PySem.W.Frag} {B B' : Hp} {a : Addr} {xs : List V} (h : ∀ u, B a = some u → (∃ vs, u = .lst vs) ∨ (∃ o vs, u = .frz o (.lst vs)) → B' a = some u) (q : SqL K B a xs) : SqL K B' a xs := by
  rcases q with (q | ⟨o, q⟩) | q
  · exact .inl (.inl (h _ q (.inl ⟨_, rfl⟩)))
  · exact .inl (.inr ⟨o, h _ q (.inr ⟨_, _, rfl⟩)⟩)
  · exact .inr q
section
variable {K : PySem.W.Frag} {ds es : List Sl} {b : Bool}
/-- a slot over two heaps that differ at a dict -/
theorem hold.lk {B F H B' F' H' : Hp} {p : Addr} {s s' : Sl} {v : Option (Option V)} {m : Addr → Prop} (l : LkS b s s') (hb : b = true → B' = B) (lF : LT F F') (lB : LT B B') (kB : ∀ a, a ≠ p → B' a = B a) (kH : ∀ a, a ≠ p → H' a = H a) (hp : ∀ u, B p = some u → (∀ vs, u ≠ .lst vs) ∧ ∀ o vs, u ≠ .frz o (.lst vs)) (hm : ¬ m p) (h : hold K B F H s v m) : hold K B' F' H' s' v m := by
  have ne : ∀ a, m a → a ≠ p := fun a ha e => hm (e ▸ ha)
  have kM : ∀ a, m a → ∀ u, H a = some u → H' a = some u := fun a ha u z => by rw [kH a (ne a ha)]; exact z
  cases l with
  | drop => trivial
  | tree hn =>
    obtain ⟨e, ms, r, k⟩ := h
    exact ⟨e, ms, r.conv lF (hn.h _) fun a ha u z => kM a (k a ha) u z, k⟩
  | ow hn =>
    obtain ⟨x, e, ms, r, k⟩ := h
    exact ⟨x, e, ms, r.conv lF (hn.h _) fun a ha u z => kM a (k a ha) u z, k⟩
  | rt hb2 hn =>
    obtain ⟨x, e, ms, r⟩ := h
    exact ⟨x, e, ms, by rw [hb hb2]; exact r.conv lF (hn.h _) fun a _ u z => z⟩
  | rtp hb2 hn =>
    obtain ⟨e, ms, r⟩ := h
    exact ⟨e, ms, by rw [hb hb2]; exact r.conv lF (hn.h _) fun a _ u z => z⟩
  | data hd =>
    obtain ⟨x, e, ms, r⟩ := h
    obtain ⟨q1, q2⟩ := r.lists hd
    refine ⟨x, e, ms, r.conv lF q1 fun a ha u z => ?_⟩
    obtain ⟨vs, z2⟩ := q2 a ha
    rw [kB a fun q => by subst q; exact (hp _ z2).1 vs rfl]
    exact z
  | keep hk =>
    cases s with
    | no => trivial
    | val d => obtain ⟨x, e, r⟩ := h; exact ⟨x, e, r.conv lF⟩
    | rd d => obtain ⟨x, e, r⟩ := h; exact ⟨x, e, r.conv lB⟩
    | scr ns =>
      obtain ⟨a, e, r⟩ := h
      refine ⟨a, e, sql_conv (fun u z q => ?_) r⟩
      rw [kB a fun w => by
        subst w
        rcases q with ⟨vs, rfl⟩ | ⟨o, vs, rfl⟩
        · exact (hp _ z).1 vs rfl
        · exact (hp _ z).2 o vs rfl]
      exact z
    | own ds => obtain ⟨q, vs, e, hq, r, hm'⟩ := h; exact ⟨q, vs, e, kM q hm' _ hq, r.conv lF, hm'⟩
    | di kvs => obtain ⟨q, vs, e, hq, r, hm'⟩ := h; exact ⟨q, vs, e, kM q hm' _ hq, kvr_conv lF r, hm'⟩
    | dp kvs => obtain ⟨q, vs, e, hq, r, hm'⟩ := h; exact ⟨q, vs, e, kM q hm' _ hq, kvr_conv lF r, hm'⟩
    | fx x => exact h
    | _ => cases hk
/-- an own dict is locked -/
theorem Env.lkO {κ : Type} [DecidableEq κ] [Em κ] [Ky κ] {B F M H σ} (E : Env K B F M H σ ds) {i : Nat} {v : V} {od : OD} {π : List Sp1} {xs : List (κ × OD)} (hx : ds[i]? = some (.tr v od)) (hs : subO od π = some (Ky.od xs)) :
    ∃ (p : Addr) (kv : List (κ × V)), AtP H v π (.ref p) ∧ H p = some (Ky.ho kv) ∧ M p ∧ F p = none ∧ B p = none ∧ kv.map (·.1) = xs.map (·.1) ∧ ∀ ob,
      Env K B (upd F p (.frz ob (Ky.ho kv))) (fun a => M a ∧ a ≠ p) (upd H p (.frz ob (Ky.ho kv))) σ (ds.set i (.tr v (setO π od (Ky.odk p ob kv xs)))) := by
  obtain ⟨len, sB, sF, mB, mF, mH, mT, foot, f1, f2, f3⟩ := E
  have hi : i < ds.length := (List.getElem?_eq_some_iff.mp hx).1
  have h3 := f3 i
  rw [hx] at h3
  obtain ⟨e, ms, hO, hms⟩ := h3
  obtain ⟨w, m, R, g1, g2, g3, g4, g5⟩ := hO.focus sF hs
  obtain ⟨p, kv, ms', rfl, hp, r, hk, hn, rfl⟩ := Ky.inv g2
  have hfp : foot i p := hms p ((g3 p).mpr (.inl (by simp)))
  have hM : M p := f1 i p hfp
  have hF := mF p hM
  refine ⟨p, kv, g1, hp, hM, hF, mB p hM, hk, fun ob => ⟨by rw [List.length_set, len], fun a u z => ?_, fun a u z => ?_, fun a z => mB a z.1, fun a z => ?_, fun a z => ?_, fun a ts z => ?_, fun j a => foot j a ∧ a ≠ p, fun j a z => ⟨f1 j a z.1, z.2⟩, fun j k a z z' => f2 j k a z.1 z'.1, fun j => ?_⟩⟩
  · rw [upd_ne fun q => by rw [q, mB p hM] at z; cases z]; exact sB a u z
  · by_cases q : a = p
    · subst q; rw [upd_same] at z ⊢; exact z
    · rw [upd_ne q] at z ⊢; exact sF a u z
  · rw [upd_ne z.2]; exact mF a z.1
  · rw [upd_ne z.2]; exact mH a z.1
  · rw [upd_ne z.2]; exact mT a ts z.1
  · have sF1 : Same F (upd F p (.frz ob (Ky.ho kv))) := same_upd hF
    have keep : ∀ a, a ≠ p → ∀ u, H a = some u → upd H p (.frz ob (Ky.ho kv)) a = some u := fun a q u z => by rw [upd_ne q]; exact z
    rw [getD_set ds i j _ hi]
    by_cases q : j = i
    · subst q
      rw [if_pos rfl]
      have pR : p ∉ R := g4 p (by simp)
      obtain ⟨ms2, q1, q2⟩ := g5 (upd F p (.frz ob (Ky.ho kv))) (upd H p (.frz ob (Ky.ho kv))) (Ky.odk p ob kv xs) ms' sF1 (fun a ha u z => keep a (fun q => pR (q ▸ ha)) u z) (Ky.mkk upd_same (r.mono sF1 fun a ha u z => keep a (fun q => hn (q ▸ ha)) u z) hk) (fun a ha => g4 a (by simp [ha]))
      refine ⟨e, ms2, q1, fun a ha => ?_⟩
      rcases (q2 a).mp ha with y | y
      · exact ⟨hms a ((g3 a).mpr (.inl (by simp [y]))), fun q => hn (q ▸ y)⟩
      · exact ⟨hms a ((g3 a).mpr (.inr y)), fun q => pR (q ▸ y)⟩
    · rw [if_neg q]
      have hn2 : ∀ a, foot j a → a ≠ p := fun a ha z => q (f2 j i p (z ▸ ha) hfp)
      have : (fun a => foot j a ∧ a ≠ p) = foot j := by
        funext a
        exact propext ⟨fun z => z.1, fun z => ⟨z, hn2 a z⟩⟩
      show hold K B _ _ _ _ (fun a => foot j a ∧ a ≠ p)
      rw [this]
      refine (f3 j).mono sF1 (fun a o ha z => keep a (hn2 a ha) o z) sF fun a u z => ?_
      by_cases q : a = p
      · subst q; rw [upd_same] at z ⊢; exact z
      · rw [upd_ne q] at z ⊢; exact sF a u z
/-- .. and set free -/
theorem Env.ulkO {κ : Type} [DecidableEq κ] [Em κ] [Ky κ] {B F M H σ} (E : Env K B F M H σ ds) {i : Nat} {v : V} {p : Addr} {ob : Obj} {kv : List (κ × V)} {od : OD} {π : List Sp1} {xs : List (κ × OD)} (hx : ds[i]? = some (.tr v od)) (hs : subO od π = some (Ky.odk p ob kv xs)) (hB : B p = none) (nl : NL (setO π od (Ky.od xs))) (lk : Lks true i ds es) (hes : es[i]? = some (.tr v (setO π od (Ky.od xs)))) :
    H p = some (.frz ob (Ky.ho kv)) ∧ Env K B (cutF F p) (fun a => M a ∨ a = p) (upd H p (Ky.ho kv)) σ es := by
  obtain ⟨len, sB, sF, mB, mF, mH, mT, foot, f1, f2, f3⟩ := E
  have h3 := f3 i
  rw [hx] at h3
  obtain ⟨e, ms, hO, hms⟩ := h3
  obtain ⟨w, m, R, g1, g2, g3, g4, g5⟩ := hO.focus sF hs
  obtain ⟨rfl, hp, r, hk⟩ := Ky.invk g2
  have nM : ¬ M p := fun z => by rw [mF p z] at hp; cases hp
  have neM : ∀ a, M a → a ≠ p := fun a z q => nM (by rw [← q]; exact z)
  have lF : LT F (cutF F p) := lt_but (fun a q => (cutF_ne q).symm) (fun vs z => by rw [hp] at z; cases z) fun vs z => by rw [hp] at z; cases z
  refine ⟨sF p _ hp, by rw [len, lk.len], fun a u z => ?_, fun a u z => ?_, fun a z => ?_, fun a z => ?_, fun a z => ?_, fun a ts z => ?_, fun j a => foot j a ∨ (j = i ∧ a = p), fun j a z => z.imp (f1 j a) (·.2), fun j k a z z' => ?_, fun j => ?_⟩
  · rw [upd_ne fun q => by rw [q, hB] at z; cases z]; exact sB a u z
  · by_cases q : a = p
    · rw [q, cutF_at] at z; cases z
    · rw [cutF_ne q] at z; rw [upd_ne q]; exact sF a u z
  · rcases z with z | rfl
    · exact mB a z
    · exact hB
  · rcases z with z | rfl
    · rw [cutF_ne (neM a z)]; exact mF a z
    · exact cutF_at
  · rcases z with z | rfl
    · rw [upd_ne (neM a z)]; exact mH a z
    · rw [upd_same]; exact fun z => nomatch z
  · rcases z with z | rfl
    · rw [upd_ne (neM a z)]; exact mT a ts z
    · rw [upd_same]; exact fun z => Ky.nt kv ts (Option.some.inj z)
  · rcases z with z | ⟨rfl, rfl⟩
    · rcases z' with z' | ⟨rfl, rfl⟩
      · exact f2 j k a z z'
      · exact absurd (f1 _ _ z) nM
    · rcases z' with z' | ⟨rfl, _⟩
      · exact absurd (f1 _ _ z') nM
      · rfl
  · by_cases q : j = i
    · subst q
      rw [hes]
      have kp : ∀ a, M a → ∀ u, H a = some u → upd H p (Ky.ho kv) a = some u := fun a ha u z => by rw [upd_ne (neM a ha)]; exact z
      have kM : ∀ a ∈ m, M a := fun a ha => f1 _ a (hms a ((g3 a).mpr (.inl ha)))
      have kR : ∀ a ∈ R, M a := fun a ha => f1 _ a (hms a ((g3 a).mpr (.inr ha)))
      obtain ⟨ms2, q1, q2⟩ := g5 F (upd H p (Ky.ho kv)) (Ky.od xs) (p :: m) (Same.refl _) (fun a ha u z => kp a (kR a ha) u z) (Ky.mkd upd_same (r.mono (Same.refl _) fun a ha u z => kp a (kM a ha) u z) hk fun z => nM (kM p z)) (fun a ha => by
        rcases List.mem_cons.mp ha with rfl | ha
        · exact fun z => nM (kR _ z)
        · exact g4 a ha)
      refine ⟨e, ms2, q1.conv lF nl fun a _ u z => z, fun a ha => ?_⟩
      rcases (q2 a).mp ha with y | y
      · rcases List.mem_cons.mp y with rfl | y
        · exact .inr ⟨rfl, rfl⟩
        · exact .inl (hms a ((g3 a).mpr (.inl y)))
      · exact .inl (hms a ((g3 a).mpr (.inr y)))
    · have : (fun a => foot j a ∨ (j = i ∧ a = p)) = foot j := by
        funext a
        exact propext ⟨fun z => z.resolve_right fun y => q y.1, .inl⟩
      show hold K B _ _ _ _ (fun a => foot j a ∨ (j = i ∧ a = p))
      rw [this]
      exact hold.lk (lk.gets j q) (fun _ => rfl) lF ⟨fun _ _ z => z, fun _ _ z => z⟩ (fun _ _ => rfl) (fun a n => upd_ne n) (fun u z => by rw [hB] at z; cases z) (fun z => nM (f1 j p z)) (f3 j)
/-- .. where the thing is let go -/
theorem Env.ulkD {B F M H σ} {p : Addr} {ob : Obj} {u : HO} (E : Env K B F M H σ ds) (hp : F p = some (.frz ob u)) (hB : B p = none) (lk : All2 (LkS true) ds es) :
    Env K B (cutF F p) M (upd H p u) σ es := by
  obtain ⟨len, sB, sF, mB, mF, mH, mT, foot, f1, f2, f3⟩ := E
  have nM : ¬ M p := fun z => by rw [mF p z] at hp; cases hp
  have neM : ∀ a, M a → a ≠ p := fun a z q => nM (by rw [← q]; exact z)
  have lF : LT F (cutF F p) := lt_but (fun a q => (cutF_ne q).symm) (fun vs z => by rw [hp] at z; cases z) fun vs z => by rw [hp] at z; cases z
  refine ⟨by rw [len, lk.len], fun a u z => ?_, fun a u z => ?_, fun a z => mB a z, fun a z => ?_, fun a z => ?_, fun a ts z => ?_, foot, f1, f2, fun j => ?_⟩
  · rw [upd_ne fun q => by rw [q, hB] at z; cases z]; exact sB a u z
  · by_cases q : a = p
    · rw [q, cutF_at] at z; cases z
    · rw [cutF_ne q] at z; rw [upd_ne q]; exact sF a u z
  · rw [cutF_ne (neM a z)]; exact mF a z
  · rw [upd_ne (neM a z)]; exact mH a z
  · rw [upd_ne (neM a z)]; exact mT a ts z
  · exact hold.lk (lk.gets j) (fun _ => rfl) lF ⟨fun _ _ z => z, fun _ _ z => z⟩ (fun _ _ => rfl) (fun a n => upd_ne n) (fun u z => by rw [hB] at z; cases z) (fun z => nM (f1 j p z)) (f3 j)
theorem Stp.lkO {F H F' H' : Hp} {M M' M'' : Addr → Prop} {p : Addr} {o u : HO} (hF : F p = none) (hM : M p) (hm : ∀ a, M'' a → M' a ∨ a = p) (st : Stp (upd F p o) (fun a => M a ∧ a ≠ p) (upd H p o) F' M' H') : Stp F M H (cutF F' p) M'' (upd H' p u) := by
  refine ⟨fun a w z => ?_, fun a z => ?_, fun a w z n => ?_, fun a z => ?_⟩
  · have q : a ≠ p := fun q => by rw [q, hF] at z; cases z
    rw [cutF_ne q]
    exact st.sF a w (by rw [upd_ne q]; exact z)
  · by_cases q : a = p
    · rw [q, cutF_at] at z; exact absurd rfl z
    · rw [cutF_ne q] at z
      have h := st.new a z
      rw [upd_ne q] at h
      refine h.imp_right fun h => h.imp (fun h => ?_) (·.1)
      refine h.imp (fun h => by rw [upd_ne q] at h; exact h) fun ⟨ts, h⟩ => ⟨ts, by rw [upd_ne q] at h; exact h⟩
  · have q : a ≠ p := fun q => n (by rw [q]; exact hM)
    rw [upd_ne q]
    exact st.keep a w (by rw [upd_ne q]; exact z) fun y => n y.1
  · rcases hm a z with z | rfl
    · by_cases q : a = p
      · rw [q]; exact .inl hM
      · refine (st.mn a z).imp (·.1) fun h => ?_
        rw [upd_ne q] at h
        exact h
    · exact .inl hM
/-- a dict that was handed in is locked -/
theorem Env.lkB {κ : Type} [DecidableEq κ] [Em κ] [Ky κ] {B F M H σ} (E : Env K B F M H σ ds) {i : Nat} {v : V} {od : OD} {π : List Sp1} {xs : List (κ × OD)} (hx : ds[i]? = some (.rtp v od)) (hs : subO od π = some (Ky.od xs)) (nl : NL od) :
    ∃ (p : Addr) (kv : List (κ × V)), B p = some (Ky.ho kv) ∧ H p = some (Ky.ho kv) ∧ (F p = none ∨ F p = some (Ky.ho kv)) ∧ kv.map (·.1) = xs.map (·.1) ∧ (∃ ms, Ow F B v od ms) ∧ ∀ ob es, Lks false i ds es → es[i]? = some (.rtp v (setO π od (Ky.odk p ob kv xs))) →
      Env K (upd B p (.frz ob (Ky.ho kv))) (upd F p (.frz ob (Ky.ho kv))) M (upd H p (.frz ob (Ky.ho kv))) σ es := by
  obtain ⟨len, sB, sF, mB, mF, mH, mT, foot, f1, f2, f3⟩ := E
  have h3 := f3 i
  rw [hx] at h3
  obtain ⟨e, ms, hO⟩ := h3
  have hO2 : Ow F H v od ms := hO.mono (Same.refl _) fun a _ u z => sB a u z
  obtain ⟨w, m, R, g1, g2, g3, g4, g5⟩ := hO2.focus sF hs
  obtain ⟨p, kv, ms', rfl, hp, r, hk, hn, rfl⟩ := Ky.inv g2
  have hpm : p ∈ ms := (g3 p).mpr (.inl (by simp))
  have hBp : B p = some (Ky.ho kv) := by
    obtain ⟨u, z, _⟩ := hO.at p hpm
    have := sB p u z
    rw [hp] at this
    cases this
    exact z
  have nl1 : ∀ vs, (Ky.ho kv) ≠ .lst vs := fun vs q => Ky.nl kv vs q
  have hFp : F p = none ∨ F p = some (Ky.ho kv) := by
    cases z : F p with
    | none => exact .inl rfl
    | some u =>
      have := sF p u z
      rw [hp] at this
      cases this
      exact .inr rfl
  have nM : ¬ M p := fun z => by rw [mB p z] at hBp; cases hBp
  have neM : ∀ a, M a → a ≠ p := fun a z q => nM (by rw [← q]; exact z)
  refine ⟨p, kv, hBp, hp, hFp, hk, ⟨ms, hO⟩, fun ob es lk hes => ?_⟩
  have lF : LT F (upd F p (.frz ob (Ky.ho kv))) := lt_but (p := p) (fun a q => (upd_ne q).symm) (fun vs z => by
    rcases hFp with h | h
    · rw [h] at z; cases z
    · rw [h] at z; exact nl1 vs (Option.some.inj z)) fun vs z => by
    rcases hFp with h | h
    · rw [h] at z; cases z
    · rw [h] at z; exact Ky.nt kv vs (Option.some.inj z)
  have lB : LT B (upd B p (.frz ob (Ky.ho kv))) := lt_but (p := p) (fun a q => (upd_ne q).symm) (fun vs z => by
    rw [hBp] at z
    exact nl1 vs (Option.some.inj z)) fun vs z => by
    rw [hBp] at z
    exact Ky.nt kv vs (Option.some.inj z)
  have sF1 : Same (upd F p (.frz ob (Ky.ho kv))) (upd H p (.frz ob (Ky.ho kv))) := fun a u z => by
    by_cases q : a = p
    · subst q; rw [upd_same] at z ⊢; exact z
    · rw [upd_ne q] at z ⊢; exact sF a u z
  refine ⟨by rw [len, lk.len], fun a u z => ?_, sF1, fun a z => ?_, fun a z => ?_, fun a z => ?_, fun a ts z => ?_, foot, f1, f2, fun j => ?_⟩
  · by_cases q : a = p
    · subst q; rw [upd_same] at z ⊢; exact z
    · rw [upd_ne q] at z ⊢; exact sB a u z
  · rw [upd_ne (neM a z)]; exact mB a z
  · rw [upd_ne (neM a z)]; exact mF a z
  · rw [upd_ne (neM a z)]; exact mH a z
  · rw [upd_ne (neM a z)]; exact mT a ts z
  · by_cases q : j = i
    · subst q
      rw [hes]
      -- over B, with the frozen part that holds the lock; its tuples are asked in a heap above both
      have hO5 : Ow (upd F p (.frz ob (Ky.ho kv))) H v od ms := hO2.conv lF nl fun _ _ _ z => z
      obtain ⟨w2, m2, R2, k1, k2, k3, k4, k5⟩ := hO5.focusT (fun a ts z => by
        by_cases q : a = p
        · subst q; rw [upd_same] at z; cases z
        · rw [upd_ne q] at z; exact sF a _ z) hs
      obtain ⟨p2, kv2, ms2', rfl, hp2, r2, hk2, hn2, rfl⟩ := Ky.inv k2
      have hpp : V.ref p2 = V.ref p := k1.uniq g1
      cases hpp
      have hkv : (Ky.ho kv2 : HO) = Ky.ho kv := by rw [hp] at hp2; exact (Option.some.inj hp2).symm
      have hkv2 : kv2 = kv := Ky.hinj hkv
      subst hkv2
      obtain ⟨ms3, q1, q2⟩ := k5 (upd F p (.frz ob (Ky.ho kv2))) (upd H p (.frz ob (Ky.ho kv2))) (Ky.odk p ob kv2 xs) ms2' (Same.refl _) (fun a ha u z => by rw [upd_ne fun q => k4 p (by simp) (by rw [← q]; exact ha)]; exact z) (Ky.mkk upd_same (r2.mono (Same.refl _) fun a ha u z => by rw [upd_ne fun q => hn2 (by rw [← q]; exact ha)]; exact z) hk2) (fun a ha => k4 a (by simp [ha]))
      refine ⟨e, ms3, q1.mono (Same.refl _) fun a ha u z => ?_⟩
      by_cases q : a = p
      · subst q; rw [upd_same] at z ⊢; exact z
      · rw [upd_ne q] at z ⊢
        have ha2 : a ∈ ms := by
          rw [k3]
          rcases (q2 a).mp ha with y | y
          · exact .inl (by simp [y])
          · exact .inr y
        obtain ⟨u', z', _⟩ := hO.at a ha2
        rw [z']
        have := sB a u' z'
        rw [z] at this
        exact this.symm
    · exact hold.lk (lk.gets j q) (fun z => nomatch z) lF lB (fun a n => upd_ne n) (fun a n => upd_ne n) (fun u z => by rw [hBp] at z; cases z; exact ⟨nl1, fun o vs q => Ky.nf kv o _ q⟩) (fun z => nM (f1 j p z)) (f3 j)
end
end Tw
/-! Walks over locked dicts. -/
namespace Tw
open PySem L2
section
variable {K : PySem.W.Frag} {ds es : List Sl} {b : Bool}
def putF1 (F : Hp) (p : Addr) (u : Option HO) : Hp := fun a => if a = p then u else F a
theorem putF1_ne {F : Hp} {p a : Addr} {u : Option HO} (h : a ≠ p) : putF1 F p u a = F a := if_neg h
theorem putF1_at {F : Hp} {p : Addr} {u : Option HO} : putF1 F p u p = u := if_pos rfl
/-- a dict that was handed in is set free -/
theorem Env.ulkB {B Fo F M H σ} {i : Nat} {v : V} {od : OD} {p : Addr} {ob : Obj} {u : HO} (E : Env K (upd B p (.frz ob u)) F M H σ ds) (hB : B p = some u) (hu : ∀ vs, u ≠ .lst vs) (hu2 : ∀ vs, u ≠ .tup vs) (hFo : Fo p = none ∨ Fo p = some u) (hF : ∀ a, a ≠ p → ∀ w, Fo a = some w → F a = some w) (hFp : F p = some (.frz ob u)) (hO : ∃ ms, Ow Fo B v od ms)
    (len2 : ds.length = es.length) (lk : ∀ j, LkS false (ds[j]?.getD .no) (es[j]?.getD .no) ∨ (j = i ∧ es[j]? = some (.rtp v od) ∧ ∃ od1, ds[j]? = some (.rtp v od1))) : Env K B (putF1 F p (Fo p)) M (upd H p u) σ es := by
  obtain ⟨len, sB, sF, mB, mF, mH, mT, foot, f1, f2, f3⟩ := E
  have nM : ¬ M p := fun z => by rw [mF p z] at hFp; cases hFp
  have neM : ∀ a, M a → a ≠ p := fun a z q => nM (by rw [← q]; exact z)
  have lF : LT F (putF1 F p (Fo p)) := lt_but (fun a q => (putF1_ne q).symm) (fun vs z => by rw [hFp] at z; cases z) fun vs z => by rw [hFp] at z; cases z
  have lB : LT (upd B p (.frz ob u)) B := lt_but (p := p) (fun a q => upd_ne q) (fun vs z => by rw [upd_same] at z; cases z) fun vs z => by rw [upd_same] at z; cases z
  refine ⟨by rw [len, len2], fun a w z => ?_, fun a w z => ?_, fun a z => ?_, fun a z => ?_, fun a z => ?_, fun a ts z => ?_, foot, f1, f2, fun j => ?_⟩
  · by_cases q : a = p
    · subst q; rw [upd_same, ← hB]; exact z
    · rw [upd_ne q]; exact sB a w (by rw [upd_ne q]; exact z)
  · by_cases q : a = p
    · subst q
      rw [putF1_at] at z
      rw [upd_same]
      rcases hFo with h | h
      · rw [h] at z; cases z
      · rw [← h]; exact z
    · rw [putF1_ne q] at z; rw [upd_ne q]; exact sF a w z
  · have h := mB a z
    rw [upd_ne (neM a z)] at h
    exact h
  · rw [putF1_ne (neM a z)]; exact mF a z
  · rw [upd_ne (neM a z)]; exact mH a z
  · rw [upd_ne (neM a z)]; exact mT a ts z
  · rcases lk j with l | ⟨rfl, q1, od1, q2⟩
    · exact hold.lk l (fun z => nomatch z) lF lB (fun a n => (upd_ne n).symm) (fun a n => upd_ne n) (fun w z => by
        rw [upd_same] at z
        cases z
        exact And.intro (fun vs z => nomatch z) fun o vs z => hu vs (HO.frz.inj z).2) (fun z => nM (f1 j p z)) (f3 j)
    · rw [q1]
      have h3 := f3 j
      rw [q2] at h3
      obtain ⟨e, _⟩ := h3
      obtain ⟨ms, hO⟩ := hO
      refine ⟨e, ms, hO.mono (fun a w z => ?_) fun a _ w z => z⟩
      by_cases q : a = p
      · subst q; rw [putF1_at]; exact z
      · rw [putF1_ne q]; exact hF a q w z
theorem Stp.lkB {F H F' H' : Hp} {M M' : Addr → Prop} {p : Addr} {o u : HO} (hH : H p = some u) (hF : F p = none ∨ F p = some u) (st : Stp (upd F p o) M (upd H p o) F' M' H') : Stp F M H (putF1 F' p (F p)) M' (upd H' p u) := by
  refine ⟨fun a w z => ?_, fun a z => ?_, fun a w z n => ?_, fun a z => ?_⟩
  · by_cases q : a = p
    · subst q; rw [putF1_at]; exact z
    · rw [putF1_ne q]; exact st.sF a w (by rw [upd_ne q]; exact z)
  · by_cases q : a = p
    · subst q; rw [putF1_at] at z; exact .inl z
    · rw [putF1_ne q] at z
      have h := st.new a z
      rw [upd_ne q] at h
      refine h.imp_right fun h => h.imp_left fun h => ?_
      refine h.imp (fun h => by rw [upd_ne q] at h; exact h) fun ⟨ts, h⟩ => ⟨ts, by rw [upd_ne q] at h; exact h⟩
  · by_cases q : a = p
    · subst q; rw [upd_same, ← hH]; exact z
    · rw [upd_ne q]
      exact st.keep a w (by rw [upd_ne q]; exact z) n
  · refine (st.mn a z).imp_right fun h => ?_
    by_cases q : a = p
    · subst q; rw [upd_same] at h; cases h
    · rw [upd_ne q] at h; exact h
end
/-! ### what is walked, its things told as they stand -/
def EvG (K : PySem.W.Frag) (ds : List Sl) (wi : TI) {α : Type} [Em α] (o : Option (List α)) : Prop := ∀ xs, o = some xs → ∀ B F M H σ R, Env K B F M H σ ds →
  (∀ J F' H', Ext F H F' H' → L2.Walk J xs.length (fun H2 => Same F' H2 ∧ Same B H2) (fun i H2 x H3 => H3 = H2 ∧ ∃ y, xs[i]? = some y ∧ ∀ F2, Same F2 H2 → Same F' F2 → Rp (tupF F2 H2) x (em y)) → R J H') → wi σ H R
def okeysK {κ β : Type} (o : Option (List (κ × β))) : Option (List κ) := o.map fun kvs => kvs.map (·.1)
section
variable {K : PySem.W.Frag} {ds es : List Sl} {ta tb tc te td tl : TE} {tt : TT} {t u w : TS} {g : TG} {wi : TI} {m m1 m2 : Md} {α β γ δ κ τ S ρ : Type} {out : τ → Out}
theorem eg_keys [DecidableEq κ] [Em κ] [Ky κ] {p : Addr} {ob : Obj} {kv : List (κ × V)} {e : β → OD} {o : Option (List (κ × β))} (h : EvR K ds m td (eDk p ob kv e) o) : EvG K ds (iKeys td) (okeysK o) := fun xs hx B F M H σ R E q => by
  cases o with
  | none => cases hx
  | some kvs =>
    cases hx
    refine h kvs rfl B F M H σ _ E fun w ms F' H' x hw => ?_
    unfold eDk at hw
    obtain ⟨rfl, hp, r, hk⟩ := Ky.invk hw
    refine ⟨p, ob, rfl, Ky.ik (kv := kv) (x.sub _ _ hp) (q _ F' H' x ?_)⟩
    have hk2 : kv.map (·.1) = kvs.map (·.1) := by rw [hk, List.map_map]; rfl
    have hl : (kvs.map (·.1)).length = kv.length := by rw [← hk2, List.length_map]
    rw [hl]
    refine L2.Walk.mono Ky.walk (fun H2 s => s.1 _ _ hp) fun i H2 x2 H3 _ _ y => ?_
    obtain ⟨e1, y, h1, h2⟩ := y
    refine ⟨e1, y.1, ?_, fun F2 s _ => h2 F2 s⟩
    show (kvs.map (·.1))[i]? = _
    rw [← hk2, List.getElem?_map, h1]
    rfl
/-- for over it -/
theorem sv_forG [Em α] {js : List Nat} {o : Option (List α)} {E : S → List Sl} {s0 : S} {d1 : S → α → List Sl} {f : S → α → Option (Flow S ρ)} {bo : Flow S ρ → Out} {k : S → Option τ} {kd : ρ → Option τ}
    (hw : EvG K ds wi o) (l0 : Le ds (E s0)) (tg : ∀ s x, Tg K .f (E s) g js (em x) (d1 s x)) (body : ∀ s x, SvO K (d1 s x) t (f s x) bo) (b1 : ∀ s, bo (.nx s) = .lp (E s)) (b2 : ∀ s, bo (.bk s) = .bk (E s)) (b3 : ∀ r x, kd r = some x → bo (.dn r) = out x ∧ (bo (.dn r)).isRt = true)
    (rest : ∀ s, SvO K (E s) u (k s) out) : SvO K ds (tSeq (tFor wi g t) u) (o.bind fun xs => after (loopM f xs s0) k kd) out := by
  intro z hz B F M H σ D Ev fin
  obtain ⟨xs, e1, e2⟩ := bind_some' hz
  refine hw xs e1 B F M H σ _ Ev fun J F1 H1 x wk => ?_
  have E1 := Ev.ext x
  have fin1 := fin.step (.ofExt (M := M) x)
  refine L2.for_it wk (D := { D with nx := u D }) (fun i σ' H' => ∃ F' M' s, Stp F1 M H1 F' M' H' ∧ Env K B F' M' H' σ' (E s) ∧ after (loopM f (xs.drop i) s) k kd = some z) ⟨F1, M, s0, .refl, E1.le l0, e2⟩
    (fun i σ' H' _ ⟨F', M', s, st, E', _⟩ => ⟨st.sF.trans E'.sF, E'.sB⟩) ?_ ?_
  · rintro i v σ' H' H'' hi ⟨F', M', s, st, E', hk⟩ ⟨rfl, y, hy, rv⟩
    have rd := rv F' E'.sF st.sF
    have X := tupF_ext E'.sF
    have E2 := E'.ext X
    have st2 := st.trans (.ofExt (M := M') X)
    have hdr : xs.drop i = y :: xs.drop (i + 1) := by
      have hlt := (List.getElem?_eq_some_iff.mp hy).1
      rw [List.drop_eq_getElem_cons hlt]
      rw [(List.getElem?_eq_some_iff.mp hy).2]
    rw [hdr] at hk
    unfold after at hk
    obtain ⟨fl, hfl, hk⟩ := bind_some' hk
    simp only [loopM] at hfl
    obtain ⟨fb, hfb, hfl⟩ := bind_some' hfl
    refine tg s y B _ M' H'' σ' v _ E2 rd fun σ2 E3 _ _ => ?_
    refine body s y fb hfb B _ M' H'' σ2 _ E3 ?_
    cases fb with
    | nx s' =>
      rw [b1]
      intro F3 M3 H3 σ3 st3 E3
      have : after (loopM f (xs.drop (i + 1)) s') k kd = some z := by unfold after; rw [show loopM f (xs.drop (i + 1)) s' = some fl from hfl]; exact hk
      exact ⟨⟨F3, M3, s', st2.trans st3, E3, this⟩, ⟨F3, M3, s', st2.trans st3, E3, this⟩⟩
    | bk s' =>
      rw [b2]
      cases hfl
      intro F3 M3 H3 σ3 st3 E3
      exact rest s' z hk B F3 M3 H3 σ3 D E3 (fin1.step (st2.trans st3))
    | dn r =>
      cases hfl
      obtain ⟨q1, q2⟩ := b3 r z hk
      exact Fin.rt_any (q1 ▸ fin1.step st2) q2
  · rintro σ' H' ⟨F', M', s, st, E', hk⟩
    rw [show xs.drop xs.length = [] from List.drop_length] at hk
    exact rest s z hk B F' M' H' σ' D E' (fin1.step st)
/-- comprehensions over it -/
theorem el_lcG [Em α] [Em β] {vs js : List Nat} {o : Option (List α)} {d1 : α → List Sl} {c : α → Option Bool} {k : α → Option β} (hw : EvG K ds wi o) (tg : ∀ x, Tg K .f (wipeD ds vs) g js (em x) (d1 x)) (hj : ∀ i ∈ js, i ∈ vs)
    (ht : ∀ x, EvT K (d1 x) tt (c x)) (he : ∀ x, EvO K (d1 x) .f te (k x)) : EvL K ds (tLc wi g tt te vs) (olc o c k) := by
  intro ys hy B F M H σ Q Ev q
  obtain ⟨xs, e1, e2⟩ := bind_some' hy
  split at e2
  · rename_i hlen
    refine hw xs e1 B F M H σ _ Ev fun J F1 H1 x wk D hD => ?_
    have E1 := Ev.ext x
    have DF1 : F1 D = none := none_of_same x.sub hD
    have DB : B D = none := none_of_same E1.sB hD
    refine L2.lc_it wk (fun i H' => ∃ F' acc done todo, Ext F1 H1 F' H' ∧ F' D = none ∧ H' D = some (.lst acc) ∧ RpA F' acc (done.map em) ∧ ocomp c k (xs.drop i) = some todo ∧ done ++ todo = ys) ⟨F1, [], [], ys, .new0 x.sub hD, DF1, upd_same, .nil, e2, rfl⟩
      (fun i H' _ ⟨F', acc, dn, td, xx, _⟩ => ⟨xx.sF.trans xx.sub, E1.sB.trans xx.sH⟩) ?_ ?_
    · rintro i v H' H'' hi ⟨F0, acc, dn, td, xx0, dF0, dH, ra0, hk, hd⟩ ⟨rfl, y, hy, rv⟩
      have rd := rv F0 xx0.sub xx0.sF
      have X := tupF_ext xx0.sub
      have xx := xx0.trans X
      have dF : tupF F0 H'' D = none := by
        cases z : tupF F0 H'' D with
        | none => rfl
        | some o =>
          rcases X.new D (by rw [z]; exact fun z => nomatch z) with h | h | ⟨ts, h⟩
          · exact absurd dF0 h
          · rw [dH] at h; cases h
          · rw [dH] at h; cases h
      have ra2 := ra0.mono X.sF
      revert rd X xx dF ra2
      generalize tupF F0 H'' = F'
      intro rd X xx dF ra2
      have hdr : xs.drop i = y :: xs.drop (i + 1) := by
        have hlt := (List.getElem?_eq_some_iff.mp hy).1
        rw [List.drop_eq_getElem_cons hlt]
        rw [(List.getElem?_eq_some_iff.mp hy).2]
      rw [hdr] at hk
      simp only [ocomp] at hk
      obtain ⟨b, hb, hk⟩ := bind_some' hk
      have E2 := (E1.ext xx).wipe vs
      refine tg y B F' M H'' _ v _ E2 rd fun σ2 E3 l3 o3 => ⟨wipe_eq l3 hj o3, ?_⟩
      refine ht y b hb B F' M H'' σ2 _ E3 fun F3 H3 x3 => ?_
      have dF3 : ∀ {G : Hp}, (∀ a, G a ≠ none → F' a ≠ none ∨ (H'' a = none ∨ IsTp H'' a)) → G D = none := fun {G} hn => by
        cases z : G D with
        | none => rfl
        | some o =>
          rcases hn D (by rw [z]; exact fun z => nomatch z) with h | h | ⟨ts, h⟩
          · exact absurd dF h
          · rw [dH] at h; cases h
          · rw [dH] at h; cases h
      cases b with
      | false => exact ⟨F3, acc, dn, td, xx.trans x3, dF3 x3.new, x3.sH _ _ dH, ra2.mono x3.sF, hk, hd⟩
      | true =>
        obtain ⟨z, hz, hk⟩ := bind_some' (show (k y).bind _ = some td from hk)
        obtain ⟨zs, hzs, hk⟩ := bind_some' hk
        cases hk
        show te σ2 H3 _
        refine he y z hz B F3 M H3 σ2 _ (E3.ext x3) fun w F4 H4 x4 rw4 => ?_
        have x34 := x3.trans x4
        have hacc : acc.length = dn.length := by rw [ra2.len, List.length_map]
        have hle : dn.length + (z :: zs).length ≤ xs.length := by
          have h1 := congrArg List.length hd
          rw [List.length_append] at h1
          have h2 := ocomp_len e2
          omega
        refine ⟨acc, x34.sH _ _ dH, Nat.lt_of_lt_of_le (show acc.length < 100001 by simp only [List.length_cons] at hle; omega) (by decide), F4, acc ++ [w], dn ++ [z], zs, ?_, dF3 x34.new, upd_same, ?_, hzs, by rw [List.append_assoc]; exact hd⟩
        · have xa := xx.trans x34
          exact ⟨xa.sF, same_upd2 xa.sH hD, same_upd2 xa.sub (dF3 x34.new), xa.new⟩
        · rw [List.map_append]
          exact (ra2.mono x34.sF).app (.cons rw4 .nil)
    · rintro H' ⟨F', acc, dn, td, xx, dF, dH, ra2, hk, hd⟩
      rw [show xs.drop xs.length = [] from List.drop_length] at hk
      cases hk
      rw [List.append_nil] at hd
      subst hd
      exact q D acc F' H' (x.trans xx) dF (none_of_same x.sH hD) dH ra2
  · cases e2
/-! ### under a lock -/
theorem el_lockO [DecidableEq κ] [Em κ] [Ky κ] [Em α] {i : Nat} {v : V} {od : OD} {π : List Sp1} {xs : List (κ × OD)} {o : Option (List α)} (hx : ds[i]? = some (.tr v od)) (hs : subO od π = some (Ky.od xs)) (h : ∀ p ob kv, EvL K (ds.set i (.tr v (setO π od (Ky.odk p ob kv xs)))) te o) : EvL K ds (tLockE te) o := fun ys hy B F M H σ Q E q => by
  obtain ⟨p, kv, _, hp, hM, hF, hB, _, lk⟩ := E.lkO hx hs
  refine ⟨p, Ky.ho kv, hp, Ky.mutb kv, fun ob => h p ob kv ys hy B _ _ _ σ _ (lk ob) fun p2 vs F' H' x h1 h2 h3 r => ?_⟩
  have hFp : F' p = some (.frz ob (Ky.ho kv)) := x.sF _ _ upd_same
  have np : p2 ≠ p := fun z => by rw [z, upd_same] at h2; cases h2
  refine ⟨x.sub _ _ hFp, q p2 vs (cutF F' p) _ ⟨fun a w z => ?_, fun a w z => ?_, fun a w z => ?_, fun a z => ?_⟩ (by rw [cutF_ne np]; exact h1) (by rw [upd_ne np] at h2; exact h2) (by rw [upd_ne np]; exact h3) (r.conv (lt_but (fun a q => (cutF_ne q).symm) (fun vs z => by rw [hFp] at z; cases z) fun vs z => by rw [hFp] at z; cases z))⟩
  · have n : a ≠ p := fun n => by rw [n, hF] at z; cases z
    rw [cutF_ne n]
    exact x.sF a w (by rw [upd_ne n]; exact z)
  · by_cases n : a = p
    · subst n; rw [upd_same, ← hp]; exact z
    · rw [upd_ne n]; exact x.sH a w (by rw [upd_ne n]; exact z)
  · by_cases n : a = p
    · rw [n, cutF_at] at z; cases z
    · rw [cutF_ne n] at z; rw [upd_ne n]; exact x.sub a w z
  · by_cases n : a = p
    · rw [n, cutF_at] at z; exact absurd rfl z
    · rw [cutF_ne n] at z
      have h := x.new a z
      rw [upd_ne n] at h
      exact h.imp_right fun h => h.imp (fun h => by rw [upd_ne n] at h; exact h) fun ⟨ts, h⟩ => ⟨ts, by rw [upd_ne n] at h; exact h⟩
theorem el_lockB [DecidableEq κ] [Em κ] [Ky κ] [Em α] {i : Nat} {v : V} {od : OD} {π : List Sp1} {xs : List (κ × OD)} {o : Option (List α)} {dk : Addr → Obj → List (κ × V) → List Sl} (hx : ds[i]? = some (.rtp v od)) (hs : subO od π = some (Ky.od xs)) (nl : NL od) (lk : ∀ p ob kv, Lks false i ds (dk p ob kv) ∧ (dk p ob kv)[i]? = some (.rtp v (setO π od (Ky.odk p ob kv xs)))) (h : ∀ p ob kv, EvL K (dk p ob kv) te o) : EvL K ds (tLockE te) o := fun ys hy B F M H σ Q E q => by
  obtain ⟨p, kv, hBp, hp, hF, _, _, lk2⟩ := E.lkB hx hs nl
  refine ⟨p, Ky.ho kv, hp, Ky.mutb kv, fun ob => h p ob kv ys hy _ _ _ _ σ _ (lk2 ob _ (lk p ob kv).1 (lk p ob kv).2) fun p2 vs F' H' x h1 h2 h3 r => ?_⟩
  have hFp : F' p = some (.frz ob (Ky.ho kv)) := x.sF _ _ upd_same
  have np : p2 ≠ p := fun z => by rw [z, upd_same] at h2; cases h2
  refine ⟨x.sub _ _ hFp, q p2 vs (putF1 F' p (F p)) _ ⟨fun a w z => ?_, fun a w z => ?_, fun a w z => ?_, fun a z => ?_⟩ (by rw [putF1_ne np]; exact h1) (by rw [upd_ne np] at h2; exact h2) (by rw [upd_ne np]; exact h3) (r.conv (lt_but (fun a q => (putF1_ne q).symm) (fun vs z => by rw [hFp] at z; cases z) fun vs z => by rw [hFp] at z; cases z))⟩
  · by_cases n : a = p
    · subst n; rw [putF1_at]; exact z
    · rw [putF1_ne n]
      exact x.sF a w (by rw [upd_ne n]; exact z)
  · by_cases n : a = p
    · subst n; rw [upd_same, ← hp]; exact z
    · rw [upd_ne n]; exact x.sH a w (by rw [upd_ne n]; exact z)
  · by_cases n : a = p
    · subst n
      rw [putF1_at] at z
      rw [upd_same]
      rcases hF with h | h
      · rw [h] at z; cases z
      · rw [← h]; exact z
    · rw [putF1_ne n] at z; rw [upd_ne n]; exact x.sub a w z
  · by_cases n : a = p
    · subst n; rw [putF1_at] at z; exact .inl z
    · rw [putF1_ne n] at z
      have h := x.new a z
      rw [upd_ne n] at h
      exact h.imp_right fun h => h.imp (fun h => by rw [upd_ne n] at h; exact h) fun ⟨ts, h⟩ => ⟨ts, by rw [upd_ne n] at h; exact h⟩
/-- how a statement under a lock ends, and how it is told outside -/
inductive UnO (i : Nat) (v : V) (od odk : OD) : Out → Out → Prop
  | nx {d d' : List Sl} : d[i]? = some (.tr v odk) → Lks true i d d' → d'[i]? = some (.tr v od) → UnO i v od odk (.nx d) (.nx d')
  | rdD {s s' : Sl} {d d' : List Sl} : All2 (LkS true) (s :: d) (s' :: d') → UnO i v od odk (.rd s d) (.rd s' d')
  | rdK {s s' : Sl} {d d' : List Sl} : d[i]? = some (.tr v odk) → LkS true s s' → Lks true i d d' → d'[i]? = some (.tr v od) → UnO i v od odk (.rd s d) (.rd s' d')
theorem sv_lockO [DecidableEq κ] [Em κ] [Ky κ] {i : Nat} {v : V} {od : OD} {π : List Sp1} {xs : List (κ × OD)} {o : Option τ} {outk : Addr → Obj → List (κ × V) → τ → Out} (hx : ds[i]? = some (.tr v od)) (hs : subO od π = some (Ky.od xs)) (nl : NL od) (h : ∀ p ob kv, SvO K (ds.set i (.tr v (setO π od (Ky.odk p ob kv xs)))) t o (outk p ob kv)) (un : ∀ p ob kv z, UnO i v od (setO π od (Ky.odk p ob kv xs)) (outk p ob kv z) (out z)) : SvO K ds (tLock t) o out := fun z hz B F M H σ D E fin => by
  obtain ⟨p, kv, _, hp, hM, hF, hB, _, lk⟩ := E.lkO hx hs
  refine ⟨p, Ky.ho kv, hp, Ky.mutb kv, fun ob => h p ob kv z hz B _ _ _ σ _ (lk ob) ?_⟩
  have hback : setO π (setO π od (Ky.odk p ob kv xs)) (Ky.od xs) = od := setO_back hs
  have hsub : subO (setO π od (Ky.odk p ob kv xs)) π = some (Ky.odk p ob kv xs) := subO_setO hs
  have un1 := un p ob kv z
  revert un1
  generalize outk p ob kv z = oz
  intro un1
  generalize out z = oz2 at fin un1
  cases un1 with
  | nx h1 h2 h3 =>
    intro F' M' H' σ' st E'
    obtain ⟨q1, q2⟩ := E'.ulkO h1 hsub hB (by rw [hback]; exact nl) h2 (by rw [hback]; exact h3)
    exact ⟨q1, fin _ _ _ σ' (Stp.lkO hF hM (fun a z => z) st) q2⟩
  | rdD h1 =>
    intro F' M' H' w σ' st E'
    have hFp : F' p = some (.frz ob (Ky.ho kv)) := st.sF _ _ upd_same
    exact ⟨E'.sF _ _ hFp, fin _ _ _ w σ' (Stp.lkO hF hM (fun a z => .inl z) st) (E'.ulkD hFp hB h1)⟩
  | rdK h1 h0 h2 h3 =>
    intro F' M' H' w σ' st E'
    obtain ⟨q1, q2⟩ := E'.ulkO (i := i + 1) (by simpa using h1) hsub hB (by rw [hback]; exact nl) (.next h0 h2) (by rw [hback]; simpa using h3)
    exact ⟨q1, fin _ _ _ w σ' (Stp.lkO hF hM (fun a z => z) st) q2⟩
inductive UnB (i : Nat) (v : V) (od : OD) : Out → Out → Prop
  | nx {d d' : List Sl} {odk : OD} : d[i]? = some (.rtp v odk) → Lks false i d d' → d'[i]? = some (.rtp v od) → UnB i v od (.nx d) (.nx d')
  | rd {s s' : Sl} {d d' : List Sl} : All2 (LkS false) (s :: d) (s' :: d') → UnB i v od (.rd s d) (.rd s' d')
theorem sv_lockB [DecidableEq κ] [Em κ] [Ky κ] {i : Nat} {v : V} {od : OD} {π : List Sp1} {xs : List (κ × OD)} {o : Option τ} {dk : Addr → Obj → List (κ × V) → List Sl} {outk : Addr → Obj → List (κ × V) → τ → Out} (hx : ds[i]? = some (.rtp v od)) (hs : subO od π = some (Ky.od xs)) (nl : NL od) (lk : ∀ p ob kv, Lks false i ds (dk p ob kv) ∧ (dk p ob kv)[i]? = some (.rtp v (setO π od (Ky.odk p ob kv xs))))
    (h : ∀ p ob kv, SvO K (dk p ob kv) t o (outk p ob kv)) (un : ∀ p ob kv z, UnB i v od (outk p ob kv z) (out z)) : SvO K ds (tLock t) o out := fun z hz B F M H σ D E fin => by
  obtain ⟨p, kv, hBp, hp, hF, _, hO, lk2⟩ := E.lkB hx hs nl
  refine ⟨p, Ky.ho kv, hp, Ky.mutb kv, fun ob => h p ob kv z hz _ _ _ _ σ _ (lk2 ob _ (lk p ob kv).1 (lk p ob kv).2) ?_⟩
  have un1 := un p ob kv z
  revert un1
  generalize outk p ob kv z = oz
  intro un1
  generalize out z = oz2 at fin un1
  cases un1 with
  | nx h1 h2 h3 =>
    intro F' M' H' σ' st E'
    have hFp : F' p = some (.frz ob (Ky.ho kv)) := st.sF _ _ upd_same
    refine ⟨E'.sF _ _ hFp, fin _ _ _ σ' (Stp.lkB hp hF st) (E'.ulkB (i := i) hBp (fun vs => Ky.nl kv vs) (fun vs => Ky.nt kv vs) hF (fun a n w z => st.sF a w (by rw [upd_ne n]; exact z)) hFp hO h2.len fun j => ?_)⟩
    by_cases q : j = i
    · subst q; exact .inr ⟨rfl, h3, _, h1⟩
    · exact .inl (h2.gets j q)
  | rd h1 =>
    intro F' M' H' w σ' st E'
    have hFp : F' p = some (.frz ob (Ky.ho kv)) := st.sF _ _ upd_same
    exact ⟨E'.sF _ _ hFp, fin _ _ _ w σ' (Stp.lkB hp hF st) (E'.ulkB (i := 0) hBp (fun vs => Ky.nl kv vs) (fun vs => Ky.nt kv vs) hF (fun a n w z => st.sF a w (by rw [upd_ne n]; exact z)) hFp hO h1.len fun j => .inl (h1.gets j))⟩
/-- a tree handed in: its value is told -/
theorem sv_openR {i : Nat} {od : OD} {o : Option τ} (hi : i < ds.length) (hx : ds[i]? = some (.rt od)) (k : ∀ v, SvO K (ds.set i (.rtp v od)) u o out) : SvO K ds u o out := fun z hz B F M H σ D E f => by
  obtain ⟨len, sB, sF, mB, mF, mH, mT, foot, f1, f2, f3⟩ := E
  have h3 := f3 i
  rw [hx] at h3
  obtain ⟨v, e, h⟩ := h3
  refine k v z hz B F M H σ D ⟨by rw [List.length_set, len], sB, sF, mB, mF, mH, mT, foot, f1, f2, fun j => ?_⟩ f
  rw [getD_set ds i j _ hi]
  by_cases hj : j = i
  · subst hj; rw [if_pos rfl]; exact ⟨e, h⟩
  · rw [if_neg hj]; exact f3 j
/-- one statement behind another, where the first one may return -/
theorem sv_thenF {S ρ : Type} {o : Option (Flow S ρ)} {bo : Flow S ρ → Out} {E : S → List Sl} {k : S → Option τ} {kd : ρ → Option τ} (h : SvO K ds t o bo) (b1 : ∀ s, bo (.nx s) = .nx (E s)) (b2 : ∀ s, bo (.bk s) = .nx (E s)) (b3 : ∀ r x, kd r = some x → bo (.dn r) = out x ∧ (bo (.dn r)).isRt = true) (rest : ∀ s, SvO K (E s) u (k s) out) : SvO K ds (tSeq t u) (after o k kd) out := fun z hz B F M H σ D Ev fin => by
  obtain ⟨fl, e1, e2⟩ := bind_some' hz
  refine h fl e1 B F M H σ _ Ev ?_
  cases fl with
  | nx s => rw [b1]; exact fun F' M' H' σ' st E' => rest s z e2 B F' M' H' σ' D E' (fin.step st)
  | bk s => rw [b2]; exact fun F' M' H' σ' st E' => rest s z e2 B F' M' H' σ' D E' (fin.step st)
  | dn r =>
    obtain ⟨q1, q2⟩ := b3 r z e2
    exact Fin.rt_any (q1 ▸ fin) q2
/-- a loop told as it ended -/
def flow {S ρ : Type} (o : Option (Flow S ρ)) : Option (Flow S ρ) := after o (fun s => some (.nx s)) (fun r => some (.dn r))
theorem sv_forF [Em α] {js : List Nat} {o : Option (List α)} {E : S → List Sl} {s0 : S} {d1 : S → α → List Sl} {f : S → α → Option (Flow S ρ)} {bo bk : Flow S ρ → Out}
    (hw : EvG K ds wi o) (l0 : Le ds (E s0)) (tg : ∀ s x, Tg K .f (E s) g js (em x) (d1 s x)) (body : ∀ s x, SvO K (d1 s x) t (f s x) bo) (b1 : ∀ s, bo (.nx s) = .lp (E s)) (b2 : ∀ s, bo (.bk s) = .bk (E s)) (b3 : ∀ r, bo (.dn r) = bk (.dn r) ∧ (bo (.dn r)).isRt = true) (b4 : ∀ s, bk (.nx s) = .nx (E s)) : SvO K ds (tFor wi g t) (o.bind fun xs => flow (loopM f xs s0)) bk := by
  have := sv_forG (u := tNext) (out := bk) (k := fun s => some (.nx s)) (kd := fun r => some (.dn r)) hw l0 tg body b1 b2 (fun r x hx => by cases hx; exact b3 r) fun s z hz B F M H σ D Ev fin => by
    cases hz
    rw [b4] at fin
    exact fin F M H σ .refl Ev
  exact this
end
end Tw
/-! sorted(set(xs)) of a list of whole numbers, any number of them. -/
namespace L2
open PySem PySem.Spec PyProof.Rows
/-- an empty set, as it is made -/
def nuS (w : World) : Obj := { cls := .type "set", dict := none, data := .set #[] 0 (.fresh 0 0 (!w.params.followText "set-order")) }
section
variable {P : Program} {w : World} {A : Around} {E : Value → Shared → Prop} {z : Shared}
set_option maxHeartbeats 3200000 in
/-- the new set is told the list's numbers -/
theorem nu_init {a l : Addr} {xs : Array Value} (ks : List Int) {R : Result → Shared → Prop} (free : A.handled = none) (ga : z.heap.get? a = some (nuS w)) (gl : z.heap.IsList l xs) (ne : a ≠ l) (ix : IntsAre xs.toList ks) (few : ks.length + 1 < scanBound)
    (q : ∀ (g : Heap) (tk c : Nat), c ≤ ks.length → SetR w g a (fun j => decide (j ∈ ks)) c → (∀ b o, b ≠ a → z.heap.get? b = some o → g.get? b = some o) → R (.ok (.ret .none)) { z with heap := g, toks := tk }) :
    codeAny (model P w) A (.call (.builtin "set.__init__") ⟨[.ref a, .ref l], []⟩) R z := by
  have ty : z.TypeIs (.ref a) "set" := ⟨_, ga, rfl⟩
  have count : xs.size = ks.length := by simpa using IntsAre.length ix
  have la := Heap.lt_size ga
  have ll : l < z.heap.objs.size := by
    obtain ⟨o, e, _⟩ := gl
    exact Heap.lt_size e
  refine codeAny_call_builtin F.called_set.init.plain F.entry_set_init (check_set_init_1 ty ?_)
  have fa := F.sub_list_set
  have fb := F.sub_list_frozenset
  have fc : (Value.type "list" == Value.type "dict") = false := by decide
  obtain ⟨⟨_, ld, _, ls⟩, lg, rfl, ln, rfl⟩ := gl
  have isl : z.heap.IsList l xs := ⟨_, lg, rfl, ln, rfl⟩
  unfold Builtin.«set.__init__» noKeywords Builtin.Frozenset.updateFrom
  generalize hy : pyIter = it
  wp_walk
  subst hy
  refine wpAny_pyIter_list isl (wpAny_bind (wpAny_runValue ?_))
  have top : z.heap.objs.size ≠ a := Nat.ne_of_gt la
  refine set_update_ints ((Walks.list (by simp [free]) _ l (Nat.ne_of_lt ll) xs).toS) a (by simp [ne, Ne.symm top]) ks count few ?_ _ 0 _ rfl (Nat.zero_le _) ⟨⟨_, Heap.get?_push_size _ rfl, rfl, rfl⟩, isl.push _⟩ ⟨0, Nat.le_refl 0, setR_new_at (Heap.get?_push_of_some _ ga)⟩ ?_
  · intro i v hv
    have hi : i < ks.length := count ▸ (Array.getElem?_eq_some_iff.mp hv).1
    obtain ⟨t, e⟩ := PyProof.Rows.IntsAre.int_at ix i v (by rw [Array.getElem?_toList]; exact hv)
    exact ⟨ks[i], t, List.getElem?_eq_getElem hi, by rw [e, List.getD_eq_getElem?_getD, List.getElem?_eq_getElem hi]; rfl⟩
  · rintro ⟨g, _, _, tk, _⟩ c mv hc hS
    cases (show _ = z.gens from mv.gens)
    cases (show _ = z.drawn from mv.drawn)
    cases (show _ = z.os from mv.os)
    refine wpAny_pure (wpAny_pure (q g tk c (by rw [← count]; exact hc) hS fun b o nb e => mv.heap b o ?_ (Heap.get?_push_of_some _ e)))
    have := Heap.lt_size e
    simp only [List.mem_cons, List.not_mem_nil, or_false, not_or]
    exact ⟨nb, Nat.ne_of_lt this⟩
set_option maxHeartbeats 3200000 in
/-- set(xs) of a list of numbers -/
theorem nu_set {l : Addr} {xs : Array Value} (ks : List Int) {Q : Value → Shared → Prop} (free : A.handled = none) (gl : z.heap.IsList l xs) (ix : IntsAre xs.toList ks) (few : ks.length + 1 < scanBound)
    (q : ∀ (a : Addr) (g : Heap) (tk c : Nat), c ≤ ks.length → SetR w g a (fun j => decide (j ∈ ks)) c → (∀ b o, z.heap.get? b = some o → g.get? b = some o) → Q (.ref a) { z with heap := g, toks := tk }) :
    wpAny (model P w) A (call (.type "set") [.ref l]) Q E z := by
  obtain ⟨_, _, mr⟩ := F.called_set.mro
  have m1 := F.called_set.made
  have m2 := F.called_set.sub
  have m3 := F.called_set.notType
  have m4 := F.called_set.canCreate
  have m5 := F.typeCall_set_1 (.ref l)
  refine wpAny_call (codeAny_of_tree ?_)
  show wpAny _ _ (callAny (.type "set") _) _ _ _
  refine wpAny_pure ⟨Code.quiet_builtin _ (by decide +kernel), codeAny_builtin F.entry_type_call ?_⟩
  rw [Around.under_plain (weight_type_call_type "set" [.ref l] []) rfl]
  repeat (any_goals (first | assumption | wp_step))
  have nw : (z.heap.push (nuS w)).get? z.heap.objs.size = some (nuS w) := Heap.get?_push_size _ rfl
  have ne : z.heap.objs.size ≠ l := by
    obtain ⟨o, e, _⟩ := gl
    exact Nat.ne_of_gt (Heap.lt_size e)
  refine codeAny_mono (code_set_led1 (.ref l) (E := E) (Q₁ := fun v y => v = .ref z.heap.objs.size ∧ y = { z with heap := z.heap.push (nuS w) }) ⟨rfl, rfl⟩) fun r y h => ?_
  match r, h with
  | .error _, h => exact h
  | .ok (.ret v), h =>
    obtain ⟨rfl, rfl⟩ := h
    have ty : Shared.TypeIs { z with heap := z.heap.push (nuS w) } (.ref z.heap.objs.size) "set" := ⟨_, nw, rfl⟩
    have m6 := F.called_set.init.lookup
    have m7 := F.called_set.init.bind (.ref z.heap.objs.size)
    repeat (any_goals (first | assumption | wp_step))
    refine codeAny_mono (nu_init (z := { z with heap := z.heap.push (nuS w) }) (R := wants (fun r y => r = .none ∧ ∃ (g : Heap) (tk c : Nat), y = { z with heap := g, toks := tk } ∧ c ≤ ks.length ∧ SetR w g z.heap.objs.size (fun j => decide (j ∈ ks)) c ∧ ∀ b o, z.heap.get? b = some o → g.get? b = some o) E) ks (by simp [free]) nw (gl.push _) ne ix few fun g tk c hc hS k => ⟨rfl, g, tk, c, rfl, hc, hS, fun b o e => k b o (Nat.ne_of_lt (Heap.lt_size e)) (Heap.get?_push_of_some _ e)⟩) fun r y h => ?_
    match r, h with
    | .error _, h => exact h
    | .ok (.ret _), h =>
      obtain ⟨rfl, g, tk, c, rfl, hc, hS, k⟩ := h
      repeat (any_goals (first | assumption | wp_step))
      exact q _ g tk c hc hS k
    | .ok .next, h => exact h.elim
    | .ok .brk, h => exact h.elim
    | .ok .cont, h => exact h.elim
  | .ok .next, h => exact h.elim
  | .ok .brk, h => exact h.elim
  | .ok .cont, h => exact h.elim
/-- sorted(s) of a set of numbers, any number of them -/
theorem nu_sorted {a : Addr} {S : Int → Bool} {n : Nat} {Q : Value → Shared → Prop} (hR : SetR w z.heap a S n) (free : A.handled = none)
    (q : ∀ y p (out : Array Value) (c : Nat) (ns : List Int), (∀ b o, z.heap.get? b = some o → y.heap.get? b = some o) → y.gens = z.gens → y.os = z.os → z.heap.objs.size ≤ p → y.heap.get? p = some (seqObj "list" out c) → IntsAre out.toList ns → ns.Pairwise (· < ·) → (∀ k, k ∈ ns ↔ S k = true) → ns.length = n → Q (.ref p) y) :
    wpAny (model P w) A (call (.builtin "sorted") [.ref a]) Q E z := by
  obtain ⟨o, es, ep, t, go, ex, dt, ge, nd, mem, room, fit, cnt, ri, le⟩ := hR
  refine Calls.call_function_entry kind_sorted plain_sorted entry_sorted (args_sorted1 _) ?_
  unfold Builtin.«sorted»
  refine wpAny_bind (m := checkCount "sorted" 1 1 _) (wpAny_pure (wpAny_bind (collect_set (A := A.in1) free ⟨o, go, ex.1, dt⟩ fit room ri le fun y vs k1 zz g1 o1 pm => ?_)))
  have lv : vs.length = n := by rw [pm.length_eq, List.length_map, Array.length_toList]; exact cnt
  have iv : IntsAre vs (vs.map Builtin.Re.reRawOf) := ints_of vs fun v hv => by
    obtain ⟨e, he, rfl⟩ := List.mem_map.mp (pm.mem_iff.mp hv)
    obtain ⟨k, tk, h1, _⟩ := ge e he
    exact ⟨k, tk, h1⟩
  have pk : (vs.map Builtin.Re.reRawOf).Perm (es.toList.map keyOf) := by
    have := pm.map Builtin.Re.reRawOf
    rwa [List.map_map] at this
  have small : vs.length ≤ sizeLine := by
    rw [lv, ← cnt]
    have : es.size < scanBound := room
    have : scanBound ≤ sizeLine := by decide
    omega
  refine wpAny_bind (wpAny_newList ?_ small)
  have gL : (y.heap.push (seqObj "list" vs.toArray 0)).get? y.heap.objs.size = some (seqObj "list" vs.toArray 0) := Heap.get?_push_size _ rfl
  refine wpAny_bind (wpAny_holding (wpAny_call_entry slot_list_sort ⟨_, gL, rfl⟩ entry_list_sort (list_sort_treeAny gL iv small fun out ns a1 a2 a3 => ⟨_, rfl, ?_⟩) (args_list_sort _)))
  obtain ⟨c, hc⟩ := sortedHeap_at (vs := vs) (out := out) gL
  have pn := a2.trans pk
  refine wpAny_pure ⟨_, rfl, q _ y.heap.objs.size out c ns (fun b u e => ?_) g1 o1 zz hc a1 (lt_of_le_nodup ns a3 (pn.nodup_iff.mpr nd)) (fun k => by rw [pn.mem_iff, ← mem k]) (by rw [pn.length_eq, List.length_map, Array.length_toList]; exact cnt)⟩
  have e2 := k1 b u e
  have lt := Heap.lt_size e2
  show (sortedHeap (y.heap.push (seqObj "list" vs.toArray 0)) y.heap.objs.size vs out).get? b = some u
  rw [sortedHeap_old (Nat.ne_of_lt lt) (by rw [size_push']; exact Nat.lt_succ_of_lt lt)]
  exact Heap.get?_push_of_some _ e2
end
/-- the reading: the list's numbers, each once, the least first -/
def tSortedSet (K : PySem.W.Frag) (ta : TE) : TE := fun σ H Q => ta σ H fun x H1 => ∃ (l : Addr) (ks : List Int), x = .ref l ∧ SqL K H1 l (ks.map V.int) ∧ ks.length ≤ 4000 ∧ ∀ (ns : List Int) (p : Addr), ns.Pairwise (· < ·) → (∀ k, k ∈ ns ↔ k ∈ ks) → H1 p = none → Q (.ref p) (upd H1 p (.lst (ns.map V.int)))
theorem pe_sortedSet {X : Cx} {a : Expr} {ta : TE} {p p2 q pos : Pos} (hg : Gl X "sorted") (hm : X.mg "sorted" = none) (hg2 : Gl X "set") (hm2 : X.mg "set" = none) (ha : PE X a ta) (hc : X.calm = true := by rfl)
    (na : starEach [a] X.env = (false, eval a X.env) :: starEach [] X.env := by rfl) : PE X (.Call (.Name "sorted" p) [.Call (.Name "set" p2) [a] [] q] [] pos) (tSortedSet X.K ta) := by
  refine ⟨fun pins s σ H Q I h => ?_⟩
  refine Call_ (ld_blt I hg hm boot_sorted (PyProof.Rows.callWith_builtin1 (PyProof.Rows.args_cons ?_ rfl) rfl rfl))
  refine Call_ (ld_blt I hg2 hm2 boot_set (PyProof.Rows.callWith_type1 (PyProof.Rows.args_cons (thn (ha.run pins s σ H _ I h) fun v s1 ⟨x, H1, I1, r1, q1⟩ => PyProof.Rows.args_nil ?_) na) na rfl))
  obtain ⟨l, ks, rfl, hq, few, q1⟩ := q1
  cases r1
  obtain ⟨its, r, pl, hz⟩ := I1.list hq
  refine nu_set (xs := its.toArray) ks (I1.ok.hd hc) pl.isList (by simpa using r.ints) (by unfold scanBound; omega) fun b g tk c hcc hS hk => PyProof.Rows.args_nil ?_
  have I2 : Inv X pins σ H1 { s1 with heap := g, toks := tk } := I1.kept fun b o e => hk b o e
  refine nu_sorted hS (I2.ok.hd hc) fun y n out c2 ns k g1 o1 hp hg3 hi hs mem hl => ?_
  have hn : H1 n = none := I2.hok.fresh hp
  have hlen : (ns.map V.int).length ≤ sizeLine := by
    rw [List.length_map, hl, sizeLine_eq]
    omega
  have J : Inv X pins σ (upd H1 n (.lst (ns.map V.int))) { ({ s1 with heap := g, toks := tk } : Shared) with heap := y.heap, gens := y.gens, drawn := y.drawn, toks := y.toks } :=
    Inv.call (s := { s1 with heap := g, toks := tk }) I2 (ch := []) (Un.laid k hp hn) (I2.hok.laid k hp ⟨hlen, out.toList, c2, vals_of_ints hi, hg3⟩) (by rw [g1]; exact I2.bare) (fun _ z => nomatch z)
  have e : y = { s1 with heap := y.heap, gens := y.gens, drawn := y.drawn, toks := y.toks } := by
    cases y
    cases s1
    cases o1
    rfl
  rw [e]
  exact ⟨.ref n, _, J, rfl, q1 ns n hs (fun j => by rw [mem j, decide_eq_true_eq]) hn⟩
end L2
/-! Attributes made; new trees put into trees; tests that change something. -/
namespace Tw
open PySem L2
/-! ### numbers, each once, in their order -/
def insU (x : Int) : List Int → List Int
  | [] => [x]
  | y :: ys => if x < y then x :: y :: ys else if x = y then y :: ys else y :: insU x ys
def sortU : List Int → List Int
  | [] => []
  | x :: xs => insU x (sortU xs)
theorem mem_insU {x z : Int} : ∀ {ys : List Int}, z ∈ insU x ys ↔ z = x ∨ z ∈ ys
  | [] => by simp [insU]
  | y :: ys => by
    unfold insU
    split
    · simp
    · split
      · rename_i h; subst h; simp
      · simp only [List.mem_cons, mem_insU (ys := ys)]
        constructor
        · rintro (h | h | h) <;> simp [h]
        · rintro (h | h | h) <;> simp [h]
theorem mem_sortU {z : Int} : ∀ {xs : List Int}, z ∈ sortU xs ↔ z ∈ xs
  | [] => by simp [sortU]
  | x :: xs => by rw [sortU, mem_insU, mem_sortU (xs := xs), List.mem_cons]
theorem pw_insU {x : Int} : ∀ {ys : List Int}, ys.Pairwise (· < ·) → (insU x ys).Pairwise (· < ·)
  | [], _ => by simp [insU]
  | y :: ys, h => by
    obtain ⟨h1, h2⟩ := List.pairwise_cons.mp h
    unfold insU
    split
    · rename_i q
      exact List.pairwise_cons.mpr ⟨fun z hz => by
        rcases List.mem_cons.mp hz with rfl | hz
        · exact q
        · exact Int.lt_trans q (h1 z hz), h⟩
    · split
      · exact h
      · rename_i q1 q2
        refine List.pairwise_cons.mpr ⟨fun z hz => ?_, pw_insU h2⟩
        rcases mem_insU.mp hz with rfl | hz
        · omega
        · exact h1 z hz
theorem pw_sortU : ∀ xs : List Int, (sortU xs).Pairwise (· < ·)
  | [] => List.Pairwise.nil
  | x :: xs => pw_insU (pw_sortU xs)
theorem uniqU : ∀ {xs ys : List Int}, xs.Pairwise (· < ·) → ys.Pairwise (· < ·) → (∀ z, z ∈ xs ↔ z ∈ ys) → xs = ys
  | [], [], _, _, _ => rfl
  | [], y :: ys, _, _, h => absurd ((h y).mpr (by simp)) (by simp)
  | x :: xs, [], _, _, h => absurd ((h x).mp (by simp)) (by simp)
  | x :: xs, y :: ys, h1, h2, h => by
    obtain ⟨a1, b1⟩ := List.pairwise_cons.mp h1
    obtain ⟨a2, b2⟩ := List.pairwise_cons.mp h2
    have e : x = y := by
      have p := (h x).mp (by simp)
      have q := (h y).mpr (by simp)
      rcases List.mem_cons.mp p with p | p
      · exact p
      · rcases List.mem_cons.mp q with q | q
        · exact q.symm
        · have := a1 y q; have := a2 x p; omega
    subst e
    rw [uniqU b1 b2 fun z => ?_]
    have hz := h z
    simp only [List.mem_cons] at hz
    constructor
    · intro m
      rcases hz.mp (.inr m) with r | r
      · subst r; have := a1 z m; omega
      · exact r
    · intro m
      rcases hz.mpr (.inr m) with r | r
      · subst r; have := a2 z m; omega
      · exact r
def osortSet (o : Option (List Int)) : Option (List Int) := o.bind fun xs => if xs.length ≤ 4000 then some (sortU xs) else none
theorem putF_new : ∀ {f : Str} {y : V} {fv : List (Str × V)}, fv.lookup f = none → putF f y fv = fv ++ [(f, y)]
  | f, y, [], _ => rfl
  | f, y, (g, w) :: fv, h => by
    by_cases e : g = f
    · subst e; rw [List.lookup_cons_self] at h; cases h
    · have e2 : (f == g) = false := by simpa using fun z => e z.symm
      rw [List.lookup_cons, e2] at h
      unfold putF
      rw [if_neg e, putF_new h]
      rfl
theorem lookup_keys {α β : Type} {fs : List (Str × α)} {gs : List (Str × β)} {f : Str} (h : fs.map (·.1) = gs.map (·.1)) (n : gs.lookup f = none) : fs.lookup f = none := by
  cases hq : fs.lookup f with
  | none => rfl
  | some u =>
    obtain ⟨i, j1, j2⟩ := lookup_ix hq
    obtain ⟨y, _, j5⟩ := ix_lookup (fs := gs) (f := f) (i := i) (by rw [← kIx_keys h]; exact j1)
    rw [n] at j5
    cases j5
section
variable {K : PySem.W.Frag} {ds es : List Sl} {ta tb tc te td : TE} {tt tu : TT} {tr : TA} {t u w T : TS} {g : TG} {C : V → TS} {m m1 m2 m3 : Md} {α β γ δ κ τ τ' S χ : Type} {out : τ → Out}
theorem sv_none : SvO K ds t (none : Option τ) out := fun _ h => nomatch h
theorem el_sortSet {o : Option (List Int)} (h : EvFl K ds te o) : EvL K ds (L2.tSortedSet K te) (osortSet o) := by
  intro z hz B F M H σ Q E q
  obtain ⟨xs, e1, e2⟩ := bind_some' hz
  split at e2
  · rename_i hl
    cases e2
    refine h xs e1 B F M H σ _ E fun p vs F' H' x hp ra => ?_
    have := RpA.ints (ns := xs) ra
    subst this
    refine ⟨p, xs, rfl, SqL.of hp, hl, fun ns n hs hm hn => ?_⟩
    have : ns = sortU xs := uniqU hs (pw_sortU xs) fun z => by rw [hm, mem_sortU]
    subst this
    exact q n _ F' _ (x.trans (Ext.new0 x.sub hn)) (none_of_same x.sub hn) (none_of_same x.sH hn) upd_same (RpA.ofInts _)
  · cases e2
/-! ### a tree held beside the slots, put into one of them -/
theorem Env.graft {B F M H σ} {uv : V} {od2 : OD} (E : Env K B F M H (some uv :: σ) (.tr uv od2 :: ds)) {i : Nat} {v : V} {od o : OD} {π : List Sp1} (hx : ds[i]? = some (.tr v od)) (hs : subO od π = some o) :
    ∃ (w : V) (m n : List Addr), AtP H v π w ∧ Ow F H w o m ∧ Ow F H uv od2 n ∧ (∀ a ∈ m, a ∉ n) ∧ (∀ a ∈ m, M a) ∧ ∀ H' o' m', (∀ a x, H a = some x → a ∉ m → H' a = some x) → Ow F H' w o' m' → (∀ a ∈ m', a ∈ m ∨ a ∈ n) → (∀ a ∈ m, ∃ x, H' a = some x ∧ ∀ xs, x ≠ .tup xs) → Env K B F M H' σ (ds.set i (.tr v (setO π od o'))) := by
  obtain ⟨foot, f1, f2, f3⟩ := id E.ft
  have hi : i < ds.length := (List.getElem?_eq_some_iff.mp hx).1
  have h0 := f3 0
  obtain ⟨_, n, hN, hn⟩ := h0
  have h3 := f3 (i + 1)
  have h3 : hold K B F H (ds[i]?.getD .no) (σ[i]?) (foot (i + 1)) := h3
  rw [hx] at h3
  obtain ⟨e, ms, hO, hms⟩ := h3
  obtain ⟨w, m, R, g1, g2, g3, g4, g5⟩ := hO.focus E.sF hs
  refine ⟨w, m, n, g1, g2, hN, fun a ha z => ?_, fun a ha => f1 (i + 1) a (hms a ((g3 a).mpr (.inl ha))), fun H' o' m' keep hO' hm' hal => ?_⟩
  · have := f2 (i + 1) 0 a (hms a ((g3 a).mpr (.inl ha))) (hn a z)
    omega
  have ET : Env K B F (fun a => ∃ j, foot (j + 1) a) H σ ds := by
    obtain ⟨len, sB, sF, mB, mF, mH, mT, _⟩ := E
    exact ⟨by simpa using len, sB, sF, fun a ⟨j, z⟩ => mB a (f1 _ a z), fun a ⟨j, z⟩ => mF a (f1 _ a z), fun a ⟨j, z⟩ => mH a (f1 _ a z), fun a xs ⟨j, z⟩ => mT a xs (f1 _ a z), fun j => foot (j + 1), fun j a z => ⟨j, z⟩, fun j k a h1 h2 => by have := f2 _ _ a h1 h2; omega, fun j => f3 (j + 1)⟩
  have nfoot : ∀ a ∈ n, ∀ j, ¬ foot (j + 1) a := fun a ha j z => by have := f2 _ _ a z (hn a ha); omega
  have keepn : ∀ a ∈ n, ∀ x, H a = some x → H' a = some x := fun a ha x z => keep a x z fun y => nfoot a ha i (hms a ((g3 a).mpr (.inl y)))
  have hRn : ∀ a ∈ R, a ∉ m := fun a ha z => g4 a z ha
  obtain ⟨ms', q1, q2⟩ := g5 F H' o' m' (Same.refl _) (fun a ha x z => keep a x z (hRn a ha)) hO' fun a ha z => by
    rcases hm' a ha with y | y
    · exact g4 a y z
    · exact nfoot a y i (hms a ((g3 a).mpr (.inr z)))
  have E2 := ET.chg (N := fun a => a ∈ n) (sl := .tr v (setO π od o')) (H' := H') hi (foot := fun j => foot (j + 1)) (fun j a z => ⟨j, z⟩) (fun j k a h1 h2 => by have := f2 _ _ a h1 h2; omega) (fun j => f3 (j + 1))
    (fun a x z nf => keep a x z fun y => nf (hms a ((g3 a).mpr (.inl y)))) (fun a z => by
      by_cases hm : a ∈ m
      · exact hal a hm
      · rcases z with z | z
        · cases y : H a with
          | none => exact absurd y (E.mH a (f1 _ a z))
          | some x => exact ⟨x, keep a x y hm, fun xs q => E.mT a xs (f1 _ a z) (by rw [y, q])⟩
        · obtain ⟨x, y, q⟩ := hN.at a z
          exact ⟨x, keepn a z x y, q⟩) (fun a z => E.mB a (f1 0 a (hn a z))) (fun a z => E.mF a (f1 0 a (hn a z))) nfoot ⟨e, ms', q1, fun a ha => by
        rcases (q2 a).mp ha with y | y
        · rcases hm' a y with z | z
          · exact .inl (hms a ((g3 a).mpr (.inl z)))
          · exact .inr z
        · exact .inl (hms a ((g3 a).mpr (.inr y)))⟩
  -- the footprint may be told larger
  obtain ⟨len, sB, sF, mB, mF, mH, mT, ft, t1, t2, t3⟩ := E2
  have sM : ∀ a, M a → ∃ x, H' a = some x ∧ ∀ xs, x ≠ .tup xs := fun a z => by
    by_cases hm : a ∈ m
    · exact hal a hm
    · cases y : H a with
      | none => exact absurd y (E.mH a z)
      | some x => exact ⟨x, keep a x y hm, fun xs q => E.mT a xs z (by rw [y, q])⟩
  refine ⟨len, sB, sF, fun a z => E.mB a z, fun a z => E.mF a z, fun a z => ?_, fun a xs z => ?_, ft, fun j a z => ?_, t2, t3⟩
  · obtain ⟨x, y, _⟩ := sM a z
    rw [y]; exact fun z => nomatch z
  · obtain ⟨x, y, q⟩ := sM a z
    rw [y]; exact fun z => q xs (Option.some.inj z)
  · rcases t1 j a z with ⟨k, y⟩ | y
    · exact f1 _ a y
    · exact f1 0 a (hn a y)
/-- a new tree, held beside the slots -/
theorem Env.held {B F M H F' H' σ} (E : Env K B F M H σ ds) (x : Ext F H F' H') {uv : V} {od2 : OD} {ms : List Addr} (hO : Ow F' H' uv od2 ms) (hf : ∀ a ∈ ms, F' a = none ∧ H a = none) :
    Env K B F' (fun a => M a ∨ a ∈ ms) H' (some uv :: σ) (.tr uv od2 :: ds) ∧ Stp F M H F' (fun a => M a ∨ a ∈ ms) H' :=
  ⟨(E.ext x).head (fun a z => none_of_same E.sB (hf a z).2) (fun a z => (hf a z).1) (fun a z w => E.mH a w (hf a z).2) (fun a z => hO.at a z) ⟨rfl, ms, hO, fun a z => z⟩, ⟨x.sF, fun a z => (x.new a z).imp_right .inl, fun b o z _ => x.sH b o z, fun a z => z.imp_right fun z => (hf a z).2⟩⟩
/-! ### attributes that are made -/
theorem si_fldV [Em γ] {i : Nat} {v : V} {Cl : Addr} {fs : List (Str × OD)} {f : Str} {o : Option γ} {r : γ → Option τ} (hx : ds[i]? = some (.tr v (.ins Cl fs))) (cl : Cls K Cl) (na : NoAttr K Cl f) (hn : fs.lookup f = none) (hl : fs.length < 1000) (h : EvO K ds .f tc o) (k : ∀ y, SvO K (ds.set i (.tr v (.ins Cl (fs ++ [(f, eV y)])))) u (r y) out) :
    SvO K ds (tSeq (sFld K (tVar i) tc f) u) (o.bind r) out := fun z hz B F M H σ D E fin => by
  obtain ⟨y, e1, e2⟩ := bind_some' hz
  refine h y e1 B F M H σ _ E fun vy F1 H1 x1 ry => ⟨v, E.slotv hx, ?_⟩
  obtain ⟨w, m, g1, g2, g3, g4⟩ := (E.ext x1).mut0 hx (subO_nil _)
  cases g1
  cases g2 with
  | @ins p dx C fv xs ms' hp hdx r' hk hnp hn2 hn3 =>
    have hl2 : fv.length = fs.length := by have := congrArg List.length hk; simpa using this
    refine ⟨p, Cl, dx, fv, rfl, hp, cl, na, by rw [hl2]; exact hl, ?_⟩
    rw [putF_new (lookup_keys hk hn)]
    have hH : ∀ a ∈ ms', ∀ x, H1 a = some x → upd H1 p (.ins Cl dx (fv ++ [(f, vy)])) a = some x := fun a ha x z => by
      rw [upd_ne fun q => hnp (by rw [← q]; exact ha)]; exact z
    have hnew : Ow F1 (upd H1 p (.ins Cl dx (fv ++ [(f, vy)]))) (.ref p) (.ins Cl (fs ++ [(f, eV y)])) (p :: dx :: (ms' ++ [])) := by
      refine .ins upd_same (by rw [upd_ne fun e => hn3 e.symm]; exact hdx) ?_ (by rw [List.map_append, List.map_append, hk]; rfl) (by simpa using hnp) (by simpa using hn2) hn3
      rw [List.map_append, List.map_append]
      exact (r'.mono (Same.refl _) hH).app (.cons (m1 := []) (m2 := []) (.v ry) .nil fun a ha => by cases ha) fun a _ ha => by cases ha
    have E2 := g4 _ _ (p :: dx :: (ms' ++ [])) (keep1 (by simp)) hnew (fun a ha => by simpa using ha) (al1 (.ins hp hdx r' hk hnp hn2 hn3) fun _ z => nomatch z)
    exact k y z e2 B F1 M _ σ D E2 ((fin.ext x1).step (.of1 (g3 p (by simp))))
theorem si_fldN {i : Nat} {v : V} {Cl : Addr} {fs : List (Str × OD)} {f : Str} {e : γ → OD} {o : Option γ} {r : γ → Option τ} (hx : ds[i]? = some (.tr v (.ins Cl fs))) (cl : Cls K Cl) (na : NoAttr K Cl f) (hn : fs.lookup f = none) (hl : fs.length < 1000) (h : EvOw K ds tc e o) (k : ∀ y, SvO K (ds.set i (.tr v (.ins Cl (fs ++ [(f, e y)])))) u (r y) out) :
    SvO K ds (tSeq (sFld K (tVar i) tc f) u) (o.bind r) out := fun z hz B F M H σ D E fin => by
  obtain ⟨y, e1, e2⟩ := bind_some' hz
  refine h y e1 B F M H σ _ E fun vy ns F1 H1 x1 hO hf => ⟨v, E.slotv hx, ?_⟩
  obtain ⟨E1, st⟩ := E.held x1 hO hf
  obtain ⟨w, m, n, g1, g2, gN, dj, g3, g4⟩ := E1.graft hx (subO_nil _)
  cases g1
  cases g2 with
  | @ins p dx C fv xs ms' hp hdx r' hk hnp hn2 hn3 =>
    have hl2 : fv.length = fs.length := by have := congrArg List.length hk; simpa using this
    refine ⟨p, Cl, dx, fv, rfl, hp, cl, na, by rw [hl2]; exact hl, ?_⟩
    rw [putF_new (lookup_keys hk hn)]
    have pn : p ∉ n := dj p (by simp)
    have dn : dx ∉ n := dj dx (by simp)
    have hH : ∀ a, a ≠ p → ∀ x, H1 a = some x → upd H1 p (.ins Cl dx (fv ++ [(f, vy)])) a = some x := fun a ha x z => by
      rw [upd_ne ha]; exact z
    have hnew : Ow F1 (upd H1 p (.ins Cl dx (fv ++ [(f, vy)]))) (.ref p) (.ins Cl (fs ++ [(f, e y)])) (p :: dx :: (ms' ++ (n ++ []))) := by
      refine .ins upd_same (by rw [upd_ne fun e => hn3 e.symm]; exact hdx) ?_ (by rw [List.map_append, List.map_append, hk]; rfl) (by simp [hnp, pn]) (by simp [hn2, dn]) hn3
      rw [List.map_append, List.map_append]
      exact (r'.mono (Same.refl _) fun a ha => hH a fun q => hnp (by rw [← q]; exact ha)).app (.cons (gN.mono (Same.refl _) fun a ha => hH a fun q => pn (by rw [← q]; exact ha)) .nil fun a _ ha => by cases ha) fun a ha => by
        rw [List.append_nil]
        exact dj a (by simp [ha])
    have E2 := g4 _ _ (p :: dx :: (ms' ++ (n ++ []))) (keep1 (by simp)) hnew (fun a ha => by simpa [or_assoc] using ha) (al1 (.ins hp hdx r' hk hnp hn2 hn3) fun _ z => nomatch z)
    exact k y z e2 B F1 _ _ σ D E2 ((fin.step st).step (.of1 (g3 p (by simp))))
/-- xs.append(a new tree) -/
theorem sl_appN {i : Nat} {v : V} {e0 : α → OD} {x : α} {e : β → OD} {ol : Option (Loc α (List β))} {o : Option β} {r : α → Option τ} (lo : EvLoc K ds i v te e0 x (eL e) ol) (h : EvOw K ds tb e o) (k : ∀ z, SvO K (ds.set i (.tr v (e0 z))) u (r z) out) :
    SvO K ds (tSeq (tDrop (tBM K "list" rAppend te (tCons tb tNil))) u) ((ol.bind fun l => o.bind fun y => (oapp l.y y).map l.upd).bind r) out := fun z hz B F M H σ D E fin => by
  obtain ⟨z1, e1, e2⟩ := bind_some' hz
  obtain ⟨l, e3, e1⟩ := bind_some' e1
  obtain ⟨y, e4, e1⟩ := bind_some' e1
  cases e5 : oapp l.y y with
  | none => rw [e5] at e1; cases e1
  | some ys =>
    rw [e5] at e1
    cases e1
    obtain ⟨π, l1, l2, l3⟩ := lo.2 l e3
    refine l3 B F M H σ _ E fun w F1 H1 x1 hat => ?_
    have E1 := E.ext x1
    obtain ⟨w', m', a1, a2, _, _⟩ := E1.mut0 lo.1 l1
    have hww : w = w' := hat.uniq a1
    subst hww
    obtain ⟨p, vs, ms', rfl, hp, _, _, _⟩ := ow_list a2
    refine ⟨.inl ⟨rfl, vs, SqL.of hp⟩, h y e4 B F1 M H1 σ _ E1 fun vy ns F2 H2 x2 hO hf => ?_⟩
    obtain ⟨E2, st⟩ := E1.held x2 hO hf
    obtain ⟨w2, m2, n, g1, g2, gN, dj, g3, g4⟩ := E2.graft lo.1 l1
    have hww2 : V.ref p = w2 := (hat.mono x2.sH).uniq g1
    subst hww2
    obtain ⟨p', vs', ms2, hpe, hp', r', hn', rfl⟩ := ow_list g2
    cases hpe
    unfold oapp at e5
    split at e5
    · rename_i hlen
      cases e5
      refine ⟨p, vs', vy, rfl, rfl, hp', Nat.lt_of_lt_of_le (by rw [r'.len, List.length_map]; exact hlen) (by decide : 100000 ≤ sizeLine), ?_⟩
      have pn : p ∉ n := dj p (by simp)
      have hH : ∀ a, a ≠ p → ∀ x, H2 a = some x → upd H2 p (.lst (vs' ++ [vy])) a = some x := fun a ha x z => by rw [upd_ne ha]; exact z
      have hnew : Ow F2 (upd H2 p (.lst (vs' ++ [vy]))) (.ref p) (eL e (l.y ++ [y])) (p :: (ms2 ++ (n ++ []))) := by
        unfold eL
        rw [List.map_append]
        exact .lst upd_same ((r'.mono (Same.refl _) fun a ha => hH a fun q => hn' (by rw [← q]; exact ha)).app (.cons (gN.mono (Same.refl _) fun a ha => hH a fun q => pn (by rw [← q]; exact ha)) .nil fun a _ ha => by cases ha) fun a ha => by
          rw [List.append_nil]
          exact dj a (by simp [ha])) (by simp [hn', pn])
      have E3 := g4 _ _ _ (keep1 (by simp)) hnew (fun a ha => by simpa [or_assoc] using ha) (al1 g2 fun _ z => nomatch z)
      rw [l2] at E3
      exact k _ z e2 B F2 _ _ σ D E3 ((fin.ext x1).step (st.trans (.of1 (g3 p (by simp)))))
    · cases e5
/-! ### tests that change something -/
def EvTX (K : PySem.W.Frag) (ds : List Sl) (tt : TT) (o : Option (S × Bool)) (d : S → List Sl) : Prop := ∀ t, o = some t → ∀ B F M H σ Q, Env K B F M H σ ds → (∀ F' M' H', Stp F M H F' M' H' → Env K B F' M' H' σ (d t.1) → Q t.2 H') → tt σ H Q
theorem etx_x {o : Option (S × Bool)} {d : S → List Sl} (h : EvX K ds te o fun z => .vl (.val (em z.2)) (d z.1)) : EvTX K ds (tTest te) o d := fun z hz B F M H σ Q E q =>
  h z hz B F M H σ _ E fun F' M' H' v st E' => by
    obtain ⟨_, _, w, e, r⟩ := E'.at (i := 0) rfl
    cases e
    rw [rp_bool r]
    exact ⟨_, rfl, q F' M' H' st E'.tail⟩
theorem etx_not {o : Option (S × Bool)} {d : S → List Sl} (h : EvTX K ds tt o d) : EvTX K ds (tNot tt) (o.map fun z => (z.1, !z.2)) d := fun z hz B F M H σ Q E q => by
  cases o with
  | none => cases hz
  | some y =>
    cases hz
    exact h y rfl B F M H σ _ E fun F' M' H' st E' => q F' M' H' st E'
/-- the left one changes something, the right one does not -/
theorem etx_orP {o : Option (S × Bool)} {d : S → List Sl} {c : S → Option Bool} (h : EvTX K ds tt o d) (h2 : ∀ s, EvT K (d s) tu (c s)) : EvTX K ds (tOr tt tu) (o.bind fun z => if z.2 then some (z.1, true) else (c z.1).map fun b => (z.1, b)) d := fun z hz B F M H σ Q E q => by
  obtain ⟨y, e1, e2⟩ := bind_some' hz
  refine h y e1 B F M H σ _ E fun F' M' H' st E' => ?_
  obtain ⟨s, b⟩ := y
  cases b with
  | true => cases e2; exact q F' M' H' st E'
  | false =>
    have e2 : (c s).map (fun b => (s, b)) = some z := e2
    cases hc : c s with
    | none => rw [hc] at e2; cases e2
    | some b =>
      rw [hc] at e2
      cases e2
      exact h2 s b hc B F' M' H' σ _ E' fun F2 H2 x => q F2 M' H2 (st.trans (.ofExt x)) (E'.ext x)
theorem etx_andP {o : Option (S × Bool)} {d : S → List Sl} {c : S → Option Bool} (h : EvTX K ds tt o d) (h2 : ∀ s, EvT K (d s) tu (c s)) : EvTX K ds (tAnd tt tu) (o.bind fun z => if z.2 then (c z.1).map fun b => (z.1, b) else some (z.1, false)) d := fun z hz B F M H σ Q E q => by
  obtain ⟨y, e1, e2⟩ := bind_some' hz
  refine h y e1 B F M H σ _ E fun F' M' H' st E' => ?_
  obtain ⟨s, b⟩ := y
  cases b with
  | false => cases e2; exact q F' M' H' st E'
  | true =>
    have e2 : (c s).map (fun b => (s, b)) = some z := e2
    cases hc : c s with
    | none => rw [hc] at e2; cases e2
    | some b =>
      rw [hc] at e2
      cases e2
      exact h2 s b hc B F' M' H' σ _ E' fun F2 H2 x => q F2 M' H2 (st.trans (.ofExt x)) (E'.ext x)
/-- the left one does not change anything, the right one does; s0 is how things stand -/
theorem etx_orQ {o : Option Bool} {o2 : Option (S × Bool)} {d : S → List Sl} (s0 : S) (hs : d s0 = ds) (h : EvT K ds tt o) (h2 : EvTX K ds tu o2 d) : EvTX K ds (tOr tt tu) (o.bind fun b => if b then some (s0, true) else o2) d := fun z hz B F M H σ Q E q => by
  obtain ⟨b, e1, e2⟩ := bind_some' hz
  refine h b e1 B F M H σ _ E fun F1 H1 x => ?_
  cases b with
  | true => cases e2; exact q F1 M H1 (.ofExt x) (by rw [hs]; exact E.ext x)
  | false => exact h2 z e2 B F1 M H1 σ _ (E.ext x) fun F' M' H' st E' => q F' M' H' (x.stp st) E'
theorem etx_andQ {o : Option Bool} {o2 : Option (S × Bool)} {d : S → List Sl} (s0 : S) (hs : d s0 = ds) (h : EvT K ds tt o) (h2 : EvTX K ds tu o2 d) : EvTX K ds (tAnd tt tu) (o.bind fun b => if b then o2 else some (s0, false)) d := fun z hz B F M H σ Q E q => by
  obtain ⟨b, e1, e2⟩ := bind_some' hz
  refine h b e1 B F M H σ _ E fun F1 H1 x => ?_
  cases b with
  | false => cases e2; exact q F1 M H1 (.ofExt x) (by rw [hs]; exact E.ext x)
  | true => exact h2 z e2 B F1 M H1 σ _ (E.ext x) fun F' M' H' st E' => q F' M' H' (x.stp st) E'
theorem sv_ifX {o : Option (S × Bool)} {d : S → List Sl} {r1 r2 : S → Option τ} (h : EvTX K ds tt o d) (h1 : ∀ s, SvO K (d s) (tSeq t u) (r1 s) out) (h2 : ∀ s, SvO K (d s) (tSeq w u) (r2 s) out) : SvO K ds (tSeq (tIfS tt t w) u) (o.bind fun z => if z.2 then r1 z.1 else r2 z.1) out := fun z hz B F M H σ D E fin => by
  obtain ⟨y, e1, e2⟩ := bind_some' hz
  refine h y e1 B F M H σ _ E fun F' M' H' st E' => ?_
  obtain ⟨s, b⟩ := y
  cases b with
  | true => exact h1 s z e2 B F' M' H' σ D E' (fin.step st)
  | false => exact h2 s z e2 B F' M' H' σ D E' (fin.step st)
theorem ex_map {o : Option τ} {ox : τ → OX} {ox' : τ' → OX} (n : τ → τ') (h : EvX K ds te o ox) (e : ∀ t, ox t = ox' (n t)) : EvX K ds te (o.map n) ox' := fun z hz B F M H σ Q E f => by
  cases o with
  | none => cases hz
  | some y =>
    cases hz
    exact h y rfl B F M H σ Q E (by rw [e]; exact f)
/-- two values, in slots of their own -/
theorem Env.two {B F M H σ} (E : Env K B F M H σ ds) {x y : V} {a b : PyData} (ra : Rp F x a) (rb : Rp F y b) : Env K B F M H [some x, some y] [.val a, .val b] := by
  obtain ⟨len, sB, sF, mB, mF, mH, mT, _⟩ := E
  exact ⟨rfl, sB, sF, mB, mF, mH, mT, fun _ _ => False, fun _ _ z => z.elim, fun _ _ _ z => z.elim, fun i => match i with
    | 0 => ⟨x, rfl, ra⟩
    | 1 => ⟨y, rfl, rb⟩
    | i + 2 => trivial⟩
/-- an operator whose left side changes something -/
theorem ex_op {r : L2.R2} [Em α] [Em β] [Em γ] {o1 : Option (S × α)} {d : S → List Sl} {o2 : S → Option β} {f : α → β → Option γ} (h1 : EvX K ds ta o1 fun z => .vl (.val (em z.2)) (d z.1)) (h2 : ∀ s, EvO K (d s) .f tb (o2 s)) (hop : ∀ a b, EvO K [.val (em a), .val (em b)] .f (tOp r (tVar 0) (tVar 1)) (f a b)) :
    EvX K ds (tOp r ta tb) (o1.bind fun z => (o2 z.1).bind fun b => (f z.2 b).map fun c => (z.1, c)) fun z => .vl (.val (em z.2)) (d z.1) := fun z hz B F M H σ Q E fin => by
  obtain ⟨y, e1, hz⟩ := bind_some' hz
  obtain ⟨b, e2, hz⟩ := bind_some' hz
  cases e3 : f y.2 b with
  | none => rw [e3] at hz; cases hz
  | some c =>
    rw [e3] at hz
    cases hz
    refine h1 y e1 B F M H σ _ E fun F1 M1 H1 v1 st1 E1 => ?_
    obtain ⟨_, _, w, ew, rw1⟩ := E1.at (i := 0) rfl
    cases ew
    refine h2 y.1 b e2 B F1 M1 H1 σ _ E1.tail fun v2 F2 H2 x2 r2 => ?_
    have E2 := E1.tail.ext x2
    obtain ⟨w1, g1, w2, g2, g3⟩ := hop y.2 b c e3 B F2 M1 H2 [some v1, some v2] Q (E2.two (rw1.mono x2.sF) r2) fun v3 F3 H3 x3 r3 => fin F3 M1 H3 v3 (st1.trans ((Stp.ofExt x2).trans (.ofExt x3))) ((E2.ext x3).head0 r3)
    cases g1
    cases g2
    exact g3
theorem eo_dnewI {e : β → OD} : EvOw K ds tDNewK (eD (κ := Int) e) (some []) := fun y hy B F M H σ Q E q => by
  cases hy
  exact fun p hp => q (.ref p) [p] F _ (Ext.new0 E.sF hp) (Ky.mkd (κ := Int) (kv := []) upd_same .nil rfl List.not_mem_nil) fun a ha => by
    rw [List.mem_singleton] at ha
    subst ha
    exact ⟨none_of_same E.sF hp, hp⟩
theorem eo_dnewP {e : β → OD} : EvOw K ds tDNewT (eD (κ := PP) e) (some []) := fun y hy B F M H σ Q E q => by
  cases hy
  exact fun p hp => q (.ref p) [p] F _ (Ext.new0 E.sF hp) (Ky.mkd (κ := PP) (kv := []) upd_same .nil rfl List.not_mem_nil) fun a ha => by
    rw [List.mem_singleton] at ha
    subst ha
    exact ⟨none_of_same E.sF hp, hp⟩
end
end Tw
/-! Attributes by name; own trees frozen, handed back. -/
namespace Tw
open PySem L2
theorem lk_here {α : Type} {k : Str} {v : α} {r : List (Str × α)} : List.lookup k ((k, v) :: r) = some v := List.lookup_cons_self
theorem lk_past {α : Type} {k g : Str} {v : α} {r : List (Str × α)} (h : (k == g) = false) : List.lookup k ((g, v) :: r) = List.lookup k r := by simp only [List.lookup, h]
theorem kIx_here {α : Type} {k : Str} {v : α} {r : List (Str × α)} : kIx ((k, v) :: r) k = some 0 := if_pos rfl
theorem kIx_past {α : Type} {k g : Str} {v : α} {r : List (Str × α)} {i : Nat} (h : (k == g) = false) (e : kIx r k = some i) : kIx ((g, v) :: r) k = some (i + 1) := by
  unfold kIx
  rw [if_neg (by simpa using h), e]
  rfl
theorem st_mk {C : Addr} {fs : List (Str × OD)} {f : Str} {i : Nat} {x : Str × OD} {o : OD} (h : kIx fs f = some i) (h2 : fs[i]? = some x) : setO [.fld f] (.ins C fs) o = .ins C (fs.set i (x.1, o)) := by
  show OD.ins C (match kIx fs f with | some i => (match fs[i]? with | some x => fs.set i (x.1, setO [] x.2 o) | none => fs) | none => fs) = _
  rw [h]
  simp only [h2]
  rfl
def isNd : PyData → Bool
  | .none => true
  | _ => false
section
variable {K : PySem.W.Frag} {ds es : List Sl} {ta tb tc te td : TE} {tt tu : TT} {tr : TA} {t u w T : TS} {g : TG} {C : V → TS} {m m1 m2 m3 : Md} {α β γ δ κ τ τ' S χ : Type} {out : τ → Out}
theorem rp_isN {F : Hp} {v : V} {d : PyData} (h : Rp F v d) : decide (v = .non) = isNd d := by
  cases h <;> rfl
theorem ex_isN [Em α] {r : L2.R2} {o1 : Option (S × α)} {d : S → List Sl} (h1 : EvX K ds ta o1 fun z => .vl (.val (em z.2)) (d z.1)) (hr : ∀ x H Q, Q (.bl (decide (x = .non))) H → r x .non H Q) :
    EvX K ds (tOp r ta (tC .non)) (o1.map fun z => (z.1, isNd (em z.2))) fun z => .vl (.val (em z.2)) (d z.1) := fun z hz B F M H σ Q E fin => by
  cases o1 with
  | none => cases hz
  | some y =>
    cases hz
    refine h1 y rfl B F M H σ _ E fun F1 M1 H1 v1 st1 E1 => ?_
    obtain ⟨_, _, w, ew, rw1⟩ := E1.at (i := 0) rfl
    cases ew
    refine hr v1 H1 Q ?_
    rw [rp_isN rw1]
    exact fin F1 M1 H1 _ st1 (E1.tail.head0 (.bl _))
theorem ex_notN [Em α] {r : L2.R2} {o1 : Option (S × α)} {d : S → List Sl} (h1 : EvX K ds ta o1 fun z => .vl (.val (em z.2)) (d z.1)) (hr : ∀ x H Q, Q (.bl (!decide (x = .non))) H → r x .non H Q) :
    EvX K ds (tOp r ta (tC .non)) (o1.map fun z => (z.1, !isNd (em z.2))) fun z => .vl (.val (em z.2)) (d z.1) := fun z hz B F M H σ Q E fin => by
  cases o1 with
  | none => cases hz
  | some y =>
    cases hz
    refine h1 y rfl B F M H σ _ E fun F1 M1 H1 v1 st1 E1 => ?_
    obtain ⟨_, _, w, ew, rw1⟩ := E1.at (i := 0) rfl
    cases ew
    refine hr v1 H1 Q ?_
    rw [rp_isN rw1]
    exact fin F1 M1 H1 _ st1 (E1.tail.head0 (.bl _))
/-- an own tree that is data, frozen -/
theorem sv_frz [Em α] {i : Nat} {v : V} {e : α → OD} {x : α} {o : Option τ} (hi : i < ds.length) (hx : ds[i]? = some (.tr v (e x))) (hd : Dat e) (k : SvO K (ds.set i (.val (em x))) u o out) : SvO K ds u o out := fun z hz B F M H σ D E fin => by
  obtain ⟨len, sB, sF, mB, mF, mH, mT, foot, f1, f2, f3⟩ := id E
  have h3 := f3 i
  rw [hx] at h3
  obtain ⟨e1, ms, hO, hms⟩ := h3
  have inM : ∀ a ∈ ms, M a := fun a ha => f1 i a (hms a ha)
  have s1 : Same F (addF F H ms) := fun a o z => by
    rw [addF_out fun w => by rw [mF a (inM a w)] at z; cases z]; exact z
  have s2 : Same (addF F H ms) H := fun a o z => by
    by_cases hb : a ∈ ms
    · rw [addF_in hb] at z; exact z
    · rw [addF_out hb] at z; exact sF a o z
  have rp : Rp (addF F H ms) v (em x) := hO.toRp s1 (fun a ha o z => by rw [addF_in ha]; exact z) (hd x)
  refine k z hz B (addF F H ms) (fun a => M a ∧ a ∉ ms) H σ D ⟨by rw [List.length_set, len], sB, s2, fun a z => mB a z.1, fun a z => ?_, fun a z => mH a z.1, fun a xs z => mT a xs z.1, fun j a => foot j a ∧ a ∉ ms, fun j a z => ⟨f1 j a z.1, z.2⟩, fun j k a z z' => f2 j k a z.1 z'.1, fun j => ?_⟩ (fin.step ⟨s1, fun a z => ?_, fun b o z _ => z, fun a z => .inl z.1⟩)
  · rw [addF_out z.2]; exact mF a z.1
  · rw [getD_set ds i j _ hi]
    by_cases hj : j = i
    · subst hj; rw [if_pos rfl]; exact ⟨v, e1, rp⟩
    · rw [if_neg hj]
      have : (fun a => foot j a ∧ a ∉ ms) = foot j := by
        funext a
        exact propext ⟨fun z => z.1, fun z => ⟨z, fun w => hj (f2 j i a z (hms a w))⟩⟩
      show hold K B _ H _ _ (fun a => foot j a ∧ a ∉ ms)
      rw [this]
      exact (f3 j).mono s1 (fun a o _ z => z) sF s2
  · by_cases hb : a ∈ ms
    · exact .inr (.inr (inM a hb))
    · rw [addF_out hb] at z; exact .inl z
/-- what a slot owns, taken out of it -/
theorem Env.take {B F M H σ} (E : Env K B F M H σ ds) {i : Nat} {v : V} {od : OD} (hi : i < ds.length) (hx : ds[i]? = some (.tr v od)) : Env K B F M H (some v :: σ) (.ow od :: ds.set i .no) := by
  obtain ⟨len, sB, sF, mB, mF, mH, mT, foot, f1, f2, f3⟩ := E
  have h3 := f3 i
  rw [hx] at h3
  obtain ⟨e1, h4⟩ := h3
  refine ⟨by simp [len], sB, sF, mB, mF, mH, mT, fun j a => match j with | 0 => foot i a | j + 1 => foot j a ∧ j ≠ i, fun j a z => ?_, fun j k a z z' => ?_, fun j => ?_⟩
  · cases j with
    | zero => exact f1 i a z
    | succ j => exact f1 j a z.1
  · cases j with
    | zero =>
      cases k with
      | zero => rfl
      | succ k => exact absurd (f2 i k a z z'.1).symm z'.2
    | succ j =>
      cases k with
      | zero => exact absurd (f2 i j a z' z.1).symm z.2
      | succ k => rw [f2 j k a z.1 z'.1]
  · cases j with
    | zero => exact ⟨v, rfl, h4⟩
    | succ j =>
      show hold K B F H ((ds.set i .no)[j]?.getD .no) (σ[j]?) (fun a => foot j a ∧ j ≠ i)
      rw [getD_set ds i j _ hi]
      by_cases hj : j = i
      · rw [if_pos hj]; trivial
      · rw [if_neg hj]
        have : (fun a => foot j a ∧ j ≠ i) = foot j := by
          funext a
          exact propext ⟨fun z => z.1, fun z => ⟨z, hj⟩⟩
        rw [this]
        exact f3 j
theorem sv_retT {i : Nat} {v : V} {e : β → OD} {x : β} {z : τ} (hi : i < ds.length) (hx : ds[i]? = some (.tr v (e x))) (ho : out z = .rd (.ow (e x)) es) (l : Le (ds.set i .no) es) : SvO K ds (tRet (tVar i)) (some z) out := fun z' hz B F M H σ D E fin => by
  cases hz
  rw [ho] at fin
  exact ⟨v, E.slotv hx, fin F M H v σ .refl ((E.take hi hx).le (.same l))⟩
theorem sv_retW {i : Nat} {e : β → OD} {x : β} {z : τ} (hi : i < ds.length) (hx : ds[i]? = some (.ow (e x))) (ho : out z = .rd (.ow (e x)) es) (l : Le (ds.set i .no) es) : SvO K ds (tRet (tVar i)) (some z) out :=
  sv_open hi hx fun v => sv_retT (v := v) (by rw [List.length_set]; exact hi) (List.getElem?_set_self hi) ho (by rw [List.set_set]; exact l)
theorem sx_ret {s : τ' → Sl} {d : τ' → List Sl} {o : Option τ'} {r : τ' → Option τ} (h : EvX K ds te o fun t => .vl (s t) (d t)) (k : ∀ t, SvV K (s t) (d t) (fun v D σ H => D.rt v H) (r t) out) : SvO K ds (tRet te) (o.bind r) out := sxv h (fun D σ H q => q) k
theorem sx_expr {s : τ' → Sl} {d : τ' → List Sl} {o : Option τ'} {r : τ' → Option τ} (h : EvX K ds te o fun t => .vl (s t) (d t)) (k : ∀ t, SvO K (d t) u (r t) out) : SvO K ds (tSeq (tDrop te) u) (o.bind r) out := sxv (C := fun _ => u) h (fun D σ H q => q) fun t => vv_drop (k t)
theorem sx_asg {i : Nat} {s : τ' → Sl} {d : τ' → List Sl} {o : Option τ'} {r : τ' → Option τ} (hi : ∀ t, i < (d t).length) (h : EvX K ds te o fun t => .vl (s t) (d t)) (k : ∀ t, SvO K ((d t).set i (s t)) u (r t) out) : SvO K ds (tSeq (tAsg te (gName i)) u) (o.bind r) out := sxv (C := fun v D σ H => u D (σ.set i (some v)) H) h (fun D σ H q => q) fun t => vv_asg (hi t) (k t)
/-- xs.pop() as an answer -/
theorem ex_lpop [Em β] {i : Nat} {v : V} {e0 : α → OD} {x : α} {ol : Option (Loc α (List β))} (lo : EvLoc K ds i v te e0 x (eL eV) ol) :
    EvX K ds (tBM0 K "list" rPop te) (ol.bind fun l => (opop l.y).map fun z => (l.upd z.2, z.1)) fun z => .vl (.val (em z.2)) (ds.set i (.tr v (e0 z.1))) := fun z hz B F M H σ Q E fin => by
  obtain ⟨l, e3, e1⟩ := bind_some' hz
  cases e5 : opop l.y with
  | none => rw [e5] at e1; cases e1
  | some y =>
    rw [e5] at e1
    cases e1
    refine lo.run e3 E fun w F1 H1 x1 hw => ?_
    obtain ⟨m1, hO1, hM, up⟩ := hw F1 H1 (Ext.refl x1.sub)
    obtain ⟨p, vs, ms', rfl, hp, r', _, rfl⟩ := ow_list hO1
    obtain ⟨ra, rfl⟩ := r'.vals
    unfold opop at e5
    cases e6 : l.y.getLast? with
    | none => rw [e6] at e5; cases e5
    | some u =>
      rw [e6] at e5
      cases e5
      obtain ⟨vu, hv, ru⟩ := ra.last (d := em u) (by rw [List.getLast?_map, e6]; rfl)
      refine ⟨.inl ⟨rfl, vs, SqL.of hp⟩, p, vs, vu, rfl, rfl, hp, hv, ?_⟩
      have hnew : Ow F1 (upd H1 p (.lst vs.dropLast)) (.ref p) (eL eV l.y.dropLast) [p] := .lst upd_same (OwL.ofVals (by rw [List.map_dropLast]; exact ra.dropLast)) List.not_mem_nil
      have E3 := up _ _ [p] (keep1 (by simp)) hnew (fun a ha => ha) (al1 hO1 fun _ z => nomatch z)
      exact fin F1 M _ vu ((Stp.ofExt x1).trans (.of1 (hM p (by simp)))) (E3.head0 ru)
end
end Tw
/-! list(reversed(xs)) of a list. -/
namespace L2
open PySem PySem.Spec PyProof.Rows
section
variable {P : Program} {w : World} {A : Around} {E : Value → Shared → Prop} {z : Shared}
/-- a list, still empty, is filled from its own second going back through another one -/
theorem rv_fill {S i l : Addr} {xs : Array Value} {c : Nat} {res : Value} {R : Result → Shared → Prop} (free : A.handled = none) (gi : z.heap.IsRevIter i l ((xs.size : Int) - 1)) (gl : z.heap.IsList l xs) (li : l ≠ i) (Si : S ≠ i) (Sl : S ≠ l)
    (fit : xs.size ≤ sizeLine) (gS : z.heap.get? S = some { cls := .type "list", data := .seq #[] c })
    (q : ∀ (g : Heap) (tk : Nat) (ys : Array Value) (c' : Nat), (∀ b o, b ≠ i → b ≠ S → z.heap.get? b = some o → g.get? b = some o) → g.get? S = some { cls := .type "list", dict := none, data := .seq ys c', slots := #[] } →
      ItemsOf (fun j v => xs[xs.size - 1 - j]? = some v) ys xs.size → R (.ok (.ret res)) { z with heap := g, toks := tk }) :
    wpAny (model P w) A.in1 (Builtin.List.listExtendWith (.ref S) (.ref i) res)
      (fun fin y => match fin with | .done f => R (.ok f) y | .again c2 => c2.quiet = true ∧ codeAny (model P w) A c2 R y) (fun e y => R (.error e) y) z := by
  have W := (Walks.listRev (prog := P) (w := w) (A := A.in1) (by simp [free]) i l li xs).toS
  have out : S ∉ [i, l] := by simp [Si, Sl]
  have ty : z.TypeIs (.ref i) "list_reverseiterator" := gi.typeIs
  have d1 : Builtin.List.listSameRef (.ref S) (.ref i) = false := by simp [Builtin.List.listSameRef, Si]
  unfold Builtin.List.listExtendWith
  refine wpAny_bind (wpAny_typeOf ty ?_)
  rw [if_neg (by rw [d1]; decide)]
  refine wpAny_bind (wpAny_pyIter_revIter gi (wpAny_bind (wpAny_holding ?_)))
  unfold Builtin.List.listLengthHint
  refine wpAny_bind (wpAny_specialOf ty RT.nolen_lri ?_)
  show wpAny _ A.in1 (specialOf (Value.ref i) (Str.ofString "__length_hint__") >>= _) _ _ _
  refine wpAny_bind (wpAny_specialOf ty RT.hint_lri ?_)
  generalize hy : ("list_reverseiterator.__length_hint__" : String) = y
  wp_delta
  rw [show splitId y = some ("list_reverseiterator", "__length_hint__") by rw [← hy]; decide +kernel]
  subst hy
  refine wpAny_bind (wpAny_isInstance (b := true) ty (by rw [isSubtype_type]; kernel_rfl) (wpAny_pure ?_))
  rw [if_neg (by decide)]
  have z0 : ((xs.size : Nat) : Int) - 1 - ((0 : Nat) : Int) = (xs.size : Int) - 1 := by omega
  refine wpAny_pure ⟨plainId_quiet F.plain_extend_loop _, codeAny_extend_loopS W fit S out res xs.size 0 z _ c rfl (Nat.zero_le _) ⟨Nat.zero_le _, by rw [z0]; exact gi, gl⟩ gS (ItemsOf.nil _) fun y ys c2 mv gy hy => ?_⟩
  rw [Moved.eq_with mv]
  exact q y.heap y.toks ys c2 (fun b o b1 b2 e => mv.heap b o (by simp [b1, b2]) e) gy hy
theorem rv_list {i l : Addr} {xs : Array Value} {Q : Value → Shared → Prop} (free : A.handled = none) (gi : z.heap.IsRevIter i l ((xs.size : Int) - 1)) (gl : z.heap.IsList l xs) (li : l ≠ i) (fit : xs.size ≤ sizeLine)
    (q : ∀ (g : Heap) (tk : Nat) (ys : Array Value) (c : Nat), (∀ b o, b ≠ i → z.heap.get? b = some o → g.get? b = some o) → g.get? z.heap.objs.size = some { cls := .type "list", dict := none, data := .seq ys c, slots := #[] } →
      ItemsOf (fun j v => xs[xs.size - 1 - j]? = some v) ys xs.size → Q (.ref z.heap.objs.size) { z with heap := g, toks := tk }) :
    wpAny (model P w) A (call (.type "list") [.ref i]) Q E z := by
  refine callType_codes (Q₁ := fun v y => v = .ref z.heap.objs.size ∧ y = { z with heap := z.heap.push { cls := .type "list", data := .seq #[] } }) F.called_list (F.typeCall_list_1 _) F.entry_list_init (code_list_new _ ⟨rfl, rfl⟩) ?_
  rintro _ _ ⟨rfl, rfl⟩
  have gS : (z.heap.push { cls := .type "list", data := .seq #[] }).get? z.heap.objs.size = some { cls := .type "list", data := .seq #[] } := Heap.get?_push_size _ rfl
  have lti : i < z.heap.objs.size := by obtain ⟨o, e, _⟩ := id gi; exact Heap.lt_size e
  have ltl : l < z.heap.objs.size := by obtain ⟨o, e, _⟩ := id gl; exact Heap.lt_size e
  refine ⟨⟨_, gS, rfl⟩, F.args_list_init_2 _ _, ?_⟩
  show wpAny _ _ (Builtin.List.listItems (.ref z.heap.objs.size) >>= fun old => Builtin.List.listUpdate (.ref z.heap.objs.size) (fun _ => #[]) >>= fun _ => letGo old.toList.reverse >>= fun _ => Builtin.List.listExtendWith (.ref z.heap.objs.size) (.ref i) .none) _ _ _
  unfold Builtin.List.listItems
  refine wpAny_bind (wpAny_bind (wpAny_seqItems gS rfl (wpAny_pure ?_)))
  refine wpAny_bind (m := updateSeq z.heap.objs.size fun _ => #[]) (wpAny_updateSeq gS rfl (wpAny_bind (wpAny_letGo ?_)))
  have gS2 := Heap.get?_update_self (Obj.mapSeq fun _ => (#[] : Array Value)) gS rfl
  have old : ∀ b o, b ≠ z.heap.objs.size → z.heap.get? b = some o → ((z.heap.push { cls := .type "list", data := .seq #[] }).update z.heap.objs.size (Obj.mapSeq fun _ => (#[] : Array Value))).get? b = some o :=
    fun b o nb e => (Heap.get?_update_other _ _ (Ne.symm nb)).trans (Heap.get?_push_of_some _ e)
  refine rv_fill (A := A.in1) (xs := xs) (by simp [free]) (gi.at fun o e => old i o (Nat.ne_of_lt lti) e) ?_ li (Nat.ne_of_gt lti) (Nat.ne_of_gt ltl) fit gS2 fun g tk ys c k gy hy => ?_
  · obtain ⟨o, e, r⟩ := id gl
    exact ⟨o, old l o (Nat.ne_of_lt ltl) e, r⟩
  · exact ⟨rfl, q g tk ys c (fun b o nb e => k b o nb (Nat.ne_of_lt (Heap.lt_size e)) (old b o (Nat.ne_of_lt (Heap.lt_size e)) e)) gy hy⟩
end
/-- the reading: a new list, the other way round -/
def tLstRev (K : PySem.W.Frag) (te : TE) : TE := fun σ H Q => te σ H fun v H1 => ∃ (a : Addr) (xs : List V), v = .ref a ∧ SqL K H1 a xs ∧ ∀ q, H1 q = none → Q (.ref q) (upd H1 q (.lst xs.reverse))
theorem pe_lstRev {X : Cx} {a : Expr} {ta : TE} {p p2 q pos : Pos} (hg : Gl X "list") (hm : X.mg "list" = none) (hg2 : Gl X "reversed") (hm2 : X.mg "reversed" = none) (ha : PE X a ta) (hc : X.calm = true := by rfl)
    (na : starEach [a] X.env = (false, eval a X.env) :: starEach [] X.env := by rfl) (na2 : starEach [.Call (.Name "reversed" p2) [a] [] q] X.env = (false, eval (.Call (.Name "reversed" p2) [a] [] q) X.env) :: starEach [] X.env := by rfl) :
    PE X (.Call (.Name "list" p) [.Call (.Name "reversed" p2) [a] [] q] [] pos) (tLstRev X.K ta) := by
  refine ⟨fun pins s σ H Q I h => ?_⟩
  refine Call_ (ld_blt I hg hm boot_list (PyProof.Rows.callWith_type1 (PyProof.Rows.args_cons ?_ na2) na2 rfl))
  refine Call_ (ld_blt I hg2 hm2 PyProof.Rows.boot_reversed (PyProof.Rows.callWith_type1 (PyProof.Rows.args_cons (thn (ha.run pins s σ H _ I h) fun v s1 ⟨x, H1, I1, r1, q1⟩ => PyProof.Rows.args_nil ?_) na) na rfl))
  obtain ⟨b, xs, rfl, hq, q1⟩ := q1
  cases r1
  obtain ⟨its, rv, pl, hz⟩ := I1.list hq
  have gl := pl.isList
  have lt : b < s1.heap.objs.size := by obtain ⟨o, e, _⟩ := id gl; exact Heap.lt_size e
  have ne := Nat.ne_of_lt lt
  refine call_reversed_list gl (PyProof.Rows.args_nil ?_)
  have keep : ∀ c o, s1.heap.get? c = some o → (s1.heap.push (revObj b ((its.toArray.size : Int) - 1))).get? c = some o := fun c o e => Heap.get?_push_of_some _ e
  have I2 : Inv X pins σ H1 { s1 with heap := s1.heap.push (revObj b ((its.toArray.size : Int) - 1)) } := I1.kept (t' := s1.toks) keep
  obtain ⟨f0, f1, f2, f3, f4, f5⟩ := I1.fpOk (H' := H1) (b := s1.heap.objs.size) (Nat.le_refl _) (I1.hok.fresh (Nat.le_refl _))
  have fit : its.toArray.size ≤ sizeLine := by
    rw [List.size_toArray, ← rv.length]
    exact hz
  refine rv_list (z := { s1 with heap := s1.heap.push (revObj b ((its.toArray.size : Int) - 1)) }) (xs := its.toArray) (I1.ok.hd hc) ⟨_, Heap.get?_push_size _ rfl, rfl, rfl⟩ (gl.push _) ne fit fun g tk ys c k gy hy => ?_
  have I3 : Inv X pins σ H1 { s1 with heap := g, toks := tk } := I2.turned (t' := tk) (fun c o hb e => k c o hb e) f0 f1 f3 f4 f5
  refine ⟨.ref _, upd H1 _ (.lst xs.reverse), I2.turnedNew (t' := tk) (ch := [s1.heap.objs.size]) (fun c o hc e => k c o (fun h => hc (by simp [h])) e) (fun c hc => ?_) (Nat.le_refl _) ⟨by rw [List.length_reverse]; exact hz, ys.toList, c, RT.vals_rev rv hy, by rw [Array.toArray_toList]; exact gy⟩, rfl, q1 _ (I2.hok.fresh (Nat.le_refl _))⟩
  rw [List.mem_singleton.mp hc]
  exact ⟨f0, f1, f2, f3, f4, f5⟩
end L2
/-! lists told the other way round. -/
namespace Tw
open PySem L2
section
variable {K : PySem.W.Frag} {ds es : List Sl} {ta tb tc te td : TE} {α β : Type}
theorem RpA.rev {H : Hp} : ∀ {vs : List V} {ds : List PyData}, RpA H vs ds → RpA H vs.reverse ds.reverse
  | _, _, .nil => .nil
  | _, _, .cons h r => by
    rw [List.reverse_cons, List.reverse_cons]
    exact (RpA.rev r).app (.cons h .nil)
def orev {α : Type} (o : Option (List α)) : Option (List α) := Option.map List.reverse o
theorem el_lrev [Em α] {o : Option (List α)} (h : EvFl K ds te o) : EvL K ds (L2.tLstRev K te) (orev o) := by
  intro z hz B F M H σ Q E q
  cases o with
  | none => cases hz
  | some xs =>
    cases hz
    refine h xs rfl B F M H σ _ E fun p vs F' H' x hp ra => ?_
    refine ⟨p, vs, rfl, SqL.of hp, fun n hn => q n _ F' _ (x.trans (Ext.new0 x.sub hn)) (none_of_same x.sub hn) (none_of_same x.sH hn) upd_same ?_⟩
    rw [List.map_reverse]
    exact ra.rev
end
end Tw
/-! own lists walked, things moved into them, setdefault, dicts of lists frozen. -/
namespace Tw
open PySem L2
section
variable {K : PySem.W.Frag} {ds es : List Sl} {ta tb tc te td tk tn : TE} {tr : TA} {t u w T : TS} {g : TG} {C : V → TS} {m m1 m2 m3 : Md} {α β γ δ κ τ τ' S ρ : Type} {out : τ → Out}
/-- for over an own list that stays as it is -/
theorem sv_forT [Em α] {i : Nat} {v : V} {xs : List α} {js : List Nat} {E : S → List Sl} {s0 : S} {d1 : S → α → List Sl} {f : S → α → Option (Flow S ρ)} {bo : Flow S ρ → Out} {k : S → Option τ} {kd : ρ → Option τ}
    (hx : ∀ s, (E s)[i]? = some (.tr v (eL eV xs))) (l0 : Le ds (E s0)) (tg : ∀ s x, Tg K .f (E s) g js (em x) (d1 s x)) (body : ∀ s x, SvO K (d1 s x) t (f s x) bo) (b1 : ∀ s, bo (.nx s) = .lp (E s)) (b2 : ∀ s, bo (.bk s) = .bk (E s)) (b3 : ∀ r x, kd r = some x → bo (.dn r) = out x ∧ (bo (.dn r)).isRt = true)
    (rest : ∀ s, SvO K (E s) u (k s) out) : SvO K ds (tSeq (tFor (iList K (tVar i)) g t) u) (after (loopM f xs s0) k kd) out := by
  intro z hz B F M H σ D Ev fin
  have E1 := Ev.le l0
  have look : ∀ {F M H σ s}, Env K B F M H σ (E s) → ∃ p vs, v = .ref p ∧ σ[i]? = some (some v) ∧ H p = some (.lst vs) ∧ RpA F vs (xs.map em) := fun {F M H σ s} E => by
    obtain ⟨_, _, e1, ms, h1, _⟩ := E.at (hx s)
    obtain ⟨p, vs, ms', rfl, hp, r, _, _⟩ := ow_list h1
    exact ⟨p, vs, rfl, e1, hp, r.vals.1⟩
  obtain ⟨p, vs0, rfl, hv, hp0, ra0⟩ := look E1
  refine ⟨_, hv, p, rfl, ⟨vs0, SqL.of hp0⟩, ?_⟩
  have wk : L2.Walk (Itl K p) xs.length (fun H2 => ∃ vs, SqL K H2 p vs ∧ vs.length = xs.length) (fun j H2 x H3 => H3 = H2 ∧ ∀ vs, SqL K H2 p vs → vs[j]? = some x) :=
    ⟨fun j H2 hj ⟨vs, q, e⟩ => ⟨vs, vs[j]'(by omega), q, by simp [show j < vs.length by omega]⟩, fun H2 ⟨vs, q, e⟩ => ⟨vs, q, by omega⟩, fun _ _ _ _ _ _ y => y⟩
  refine L2.for_it wk (D := { D with nx := u D }) (fun i σ' H' => ∃ F' M' s, Stp F M H F' M' H' ∧ Env K B F' M' H' σ' (E s) ∧ after (loopM f (xs.drop i) s) k kd = some z) ⟨F, M, s0, .refl, E1, hz⟩
    (fun j σ' H' _ ⟨F', M', s, st, E', _⟩ => ?_) ?_ ?_
  · obtain ⟨p', vs, e, _, hp, ra⟩ := look E'
    cases e
    exact ⟨vs, SqL.of hp, by rw [ra.len, List.length_map]⟩
  · rintro j y σ' H' H'' hj ⟨F', M', s, st, E', hk⟩ ⟨rfl, hy⟩
    obtain ⟨p', vs, e, _, hp, ra⟩ := look E'
    cases e
    have hyv := hy vs (SqL.of hp)
    obtain ⟨d, hd, rd⟩ := ra.getV hyv
    rw [List.getElem?_map, List.getElem?_eq_getElem hj] at hd
    cases hd
    rw [List.drop_eq_getElem_cons hj] at hk
    unfold after at hk
    obtain ⟨fl, hfl, hk⟩ := bind_some' hk
    simp only [loopM] at hfl
    obtain ⟨fb, hfb, hfl⟩ := bind_some' hfl
    refine tg s xs[j] B F' M' H'' σ' y _ E' rd fun σ2 E2 _ _ => ?_
    refine body s xs[j] fb hfb B F' M' H'' σ2 _ E2 ?_
    cases fb with
    | nx s' =>
      rw [b1]
      intro F3 M3 H3 σ3 st3 E3
      have q : after (loopM f (xs.drop (j + 1)) s') k kd = some z := by unfold after; rw [show loopM f (xs.drop (j + 1)) s' = some fl from hfl]; exact hk
      exact ⟨⟨F3, M3, s', st.trans st3, E3, q⟩, ⟨F3, M3, s', st.trans st3, E3, q⟩⟩
    | bk s' =>
      rw [b2]
      cases hfl
      intro F3 M3 H3 σ3 st3 E3
      exact rest s' z hk B F3 M3 H3 σ3 D E3 (fin.step (st.trans st3))
    | dn r =>
      cases hfl
      obtain ⟨q1, q2⟩ := b3 r z hk
      exact Fin.rt_any (q1 ▸ fin.step st) q2
  · rintro σ' H' ⟨F', M', s, st, E', hk⟩
    rw [show xs.drop xs.length = [] from List.drop_length] at hk
    exact rest s z hk B F' M' H' σ' D E' (fin.step st)
/-- a local that owns a tree, moved -/
theorem ex_mv {i : Nat} {v : V} {e : β → OD} {x : β} (hi : i < ds.length) (hx : ds[i]? = some (.tr v (e x))) : EvX K ds (tVar i) (some (⟨⟩, x) : Option (Unit × β)) fun z => .vl (.ow (e z.2)) (ds.set i .no) := fun z hz B F M H σ Q E f => by
  cases hz
  exact ⟨v, E.slotv hx, f F M H v .refl (E.take hi hx)⟩
theorem Env.opn {B F M H σ} (E : Env K B F M H σ ds) {i : Nat} {od : OD} (hi : i < ds.length) (hx : ds[i]? = some (.ow od)) : ∃ v, σ[i]? = some (some v) ∧ Env K B F M H σ (ds.set i (.tr v od)) := by
  obtain ⟨len, sB, sF, mB, mF, mH, mT, foot, f1, f2, f3⟩ := E
  have h3 := f3 i
  rw [hx] at h3
  obtain ⟨v, e, h⟩ := h3
  refine ⟨v, e, by rw [List.length_set, len], sB, sF, mB, mF, mH, mT, foot, f1, f2, fun j => ?_⟩
  rw [getD_set ds i j _ hi]
  by_cases hj : j = i
  · subst hj; rw [if_pos rfl]; exact ⟨e, h⟩
  · rw [if_neg hj]; exact f3 j
/-- frozen values are owned with nothing -/
theorem Env.v2o {B F M H σ} {v : V} {d : PyData} (E : Env K B F M H (some v :: σ) (.val d :: ds)) : Env K B F M H (some v :: σ) (.ow (.v d) :: ds) := by
  obtain ⟨_, _, v', e, r⟩ := E.at (i := 0) rfl
  cases e
  have := E.tail.head (v := v) (s := .ow (.v d)) (N := fun _ => False) (fun _ z => z.elim) (fun _ z => z.elim) (fun _ z => z.elim) (fun _ z => z.elim) ⟨v, rfl, [], .v r, fun a z => by cases z⟩
  simpa using this
theorem ex_v2o [Em β] {o : Option (S × β)} {d : S → List Sl} (h : EvX K ds te o fun z => .vl (.val (em z.2)) (d z.1)) : EvX K ds te o fun z => .vl (.ow (eV z.2)) (d z.1) := fun z hz B F M H σ Q E f =>
  h z hz B F M H σ Q E fun F' M' H' v st E' => f F' M' H' v st E'.v2o
/-- xs.append(what may change something), xs a local -/
theorem sx_app {i : Nat} {v : V} {e : β → OD} {xs : List β} {o : Option (S × β)} {d : S → List Sl} {r : S → List β → Option τ} (hx : ds[i]? = some (.tr v (eL e xs))) (h : EvX K ds tb o fun z => .vl (.ow (e z.2)) (d z.1)) (hd : ∀ s, (d s)[i]? = some (.tr v (eL e xs))) (k : ∀ s z, SvO K ((d s).set i (.tr v (eL e z))) u (r s z) out) :
    SvO K ds (tSeq (tDrop (tBM K "list" rAppend (tVar i) (tCons tb tNil))) u) (o.bind fun t => (oapp xs t.2).bind fun z => r t.1 z) out := fun z hz B F M H σ D E fin => by
  obtain ⟨⟨s, y⟩, e1, e2⟩ := bind_some' hz
  obtain ⟨ys, e3, e2⟩ := bind_some' e2
  obtain ⟨_, _, f1, ms0, h1, _⟩ := E.at hx
  obtain ⟨p, vs, ms', rfl, hp, _, _, _⟩ := ow_list h1
  refine ⟨_, f1, .inl ⟨rfl, vs, SqL.of hp⟩, h _ e1 B F M H σ _ E fun F2 M2 H2 vy st E2 => ?_⟩
  obtain ⟨vy', ev, E3⟩ := E2.opn (i := 0) (Nat.zero_lt_succ _) rfl
  cases ev
  have E3 : Env K B F2 M2 H2 (some vy :: σ) (.tr vy (e y) :: d s) := E3
  obtain ⟨w2, m2, n, g1, g2, gN, dj, g3, g4⟩ := E3.graft (hd s) (subO_nil _)
  cases (show _ = w2 from g1)
  obtain ⟨p', vs', ms2, hpe, hp', r', hn', rfl⟩ := ow_list g2
  cases hpe
  unfold oapp at e3
  split at e3
  · rename_i hlen
    cases e3
    refine ⟨p, vs', vy, rfl, rfl, hp', Nat.lt_of_lt_of_le (by rw [r'.len, List.length_map]; exact hlen) (by decide : 100000 ≤ sizeLine), ?_⟩
    have pn : p ∉ n := dj p (by simp)
    have hH : ∀ a, a ≠ p → ∀ x, H2 a = some x → upd H2 p (.lst (vs' ++ [vy])) a = some x := fun a ha x z => by rw [upd_ne ha]; exact z
    have hnew : Ow F2 (upd H2 p (.lst (vs' ++ [vy]))) (.ref p) (eL e (xs ++ [y])) (p :: (ms2 ++ (n ++ []))) := by
      unfold eL
      rw [List.map_append]
      exact .lst upd_same ((r'.mono (Same.refl _) fun a ha => hH a fun q => hn' (by rw [← q]; exact ha)).app (.cons (gN.mono (Same.refl _) fun a ha => hH a fun q => pn (by rw [← q]; exact ha)) .nil fun a _ ha => by cases ha) fun a ha => by
        rw [List.append_nil]
        exact dj a (by simp [ha])) (by simp [hn', pn])
    have E4 := g4 _ _ _ (keep1 (by simp)) hnew (fun a ha => by simpa [or_assoc] using ha) (al1 g2 fun _ z => nomatch z)
    exact k s _ z e2 B F2 _ _ σ D E4 (fin.step (st.trans (.of1 (g3 p (by simp)))))
  · cases e3
theorem sx_app2 {i : Nat} {v : V} {e : β → OD} {xs : List β} {o : Option (S × β)} {d : S → List Sl} {r : S × List β → Option τ} (hx : ds[i]? = some (.tr v (eL e xs))) (h : EvX K ds tb o fun z => .vl (.ow (e z.2)) (d z.1)) (hd : ∀ s, (d s)[i]? = some (.tr v (eL e xs))) (k : ∀ z : S × List β, SvO K ((d z.1).set i (.tr v (eL e z.2))) u (r z) out) :
    SvO K ds (tSeq (tDrop (tBM K "list" rAppend (tVar i) (tCons tb tNil))) u) ((o.bind fun t => (oapp xs t.2).map fun y => (t.1, y)).bind r) out := by
  have q := sx_app (r := fun s z => r (s, z)) hx h hd fun s z => k (s, z)
  have e1 : (o.bind fun t => (oapp xs t.2).bind fun z => r (t.1, z)) = (o.bind fun t => (oapp xs t.2).map fun y => (t.1, y)).bind r := by
    cases o with
    | none => rfl
    | some t =>
      show (oapp xs t.2).bind _ = ((oapp xs t.2).map _).bind r
      cases oapp xs t.2 <;> rfl
  rw [← e1]
  exact q
/-- a dict of own lists: the lists are frozen -/
theorem sv_frzD [DecidableEq κ] [Em κ] [Ky κ] [Em β] {i : Nat} {v : V} {kvs : List (κ × List β)} {o : Option τ} (hi : i < ds.length) (hx : ds[i]? = some (.tr v (eD (eL eV) kvs))) (k : SvO K (ds.set i (.tr v (eD eV kvs))) u o out) : SvO K ds u o out := fun z hz B F M H σ D E fin => by
  obtain ⟨len, sB, sF, mB, mF, mH, mT, foot, f1, f2, f3⟩ := id E
  have h3 := f3 i
  rw [hx] at h3
  obtain ⟨e1, ms0, hO, hms⟩ := h3
  obtain ⟨p, kv, ms, rfl, hp, r, hks, np, rfl⟩ := Ky.inv hO
  have inM : ∀ a ∈ ms, M a := fun a ha => f1 i a (hms a (by simp [ha]))
  have s1 : Same F (addF F H ms) := fun a o z => by
    rw [addF_out fun w => by rw [mF a (inM a w)] at z; cases z]; exact z
  have s2 : Same (addF F H ms) H := fun a o z => by
    by_cases hb : a ∈ ms
    · rw [addF_in hb] at z; exact z
    · rw [addF_out hb] at z; exact sF a o z
  have td : toDs ((kvs.map fun x => (x.1, (eL eV x.2 : OD))).map (·.2)) = some ((kvs.map (·.2)).map em) := by
    have := toDs_map (dat_L (dat_V (α := β))) (kvs.map (·.2))
    rw [List.map_map] at this ⊢
    exact this
  have ra : RpA (addF F H ms) (kv.map (·.2)) ((kvs.map (·.2)).map em) := r.toRp s1 (fun a ha o z => by rw [addF_in ha]; exact z) td
  have hnew : Ow (addF F H ms) H (.ref p) (eD eV kvs) [p] := by
    refine Ky.mkd (xs := kvs.map fun x => (x.1, (eV x.2 : OD))) hp ?_ ?_ List.not_mem_nil
    · have := OwL.ofVals (H := H) ra
      rw [List.map_map] at this ⊢
      exact this
    · rw [hks, List.map_map, List.map_map]
      rfl
  refine k z hz B (addF F H ms) (fun a => M a ∧ a ∉ ms) H σ D ⟨by rw [List.length_set, len], sB, s2, fun a z => mB a z.1, fun a z => ?_, fun a z => mH a z.1, fun a xs z => mT a xs z.1, fun j a => foot j a ∧ a ∉ ms, fun j a z => ⟨f1 j a z.1, z.2⟩, fun j k a z z' => f2 j k a z.1 z'.1, fun j => ?_⟩ (fin.step ⟨s1, fun a z => ?_, fun b o z _ => z, fun a z => .inl z.1⟩)
  · rw [addF_out z.2]; exact mF a z.1
  · rw [getD_set ds i j _ hi]
    by_cases hj : j = i
    · subst hj
      rw [if_pos rfl]
      exact ⟨e1, [p], hnew, fun a ha => by rw [List.mem_singleton] at ha; subst ha; exact ⟨hms a (by simp), np⟩⟩
    · rw [if_neg hj]
      have : (fun a => foot j a ∧ a ∉ ms) = foot j := by
        funext a
        exact propext ⟨fun z => z.1, fun z => ⟨z, fun w => hj (f2 j i a z (hms a (by simp [w])))⟩⟩
      show hold K B _ H _ _ (fun a => foot j a ∧ a ∉ ms)
      rw [this]
      exact (f3 j).mono s1 (fun a o _ z => z) sF s2
  · by_cases hb : a ∈ ms
    · exact .inr (.inr (inM a hb))
    · rw [addF_out hb] at z; exact .inl z
end
end Tw
/-! d.setdefault(k, []).append(x). -/
namespace Tw
open PySem L2
def sdk {β : Type} (kvs : List (Int × List β)) (j : Int) : List (Int × List β) := if (kIx kvs j).isSome then kvs else kvs ++ [(j, [])]
def osdapp {β : Type} (kvs : List (Int × List β)) (j : Int) (y : β) : Option (List (Int × List β)) :=
  if kvs.length < 100000 then (kIx (sdk kvs j) j).bind fun n => (sdk kvs j)[n]?.bind fun x => (oapp x.2 y).map fun ys => (sdk kvs j).set n (j, ys) else none
section
variable {K : PySem.W.Frag} {ds es : List Sl} {ta tb tc te td tk tn : TE} {tr : TA} {t u w T : TS} {g : TG} {C : V → TS} {m m1 m2 m3 : Md} {α β γ δ κ τ τ' S ρ : Type} {out : τ → Out}
theorem dput_end {κ β : Type} [DecidableEq κ] : ∀ {kv : List (κ × β)} {j : κ} {w : β}, dget kv j = none → dput kv j w = kv ++ [(j, w)] := by
  intro kv j w h
  unfold dput
  rw [if_neg]
  intro z
  obtain ⟨x, hx, e⟩ := List.any_eq_true.mp z
  unfold dget at h
  have := Option.map_eq_none_iff.mp h
  rw [List.find?_eq_none] at this
  exact this x hx (by simpa using e)
theorem dget_end {κ β : Type} [DecidableEq κ] {kv : List (κ × β)} {j : κ} {w : β} (h : dget kv j = none) : dget (kv ++ [(j, w)]) j = some w := by
  unfold dget at h ⊢
  rw [List.find?_append, Option.map_eq_none_iff.mp h, Option.none_or, List.find?_cons_of_pos (by simp)]
  rfl
theorem kIx_none {κ β : Type} [DecidableEq κ] {kv : List (κ × β)} {j : κ} (h : kIx kv j = none) : dget kv j = none := by
  cases e : dget kv j with
  | none => rfl
  | some x =>
    obtain ⟨i, h1, _⟩ := dget_ix e
    rw [h] at h1; cases h1
theorem kIx_end {κ β : Type} [DecidableEq κ] : ∀ {kv : List (κ × β)} {j : κ} {w : β}, kIx kv j = none → kIx (kv ++ [(j, w)]) j = some kv.length
  | [], j, w, _ => if_pos rfl
  | x :: kv, j, w, h => by
    unfold kIx at h
    by_cases e : j = x.1
    · rw [if_pos e] at h; cases h
    · rw [if_neg e] at h
      have h2 : kIx kv j = none := by
        cases q : kIx kv j with
        | none => rfl
        | some n => rw [q] at h; cases h
      show (if j = x.1 then some 0 else (kIx (kv ++ [(j, w)]) j).map (· + 1)) = _
      rw [if_neg e, kIx_end h2]
      rfl
/-- what comes behind d.setdefault(k, []): the append to the list found -/
theorem sd_tail [Em β] {i : Nat} {v : V} {kvs : List (Int × List β)} {j : Int} {n : Nat} {ys : List β} {y : β} {zs : List β} {B F H : Hp} {M : Addr → Prop} {σ : L2.St} {p : Addr} {kv : List (Int × V)} {x : V} {D : Ends} {o : Option τ} {z : τ} (hx : ds[i]? = some (.tr v (eD (κ := Int) (eL eV) kvs))) (E : Env K B F M H σ ds) (e1 : kIx kvs j = some n) (e2 : kvs[n]? = some (j, ys)) (ev : v = .ref p) (hp : H p = some (diO kv)) (hg : dget kv j = some x)
    (h : EvO K ds .f tb (some y)) (e3 : oapp ys y = some zs) (hz : o = some z) (k : SvO K (ds.set i (.tr v (eD (κ := Int) (eL eV) (kvs.set n (j, zs))))) u o out) (fin : Fin K B F M H (out z) D) :
    tyV K "list" x H ∧ tCons tb tNil σ H fun xs H2 => rAppend x xs H2 fun _ H3 => u D σ H3 := by
  have hs : subO (eD (κ := Int) (eL eV) kvs) [.ki j] = some (eL eV ys) := by
    show (dget (kvs.map fun x => (x.1, (eL eV x.2 : OD))) j).bind (fun o => subO o []) = _
    obtain ⟨w, q1, q2⟩ := ix_dget e1
    rw [e2] at q1
    cases q1
    rw [dget_map, q2]
    exact subO_nil _
  have find : ∀ {F H M}, Env K B F M H σ ds → H p = some (diO kv) → ∃ l vs m ms, x = .ref l ∧ H l = some (.lst vs) ∧ OwL F H vs (ys.map eV) ms ∧ l ∉ ms ∧ m = l :: ms ∧ (∀ a ∈ m, M a) ∧ (∀ H' o' m', (∀ a u, H a = some u → a ∉ m → H' a = some u) → Ow F H' x o' m' → (∀ a ∈ m', a ∈ m) → (∀ a ∈ m, ∃ u, H' a = some u ∧ ∀ xs, u ≠ .tup xs) → Env K B F M H' σ (ds.set i (.tr v (setO [.ki j] (eD (κ := Int) (eL eV) kvs) o')))) := fun {F H M} E hp => by
    obtain ⟨w, m, g1, g2, g3, g4⟩ := E.mut0 hx hs
    obtain ⟨p', kv', x', e, h1, h2, h3⟩ := g1
    rw [ev] at e
    cases e
    rw [hp] at h1
    have e5 := Ky.hinj (κ := Int) (Option.some.inj h1)
    subst e5
    rw [hg] at h2
    cases h2
    cases (show x = w from h3)
    obtain ⟨l, vs, ms, rfl, hl, r, nl, rfl⟩ := ow_list g2
    exact ⟨l, vs, _, ms, rfl, hl, r, nl, rfl, g3, g4⟩
  obtain ⟨l, vs, _, ms, rfl, hl, _, _, _, _, _⟩ := find E hp
  refine ⟨.inl ⟨rfl, vs, SqL.of hl⟩, h y rfl B F M H σ _ E fun vy F2 H2 x2 ry => ?_⟩
  have E2 := E.ext x2
  obtain ⟨l', vs2, _, ms2, el, hl2, r2, nl2, rfl, hM, up⟩ := find E2 (x2.sH _ _ hp)
  cases el
  unfold oapp at e3
  split at e3
  · rename_i hlen
    cases e3
    obtain ⟨ra, rfl⟩ := r2.vals
    refine ⟨l, vs2, vy, rfl, rfl, hl2, Nat.lt_of_lt_of_le (by rw [ra.len, List.length_map]; exact hlen) (by decide : 100000 ≤ sizeLine), ?_⟩
    have hnew : Ow F2 (upd H2 l (.lst (vs2 ++ [vy]))) (.ref l) (eL eV (ys ++ [y])) [l] := .lst upd_same (by rw [List.map_append]; have := OwL.ofVals (H := upd H2 l (.lst (vs2 ++ [vy]))) (xs := ys ++ [y]) (by rw [List.map_append]; exact ra.app (.cons ry .nil)); rwa [List.map_append] at this) List.not_mem_nil
    have E3 := up _ _ [l] (keep1 (by simp)) hnew (fun a ha => ha) (by
      intro a ha
      rw [List.mem_singleton] at ha
      subst ha
      exact ⟨_, upd_same, fun _ z => nomatch z⟩)
    have hset : setO [.ki j] (eD (κ := Int) (eL eV) kvs) (eL eV (ys ++ [y])) = eD (κ := Int) (eL eV) (kvs.set n (j, ys ++ [y])) := by
      show OD.di (match kIx (kvs.map fun x => (x.1, (eL eV x.2 : OD))) j with | some i => (match (kvs.map fun x => (x.1, (eL eV x.2 : OD)))[i]? with | some x => (kvs.map fun x => (x.1, (eL eV x.2 : OD))).set i (x.1, setO [] x.2 (eL eV (ys ++ [y]))) | none => kvs.map fun x => (x.1, (eL eV x.2 : OD))) | none => kvs.map fun x => (x.1, (eL eV x.2 : OD))) = _
      rw [kIx_keys (gs := kvs) (by rw [List.map_map]; rfl), e1]
      simp only [List.getElem?_map, e2, Option.map_some]
      show OD.di _ = OD.di _
      rw [List.map_set]
      rfl
    rw [hset] at E3
    exact k z hz B F2 M _ σ D E3 ((fin.ext x2).step (.of1 (hM l (by simp))))
  · cases e3
theorem sl_sdapp [Em β] {i : Nat} {v : V} {kvs : List (Int × List β)} {ok : Option Int} {o : Option β} {r : List (Int × List β) → Option τ} (hx : ds[i]? = some (.tr v (eD (κ := Int) (eL eV) kvs))) (hk : EvO K ds m2 tk ok) (hn : EvL K ds tn (some ([] : List β))) (h : ∀ w : List (Int × List β), EvO K (ds.set i (.tr v (eD (κ := Int) (eL eV) w))) .f tb o) (k : ∀ z : List (Int × List β), SvO K (ds.set i (.tr v (eD (κ := Int) (eL eV) z))) u (r z) out) :
    SvO K ds (tSeq (tDrop (tBM K "list" rAppend (tDSetd (tVar i) tk tn) (tCons tb tNil))) u) ((ok.bind fun j => o.bind fun y => osdapp kvs j y).bind r) out := fun z hz B F M H σ D E fin => by
  obtain ⟨z1, g1, e2⟩ := bind_some' hz
  obtain ⟨j, e3, g2⟩ := bind_some' g1
  obtain ⟨y, e4, e1⟩ := bind_some' g2
  clear hz g1 g2
  subst e4
  have hi : i < ds.length := (List.getElem?_eq_some_iff.mp hx).1
  unfold osdapp at e1
  split at e1
  · rename_i hlen
    obtain ⟨n, e5, e1⟩ := bind_some' e1
    obtain ⟨⟨j', ys⟩, e6, e1⟩ := bind_some' e1
    obtain ⟨zs, e7, e8⟩ := Option.map_eq_some_iff.mp e1
    have ej : j' = j := by
      obtain ⟨w, q, _⟩ := ix_dget e5
      rw [e6] at q
      cases q
      rfl
    subst ej
    have look : ∀ {F M H}, Env K B F M H σ ds → ∃ p kv ms, v = .ref p ∧ σ[i]? = some (some v) ∧ H p = some (diO kv) ∧ OwL F H (kv.map (·.2)) ((kvs.map fun x => (x.1, (eL eV x.2 : OD))).map (·.2)) ms ∧ kv.map (·.1) = (kvs.map fun x => (x.1, (eL eV x.2 : OD))).map (·.1) := fun {F M H} E => by
      obtain ⟨_, _, q1, ms0, h1, _⟩ := E.at hx
      obtain ⟨p, kv, ms, rfl, hp, r, hks, _, _⟩ := Ky.inv (κ := Int) h1
      exact ⟨p, kv, ms, rfl, q1, hp, r, hks⟩
    obtain ⟨p, kv, _, rfl, sv, hp, r1, hks⟩ := look E
    refine ⟨_, sv, p, rfl, Ky.isd (κ := Int) (.inl hp), hk j' e3 B F M H σ _ E fun vj F1 H1 x1 rj => ?_⟩
    refine hn [] rfl B F1 M H1 σ _ (E.ext x1) fun q vs F2 H2 x2 hqF hqH hq ra => ?_
    have E2 := (E.ext x1).ext x2
    have x12 := x1.trans x2
    obtain ⟨p', kv', ms2, ep, _, hp2, r2, hks2⟩ := look E2
    cases ep
    have : kv' = kv := by
      have := x12.sH _ _ hp
      rw [this] at hp2
      exact (Ky.hinj (κ := Int) (Option.some.inj hp2)).symm
    subst this
    cases rp_int rj
    have ev := valV_map (κ' := L2.Key) (f := fun i : Int => (Sum.inl i : L2.Key)) (fun a b h => Sum.inl.inj h) kv' j'
    have epu := fun w => putK_map (κ' := L2.Key) (f := fun i : Int => (Sum.inl i : L2.Key)) (fun a b h => Sum.inl.inj h) kv' j' w
    have hl : kv'.length = kvs.length := by have := congrArg List.length hks2; simpa using this
    refine ⟨mapK (fun i : Int => (Sum.inl i : L2.Key)) kv', Sum.inl j', hp2, rfl, Nat.lt_of_lt_of_le (by unfold mapK; rw [List.length_map, hl]; exact hlen) (by decide : 100000 ≤ sizeLine), fun x hxv => ?_, fun hxv => ?_⟩
    · rw [ev] at hxv
      have hsome : (kIx kvs j').isSome = true := by
        cases q : kIx kvs j' with
        | some _ => rfl
        | none =>
          have := kIx_none (kv := kv') (j := j') (by rw [kIx_keys (gs := kvs) (by rw [hks2, List.map_map]; rfl)]; exact q)
          rw [this] at hxv; cases hxv
      have es : sdk kvs j' = kvs := if_pos hsome
      rw [es] at e5 e6 e8
      rw [← e8] at e2
      refine sd_tail (u := u) (D := D) (out := out) hx E2 e5 e6 rfl hp2 hxv ?_ e7 e2 (k _) (fin.ext x12)
      have := h kvs
      rwa [show ds.set i (.tr (.ref p) (eD (κ := Int) (eL eV) kvs)) = ds from set_id hx] at this
    · rw [ev] at hxv
      have hnone : kIx kvs j' = none := by
        cases q : kIx kvs j' with
        | none => rfl
        | some n' =>
          obtain ⟨w, _, q2⟩ := ix_dget (fs := kv') (f := j') (i := n') (by rw [kIx_keys (gs := kvs) (by rw [hks2, List.map_map]; rfl)]; exact q)
          rw [hxv] at q2; cases q2
      have es : sdk kvs j' = kvs ++ [(j', [])] := if_neg (by rw [hnone]; decide)
      rw [es] at e5 e6 e8
      rw [← e8] at e2
      rw [epu]
      have hO : Ow F2 H2 (.ref q) (eL eV ([] : List β)) [q] := by
        cases ra
        exact .lst hq .nil List.not_mem_nil
      obtain ⟨E3, st⟩ := (E.ext x1).held x2 hO fun a ha => by
        rw [List.mem_singleton] at ha
        subst ha
        exact ⟨hqF, hqH⟩
      obtain ⟨w2, m2, n2, g1, g2, gN, dj, g3, g4⟩ := E3.graft hx (subO_nil _)
      cases (show _ = w2 from g1)
      obtain ⟨p', kv2, ms3, ep, hp3, r3, hks3, np, rfl⟩ := Ky.inv (κ := Int) g2
      cases ep
      have : kv2 = kv' := by
        have hp3 : H2 p = some (diO kv2) := hp3
        rw [hp2] at hp3
        exact (Ky.hinj (κ := Int) (Option.some.inj hp3)).symm
      subst this
      rw [dput_end hxv]
      have pn : p ∉ n2 := dj p (by simp)
      have hH : ∀ a, a ≠ p → ∀ x, H2 a = some x → upd H2 p (diO (kv2 ++ [(j', .ref q)])) a = some x := fun a ha x z => by rw [upd_ne ha]; exact z
      have hnew : Ow F2 (upd H2 p (diO (kv2 ++ [(j', .ref q)]))) (.ref p) (eD (κ := Int) (eL eV) (kvs ++ [(j', ([] : List β))])) (p :: (ms3 ++ (n2 ++ []))) := by
        refine Ky.mkd (κ := Int) (xs := (kvs ++ [(j', ([] : List β))]).map fun x => (x.1, (eL eV x.2 : OD))) upd_same (ms := ms3 ++ (n2 ++ [])) ?_ ?_ (by simp [np, pn])
        · rw [List.map_append, List.map_append, List.map_append]
          exact (r3.mono (Same.refl _) fun a ha => hH a fun e => np (by rw [← e]; exact ha)).app (.cons (gN.mono (Same.refl _) fun a ha => hH a fun e => pn (by rw [← e]; exact ha)) .nil fun a _ ha => by cases ha) fun a ha => by
            rw [List.append_nil]
            exact dj a (by simp [ha])
        · rw [List.map_append, List.map_append, List.map_append, hks3]
          rfl
      have E4 := g4 _ _ _ (keep1 (m := p :: ms3) List.mem_cons_self) hnew (fun a ha => by simpa [or_assoc] using ha) (al1 g2 fun _ z => nomatch z)
      refine sd_tail (u := u) (D := D) (out := out) (List.getElem?_set_self hi) E4 e5 e6 rfl upd_same (x := .ref q) ?_ (h _) e7 e2 (by rw [List.set_set]; exact k _) ((fin.ext x1).step (st.trans (.of1 (g3 p (by simp)))))
      exact dget_end hxv
  · cases e1
end
end Tw
/-! lists of new trees, dicts displayed, sorted. -/
namespace Tw
open PySem L2
def odisp1 {β : Type} (a : Option Int) (b : Option β) : Option (List (Int × β)) := a.bind fun k => b.map fun x => [(k, x)]
def okeysI {β : Type} (o : Option (List (Int × β))) : Option (List Int) := o.bind fun kvs => if kvs.length < 64 then some (sortI (kvs.map (·.1))) else none
def rSortedDI : List V → Hp → VK → Prop := fun xs H Q => ∃ (a : Addr) (kvs : List (L2.Key × V)) (ks : List Int), xs = [.ref a] ∧ Rd H a (.dK kvs) ∧ kvs.map (·.1) = ks.map Sum.inl ∧ ks.length < 64 ∧
    ∀ (ys : List Int) (p : Addr), ys.Perm ks → ys.Pairwise (· ≤ ·) → H p = none → Q (.ref p) (upd H p (.lst (ys.map V.int)))
theorem c_sortedDI {X : Cx} (hc : X.calm = true) : CallR X (.builtin "sorted") rSortedDI := call_sortedDI hc
section
variable {K : PySem.W.Frag} {ds es : List Sl} {ta tb tc te td tk tn : TE} {tr : TA} {tt : TT} {wi : TI} {t u w T : TS} {g : TG} {C : V → TS} {m m1 m2 m3 : Md} {α β γ δ κ τ τ' S ρ : Type} {out : τ → Out}
/-- a comprehension whose things are new trees -/
theorem eo_lc [Em α] {vs js : List Nat} {e : β → OD} {o : Option (List α)} {d1 : α → List Sl} {k : α → Option β} (hw : EvW K ds m wi o) (tg : ∀ x, Tg K m (wipeD ds vs) g js (em x) (d1 x)) (hj : ∀ i ∈ js, i ∈ vs)
    (he : ∀ x, EvOw K (d1 x) te e (k x)) : EvOw K ds (tLc wi g tYes te vs) (eL e) (olc o (fun _ => some true) k) := by
  intro ys hy B F M H σ Q Ev q
  obtain ⟨xs, e1, e2⟩ := bind_some' hy
  split at e2
  · rename_i hlen
    refine hw xs e1 B F M H σ _ Ev fun J F1 H1 vl x wk hm ra D hD => ?_
    have E1 := Ev.ext x
    have DF1 : F1 D = none := none_of_same x.sub hD
    have DB : B D = none := none_of_same E1.sB hD
    refine L2.lc_it wk (fun i H' => ∃ F' acc done todo ms, Ext F1 H1 F' H' ∧ F' D = none ∧ H' D = some (.lst acc) ∧ OwL F' H' acc (done.map e) ms ∧ (∀ a ∈ ms, F' a = none ∧ H1 a = none ∧ a ≠ D) ∧ ocomp (fun _ => some true) k (xs.drop i) = some todo ∧ done ++ todo = ys) ⟨F1, [], [], ys, [], .new0 x.sub hD, DF1, upd_same, .nil, fun a z => (by cases z), e2, rfl⟩
      (fun i H' _ ⟨F', acc, dn, td, ms, xx, _⟩ => ⟨xx.sF.trans xx.sub, E1.sB.trans xx.sH⟩) ?_ ?_
    · rintro i v H' H'' hi ⟨F', acc, dn, td, ms, xx, dF, dH, rO, hms, hk, hd⟩ ⟨rfl, hv⟩
      obtain ⟨d, hd', rd⟩ := ra.getV hv
      rw [List.getElem?_map, List.getElem?_eq_getElem hi] at hd'
      cases hd'
      rw [List.drop_eq_getElem_cons hi] at hk
      simp only [ocomp] at hk
      obtain ⟨z, hz, hk⟩ := bind_some' (show (k xs[i]).bind _ = some td from hk)
      obtain ⟨zs, hzs, hk⟩ := bind_some' hk
      cases hk
      have E2 := (E1.ext xx).wipe vs
      refine tg xs[i] B F' M H'' _ v _ E2 (rd.mono (hp_FB hm xx.sF)) fun σ2 E3 l3 o3 => ⟨wipe_eq l3 hj o3, ?_⟩
      show te σ2 H'' _
      refine he xs[i] z hz B F' M H'' σ2 _ E3 fun w mw F4 H4 x4 wO wf => ?_
      have hacc : acc.length = dn.length := by rw [rO.len, List.length_map]
      have hle : dn.length + (z :: zs).length ≤ xs.length := by
        have h1 := congrArg List.length hd
        rw [List.length_append] at h1
        have h2 := ocomp_len e2
        omega
      have dF4 : F4 D = none := x4.fresh dF dH fun _ z => nomatch z
      have wD : ∀ a ∈ mw, a ≠ D := fun a ha e => by
        have := (wf a ha).2
        rw [e, dH] at this
        cases this
      have xa := xx.trans x4
      refine ⟨acc, x4.sH _ _ dH, Nat.lt_of_lt_of_le (show acc.length < 100001 by simp only [List.length_cons] at hle; omega) (by decide), F4, acc ++ [w], dn ++ [z], zs, ms ++ (mw ++ []), ⟨xa.sF, same_upd2 xa.sH hD, same_upd2 xa.sub dF4, xa.new⟩, dF4, upd_same, ?_, fun a ha => ?_, hzs, by rw [List.append_assoc]; exact hd⟩
      · rw [List.map_append]
        have keep : ∀ a, a ≠ D → ∀ y, H4 a = some y → upd H4 D (.lst (acc ++ [w])) a = some y := fun a ha y h => by rw [upd_ne ha]; exact h
        refine (rO.mono x4.sF fun a ha y h => keep a (hms a ha).2.2 y (x4.sH _ _ h)).app (.cons (wO.mono (Same.refl _) fun a ha y h => keep a (wD a ha) y h) .nil fun a _ z => by cases z) fun a ha z => ?_
        rw [List.append_nil] at z
        obtain ⟨y, h1, _⟩ := rO.at a ha
        have := (wf a z).2
        rw [h1] at this
        cases this
      · rw [List.append_nil] at ha
        rcases List.mem_append.mp ha with ha | ha
        · obtain ⟨h1, h2, h3⟩ := hms a ha
          refine ⟨?_, h2, h3⟩
          obtain ⟨y, h4, h5⟩ := rO.at a ha
          exact x4.fresh h1 h4 h5
        · exact ⟨(wf a ha).1, none_of_same xx.sH (wf a ha).2, wD a ha⟩
    · rintro H' ⟨F', acc, dn, td, ms, xx, dF, dH, rO, hms, hk, hd⟩
      rw [show xs.drop xs.length = [] from List.drop_length] at hk
      cases hk
      rw [List.append_nil] at hd
      subst hd
      have xa := x.trans xx
      exact q (.ref D) (D :: ms) F' H' xa (.lst dH rO fun z => (hms D z).2.2 rfl) fun a ha => by
        rcases List.mem_cons.mp ha with rfl | ha
        · exact ⟨dF, none_of_same x.sH hD⟩
        · exact ⟨(hms a ha).1, none_of_same x.sH (hms a ha).2.1⟩
  · cases e2
/-- {k: v}, v a new tree -/
theorem eo_disp1 {e : β → OD} {o1 : Option Int} {o2 : Option β} (h1 : EvO K ds m ta o1) (h2 : EvOw K ds tb e o2) : EvOw K ds (tDisp [(ta, tb)]) (eD (κ := Int) e) (odisp1 o1 o2) := by
  intro kvs hk B F M H σ Q E q
  obtain ⟨k, e1, hk⟩ := bind_some' hk
  obtain ⟨x, e2, e3⟩ := Option.map_eq_some_iff.mp hk
  subst e3
  intro p hp
  have X0 : Ext F H F (upd H p (diO [])) := Ext.new0 E.sF hp
  have E0 := E.ext X0
  refine h1 k e1 B F M _ σ _ E0 fun v F1 H1 x1 r1 => h2 x e2 B F1 M H1 σ _ (E0.ext x1) fun w ms F2 H2 x2 wO wf => ?_
  have X := x1.trans x2
  have hp2 : H2 p = some (diO []) := X.sH _ _ upd_same
  have hF2 : F2 p = none := X.fresh (none_of_same E.sF hp) upd_same (fun _ z => nomatch z)
  have np : p ∉ ms := fun z => by
    have := (wf p z).2
    rw [x1.sH _ _ upd_same] at this
    cases this
  refine ⟨hp2, [(Sum.inl k, w)], ?_, by show 1 ≤ 15; decide, ?_⟩
  · rw [rp_int r1]; rfl
  · have XX := X0.trans X
    refine q (.ref p) (p :: ms) F2 _ ⟨XX.sF, fun b u e => ?_, fun b u e => ?_, XX.new⟩ ?_ fun a ha => ?_
    · rw [upd_ne (ne_of_none e hp)]
      exact XX.sH b u e
    · rw [upd_ne (ne_of_none e hF2)]
      exact XX.sub b u e
    · refine Ky.mkd (κ := Int) (kv := [(k, w)]) (xs := [(k, e x)]) upd_same ?_ rfl np
      have := OwL.cons (wO.mono (Same.refl _) fun a ha y h => (by rw [upd_ne fun z => np (by rw [← z]; exact ha)]; exact h : upd H2 p (diO [(k, w)]) a = some y)) (.nil (F := F2) (H := upd H2 p (diO [(k, w)]))) fun a _ z => by cases z
      rwa [List.append_nil] at this
    · rcases List.mem_cons.mp ha with rfl | ha
      · exact ⟨hF2, hp⟩
      · refine ⟨(wf a ha).1, none_of_same X0.sH (none_of_same x1.sH (wf a ha).2)⟩
theorem eo_nil {e : β → OD} (h : EvL K ds te (some ([] : List Int))) : EvOw K ds te (eL e) (some []) := fun y hy B F M H σ Q E q => by
  cases hy
  exact eo_L h [] rfl B F M H σ Q E q
/-- a frozen thing as a new tree -/
theorem eo_V [Em β] {o : Option β} (h : EvO K ds .f te o) : EvOw K ds te eV o := fun y hy B F M H σ Q E q =>
  h y hy B F M H σ Q E fun v F' H' x r => q v [] F' H' x (.v r) fun a z => by cases z
/-- sorted of a new dict with int keys -/
theorem el_sortDO {e : β → OD} {o : Option (List (Int × β))} (h : EvOw K ds te (eD (κ := Int) e) o) : EvL K ds (tCB rSortedDI (tCons te tNil)) (okeysI o) := by
  intro xs hx B F M H σ Q E q
  obtain ⟨kvs, e1, e2⟩ := bind_some' hx
  split at e2
  · rename_i hl
    cases e2
    refine h kvs e1 B F M H σ _ E fun v ms F1 H1 x1 hO hf => ?_
    obtain ⟨p, kv, ms', rfl, hp, r, hks, _, _⟩ := Ky.inv (κ := Int) hO
    have hk2 : kv.map (·.1) = kvs.map (·.1) := by rw [hks, List.map_map]; rfl
    refine ⟨p, mapK (fun i : Int => (Sum.inl i : L2.Key)) kv, kvs.map (·.1), rfl, .inl hp, ?_, by rw [List.length_map]; exact hl, fun ys n p1 p2 hn => ?_⟩
    · rw [← hk2]
      unfold mapK
      rw [List.map_map, List.map_map]
      rfl
    · have e : ys = sortI (kvs.map (·.1)) := uniq_sorted (p1.trans (perm_sortI _).symm) p2 (sorted_sortI _)
      subst e
      exact q n _ F1 _ (x1.trans (Ext.new0 x1.sub hn)) (none_of_same x1.sub hn) (none_of_same x1.sH hn) upd_same (RpA.ofInts _)
  · cases e2
end
end Tw
/-! sorted(xs) of data of one kind (tuples of numbers and truths), any number of them. -/
namespace L2
open PySem PySem.Spec PyProof.Rows
/-- the reading: bs are the list's things, each with the data that it is -/
def rSortedB (K : PySem.W.Frag) : List V → Hp → VK → Prop := fun xs H Q => ∃ (p : Addr) (bs : List (V × PyData)), xs = [.ref p] ∧ SqL K H p (bs.map (·.1)) ∧ DpAll K H (bs.map (·.1)) (bs.map (·.2)) ∧ PySem.W.AllAlike (bs.map (·.2)) ∧ PySem.W.Sortable (bs.map (·.2)) ∧ (∀ b ∈ bs, b.2.depth ≤ 8) ∧
  ∀ n, H n = none → Q (.ref n) (upd H n (.lst ((bs.mergeSort (PySem.W.dataLe false (·.2))).map (·.1))))
section
variable {X : Cx}
theorem each_of_vals : ∀ {bs : List (V × PyData)} {its : List Value}, Vals (bs.map (·.1)) its → PySem.W.EachIs (fun u (b : V × PyData) => RelV b.1 u) its bs
  | [], _, r => by cases r; exact .nil
  | b :: bs, _, r => by
    cases r with
    | cons h t => exact .cons h (each_of_vals t)
theorem vals_of_each : ∀ {bs : List (V × PyData)} {its : List Value}, PySem.W.EachIs (fun u (b : V × PyData) => RelV b.1 u) its bs → Vals (bs.map (·.1)) its
  | _, _, .nil => .nil
  | _, _, .cons h t => .cons h (vals_of_each t)
theorem reads_of_vals {pins : List (Addr × Obj)} {σ : St} {H : Hp} {s : Shared} (I : Inv X pins σ H s) : ∀ {bs : List (V × PyData)} {its : List Value}, Vals (bs.map (·.1)) its → DpAll X.K H (bs.map (·.1)) (bs.map (·.2)) → PySem.W.EachIs (fun u (b : V × PyData) => ∃ as, Reads s.heap u b.2 as) its bs
  | [], _, r, _ => by cases r; exact .nil
  | b :: bs, _, r, d => by
    cases r with
    | cons h t =>
      cases d with
      | cons d1 d2 => exact .cons (Dp.reads I _ _ _ d1 h) (reads_of_vals I t d2)
theorem cr_sortedB (room : X.A.units + 12 < cLine) : CallR X (.builtin "sorted") (rSortedB X.K) := by
  intro pins s σ H vs us Q I r h
  obtain ⟨a, bs, rfl, hs, hd, al, so, dep, q⟩ := h
  obtain ⟨its, rv, hl, hz⟩ := I.list hs
  obtain ⟨u, rfl, ru⟩ := vals1 r
  obtain rfl : u = Value.ref a := ru
  have len : bs.length = its.length := by rw [← rv.length, List.length_map]
  refine PySem.W.sorted_data (bs := bs) (enc := fun b : V × PyData => b.2) (R := fun u (b : V × PyData) => RelV b.1 u) hl.isList (each_of_vals rv) (reads_of_vals I rv hd) al so (by rw [List.length_map] at hz; exact hz) (fun b hb => by have := dep b hb; omega) fun out hlo ho => ?_
  have hn := I.hok.fresh (Nat.le_succ s.heap.objs.size)
  refine ⟨.ref (s.heap.objs.size + 1), _, I.laid (a := s.heap.objs.size + 1) (o := .lst ((bs.mergeSort (PySem.W.dataLe false (·.2))).map (·.1))) (t' := s.toks) (fun b o e => sortedAll_old e) (Nat.le_succ _) ?_, rfl, q _ hn⟩
  obtain ⟨n, e⟩ := sortedAll_at s.heap its out.toArray
  refine ⟨?_, out, n, vals_of_each ho, e⟩
  rw [List.length_map, List.length_mergeSort]
  rw [List.length_map] at hz
  exact hz
end
end L2
/-! attributes added to, puts of what changes something, sorted of data. -/
namespace Tw
open PySem L2
def sortD {α : Type} [Em α] (xs : List α) : List α := xs.mergeSort (PySem.W.dataLe false em)
def osortD {α : Type} [Em α] (o : Option (List α)) : Option (List α) := o.map sortD
/-- data of one kind that can be put in order -/
class Srt (α : Type) [Em α] : Prop where
  al : ∀ x y : α, PySem.W.alike (em x) (em y) = true
  so : ∀ x : α, ∃ a r, em x = PyData.tuple (a :: r)
  dp : ∀ x : α, (em x).depth ≤ 8
instance : Srt PP := ⟨fun x y => rfl, fun x => ⟨_, _, rfl⟩, fun x => by
  show (PyData.tuple [.int x.1, .int x.2]).depth ≤ 8
  simp [PyData.depth, PyData.depthAll]⟩
instance : Srt (T4 Int Int Int Bool) := ⟨fun x y => rfl, fun x => ⟨_, _, rfl⟩, fun x => by
  show (PyData.tuple [.int x.a, .int x.b, .int x.c, .bool x.d]).depth ≤ 8
  simp [PyData.depth, PyData.depthAll]⟩
section
variable {K : PySem.W.Frag} {ds es : List Sl} {ta tb tc te td tk tn : TE} {tr : TA} {tt : TT} {wi : TI} {t u w T : TS} {g : TG} {C : V → TS} {m m1 m2 m3 : Md} {α β γ δ κ τ τ' S ρ : Type} {out : τ → Out}
theorem rpA_zip {F : Hp} : ∀ {zs : List (V × PyData)}, (∀ z ∈ zs, Rp F z.1 z.2) → RpA F (zs.map (·.1)) (zs.map (·.2))
  | [], _ => .nil
  | z :: zs, h => .cons (h z (by simp)) (rpA_zip fun y hy => h y (by simp [hy]))
theorem zip_fst : ∀ {vs : List V} {ds : List PyData}, vs.length = ds.length → (vs.zip ds).map (·.1) = vs ∧ (vs.zip ds).map (·.2) = ds
  | [], [], _ => ⟨rfl, rfl⟩
  | v :: vs, d :: ds, h => by
    obtain ⟨h1, h2⟩ := zip_fst (vs := vs) (ds := ds) (by simpa using h)
    simp only [List.zip_cons_cons, List.map_cons, h1, h2, and_self]
theorem rpA_mem {F : Hp} : ∀ {vs : List V} {ds : List PyData}, RpA F vs ds → ∀ z ∈ vs.zip ds, Rp F z.1 z.2
  | _, _, .nil, z, hz => by cases hz
  | _, _, .cons h r, z, hz => by
    rcases List.mem_cons.mp hz with rfl | hz
    · exact h
    · exact rpA_mem r z hz
theorem el_sortD [Em α] [Srt α] {o : Option (List α)} (h : EvFl K ds te o) : EvL K ds (tCB (rSortedB K) (tCons te tNil)) (osortD o) := by
  intro z hz B F M H σ Q E q
  cases o with
  | none => cases hz
  | some xs =>
    cases hz
    refine h xs rfl B F M H σ _ E fun p vs F' H' x hp ra => ?_
    obtain ⟨z1, z2⟩ := zip_fst (vs := vs) (ds := xs.map em) ra.len
    have inx : ∀ d ∈ xs.map em, ∃ y : α, em y = d := fun d hd => by
      obtain ⟨y, _, e⟩ := List.mem_map.mp hd
      exact ⟨y, e⟩
    refine ⟨p, vs.zip (xs.map em), rfl, by rw [z1]; exact SqL.of hp, by rw [z1, z2]; exact RpA.dp K (ra.mono x.sub), ?_, ?_, ?_, fun n hn => ?_⟩
    · rw [z2]
      intro d hd d' hd'
      obtain ⟨y, rfl⟩ := inx d hd
      obtain ⟨y', rfl⟩ := inx d' hd'
      exact Srt.al y y'
    · rw [z2]
      refine .inl fun d hd => ?_
      obtain ⟨y, rfl⟩ := inx d hd
      exact Srt.so y
    · intro b hb
      have : b.2 ∈ xs.map em := by rw [← z2]; exact List.mem_map.mpr ⟨b, hb, rfl⟩
      obtain ⟨y, e⟩ := inx _ this
      rw [← e]
      exact Srt.dp y
    · refine q n _ F' _ (x.trans (Ext.new0 x.sub hn)) (none_of_same x.sub hn) (none_of_same x.sH hn) upd_same ?_
      have e1 : ((vs.zip (xs.map em)).mergeSort (PySem.W.dataLe false (·.2))).map (·.2) = (sortD xs).map em := by
        unfold sortD
        have m1 := List.map_mergeSort (r := PySem.W.dataLe false fun z : V × PyData => z.2) (s := PySem.W.dataLe false fun d : PyData => d) (f := fun z : V × PyData => z.2) (l := vs.zip (xs.map em)) fun a _ b _ => rfl
        have m2 := List.map_mergeSort (r := PySem.W.dataLe false (em : α → PyData)) (s := PySem.W.dataLe false fun d : PyData => d) (f := (em : α → PyData)) (l := xs) fun a _ b _ => rfl
        rw [m1, m2, z2]
      rw [← e1]
      exact rpA_zip fun y hy => rpA_mem ra y (List.mem_mergeSort.mp hy)
/-- o.f += what may change something; o a local -/
theorem sx_fldaug {i : Nat} {v : V} {eC : α → OD} {x : α} {x' : S → α} {f : Str} {gt : α → Int} {st : α → Int → α} {Cl : Addr} {fs : α → List (Str × OD)} {o : Option (S × Int)} {d : S → List Sl} {r : S → α → Option τ} (hx : ds[i]? = some (.tr v (eC x))) (hC : ∀ y, eC y = .ins Cl (fs y)) (cl : Cls K Cl) (na : NoAttr K Cl f)
    (hf : ∀ y, (fs y).lookup f = some (eV (gt y))) (hs : ∀ y z, setO [.fld f] (eC y) (eV z) = eC (st y z)) (hlen : ∀ y, (fs y).length < 1000) (h : EvX K ds tc o fun z => .vl (.val (em z.2)) (d z.1)) (hd : ∀ s, (d s)[i]? = some (.tr v (eC (x' s)))) (k : ∀ s y, SvO K ((d s).set i (.tr v (eC y))) u (r s y) out) :
    SvO K ds (tSeq (sFldAug K (tVar i) tc L2.rAdd f) u) (o.bind fun t => r t.1 (st (x' t.1) (gt x + t.2))) out := fun z hz B F M H σ D E fin => by
  obtain ⟨⟨s, n⟩, e1, e2⟩ := bind_some' hz
  obtain ⟨_, _, sv, ms0, h1, _⟩ := E.at hx
  rw [hC] at h1
  cases h1 with
  | @ins p dx C fv xs ms' hp hdx r' hk hn hn2 hn3 =>
    obtain ⟨i', j1, j2⟩ := lookup_ix (hf x)
    obtain ⟨w, j4, j5⟩ := ix_lookup (fs := fv) (f := f) (i := i') (by rw [kIx_keys hk]; exact j1)
    obtain ⟨uu, mm, R, g1, g2, g3, g4, g5⟩ := r'.get (map_ix j2)
    have hw : w = .int (gt x) := by
      rw [List.getElem?_map, j4] at g1
      have g1 : w = uu := by simpa using g1
      subst g1
      unfold eV at g2
      cases g2 with
      | v rr => exact rp_int rr
    subst hw
    refine ⟨_, sv, p, Cl, dx, fv, _, rfl, hp, cl, na, j5, h _ e1 B F M H σ _ E fun F2 M2 H2 vy st2 E2 => ?_⟩
    obtain ⟨_, _, v', ev, rv⟩ := E2.at (i := 0) rfl
    cases ev
    cases rp_int rv
    have E3 := E2.tail
    refine ⟨_, _, rfl, rfl, ?_⟩
    obtain ⟨w2, m2, q1, q2, q3, q4⟩ := E3.mut0 (hd s) (subO_nil _)
    cases (show _ = w2 from q1)
    have q2' := q2
    rw [hC] at q2'
    generalize hpp : V.ref p = vp at q2'
    cases q2' with
    | @ins p' dx' C' fv' xs' ms3 hp' hdx' r3 hk' hn' hn2' hn3' =>
      cases hpp
      obtain ⟨i2, a1, a2⟩ := lookup_ix (hf (x' s))
      obtain ⟨t2, a4, a5⟩ := ix_lookup (fs := fv') (f := f) (i := i2) (by rw [kIx_keys hk']; exact a1)
      obtain ⟨u2, mm2, R2, b1, b2, b3, b4, b5⟩ := r3.get (map_ix a2)
      have hmm : mm2 = [] := by unfold eV at b2; cases b2; rfl
      subst hmm
      have hfl : fv'.length = (fs (x' s)).length := by have := congrArg List.length hk'; simpa using this
      refine ⟨dx', fv', hp', by rw [hfl]; exact hlen _, ?_⟩
      rw [putF_keys (kIx_keys hk' ▸ a1) a4]
      obtain ⟨ms4, c1, c2⟩ := b5 F2 (upd H2 p (.ins Cl dx' (fv'.set i2 (f, .int (gt x + n))))) (.int (gt x + n)) (eV (gt x + n)) [] (Same.refl _) (fun a ha y h => by
        rw [upd_ne fun e => hn' (by rw [← e]; exact (b3 a).mpr (.inr ha))]; exact h) (.v (.int _)) (fun a ha => by cases ha)
      have hm3 : ∀ a, a ∈ ms4 ↔ a ∈ ms3 := fun a => by rw [c2, b3]
      have hset : eC (st (x' s) (gt x + n)) = .ins Cl ((fs (x' s)).set i2 (f, eV (gt x + n))) := by
        rw [← hs, hC]
        show OD.ins Cl (match kIx (fs (x' s)) f with | some i => (match (fs (x' s))[i]? with | some y => (fs (x' s)).set i (y.1, setO [] y.2 (eV (gt x + n))) | none => fs (x' s)) | none => fs (x' s)) = _
        rw [a1]
        simp only [a2]
        rfl
      have hnew : Ow F2 (upd H2 p (.ins Cl dx' (fv'.set i2 (f, .int (gt x + n))))) (.ref p) (eC (st (x' s) (gt x + n))) (p :: dx' :: ms4) := by
        rw [hset]
        exact .ins upd_same (by rw [upd_ne fun e => hn3' e.symm]; exact hdx') (by rw [map_set_snd, map_set_snd]; exact c1) (by rw [map_set_fst a4, map_set_fst a2]; exact hk') (fun z => hn' ((hm3 p).mp z)) (fun z => hn2' ((hm3 dx').mp z)) hn3'
      have E4 := q4 _ _ (p :: dx' :: ms4) (keep1 (by simp)) hnew (fun a ha => by
        rcases List.mem_cons.mp ha with rfl | ha
        · simp
        · rcases List.mem_cons.mp ha with rfl | ha
          · simp
          · simp [(hm3 a).mp ha]) (al1 q2 fun _ z => nomatch z)
      exact k s _ z e2 B F2 _ _ σ D E4 (fin.step (st2.trans (.of1 (q3 p (by simp)))))
/-- d[k] = what may change something -/
theorem sx_dput [DecidableEq κ] [Em κ] [Ky κ] [Em β] {i : Nat} {v : V} {e0 : α → OD} {x : S → α} {o : Option (S × β)} {d : S → List Sl} {ol : S → Option (Loc α (List (κ × β)))} {ok : S → Option κ} {r : S → α → Option τ} (h : EvX K ds tc o fun z => .vl (.val (em z.2)) (d z.1)) (lo : ∀ s, EvLoc K (d s) i v td e0 (x s) (eD eV) (ol s)) (hk : ∀ s, EvO K (d s) m2 tb (ok s)) (k : ∀ s z, SvO K ((d s).set i (.tr v (e0 z))) u (r s z) out) :
    SvO K ds (tSeq (sDPut td tb tc) u) (o.bind fun t => ((ol t.1).bind fun l => (ok t.1).bind fun j => (odput l.y j t.2).map l.upd).bind (r t.1)) out := fun z hz B F M H σ D E fin => by
  obtain ⟨⟨s, y⟩, e1, hz⟩ := bind_some' hz
  obtain ⟨z1, e2, e3⟩ := bind_some' hz
  obtain ⟨l, e4, e2⟩ := bind_some' e2
  obtain ⟨kk, e5, e2⟩ := bind_some' e2
  refine h _ e1 B F M H σ _ E fun F0 M0 H0 vy st E0 => ?_
  obtain ⟨_, _, v', ev, ry⟩ := E0.at (i := 0) rfl
  cases ev
  have E1 := E0.tail
  cases e6 : odput l.y kk y with
  | none => rw [e6] at e2; cases e2
  | some ys =>
    rw [e6] at e2
    cases e2
    refine (lo s).run e4 E1 fun w F2 H2 x2 hw => hk s kk e5 B F2 M0 H2 σ _ (E1.ext x2) fun wk F3 H3 x3 rk => ?_
    have E3 := (E1.ext x2).ext x3
    obtain ⟨m2, hO2, hM, up⟩ := hw F3 H3 x3
    obtain ⟨p, kv, ms2, rfl, hp', r', hks, hn', rfl⟩ := Ky.inv hO2
    unfold odput at e6
    split at e6
    · rename_i hlen
      cases e6
      have hl : kv.length < sizeLine := Nat.lt_of_lt_of_le (by rw [kv_len r', List.length_map]; exact hlen) (by decide : 100000 ≤ sizeLine)
      obtain ⟨rfl, hput⟩ := owl_put (kk := kk) r' hks (ry.mono (x2.trans x3).sF)
      refine ⟨p, _, rfl, Ky.put hp' (rk.mono (hp_H E3)) hl, ?_⟩
      obtain ⟨q1, q2⟩ := hput (upd H3 p (Ky.ho (dput kv kk vy)))
      have hnew : Ow F3 (upd H3 p (Ky.ho (dput kv kk vy))) (.ref p) (eD eV (dput l.y kk y)) [p] := Ky.mkd upd_same q1 q2 List.not_mem_nil
      exact k s _ z e3 B F3 M0 _ σ D (up _ _ [p] (keep1 (by simp)) hnew (fun a ha => ha) (al1 hO2 (Ky.nt _))) ((fin.step st).step ((Stp.ofExt (x2.trans x3)).trans (.of1 (hM p (by simp)))))
    · cases e6
theorem sx_fldaug2 {i : Nat} {v : V} {eC : α → OD} {x : α} {x' : S → α} {f : Str} {gt : α → Int} {st : α → Int → α} {Cl : Addr} {fs : α → List (Str × OD)} {o : Option (S × Int)} {d : S → List Sl} {r : S × α → Option τ} (hx : ds[i]? = some (.tr v (eC x))) (hC : ∀ y, eC y = .ins Cl (fs y)) (cl : Cls K Cl) (na : NoAttr K Cl f)
    (hf : ∀ y, (fs y).lookup f = some (eV (gt y))) (hs : ∀ y z, setO [.fld f] (eC y) (eV z) = eC (st y z)) (hlen : ∀ y, (fs y).length < 1000) (h : EvX K ds tc o fun z => .vl (.val (em z.2)) (d z.1)) (hd : ∀ s, (d s)[i]? = some (.tr v (eC (x' s)))) (k : ∀ z : S × α, SvO K ((d z.1).set i (.tr v (eC z.2))) u (r z) out) :
    SvO K ds (tSeq (sFldAug K (tVar i) tc L2.rAdd f) u) ((o.map fun t => (t.1, st (x' t.1) (gt x + t.2))).bind r) out := by
  have q := sx_fldaug (r := fun s y => r (s, y)) hx hC cl na hf hs hlen h hd fun s y => k (s, y)
  have e1 : (o.bind fun t => r (t.1, st (x' t.1) (gt x + t.2))) = (o.map fun t => (t.1, st (x' t.1) (gt x + t.2))).bind r := by cases o <;> rfl
  rw [← e1]
  exact q
theorem sx_dput2 [DecidableEq κ] [Em κ] [Ky κ] [Em β] {i : Nat} {v : V} {e0 : α → OD} {x : S → α} {o : Option (S × β)} {d : S → List Sl} {ol : S → Option (Loc α (List (κ × β)))} {ok : S → Option κ} {r : S × α → Option τ} (h : EvX K ds tc o fun z => .vl (.val (em z.2)) (d z.1)) (lo : ∀ s, EvLoc K (d s) i v td e0 (x s) (eD eV) (ol s)) (hk : ∀ s, EvO K (d s) m2 tb (ok s)) (k : ∀ z : S × α, SvO K ((d z.1).set i (.tr v (e0 z.2))) u (r z) out) :
    SvO K ds (tSeq (sDPut td tb tc) u) ((o.bind fun t => (ol t.1).bind fun l => (ok t.1).bind fun j => (odput l.y j t.2).map fun y => (t.1, l.upd y)).bind r) out := by
  have q := sx_dput (r := fun s y => r (s, y)) h lo hk fun s y => k (s, y)
  have e1 : (o.bind fun t => ((ol t.1).bind fun l => (ok t.1).bind fun j => (odput l.y j t.2).map l.upd).bind fun y => r (t.1, y)) = (o.bind fun t => (ol t.1).bind fun l => (ok t.1).bind fun j => (odput l.y j t.2).map fun y => (t.1, l.upd y)).bind r := by
    cases o with
    | none => rfl
    | some t =>
      show ((ol t.1).bind fun l => (ok t.1).bind fun j => (odput l.y j t.2).map l.upd).bind _ = ((ol t.1).bind fun l => (ok t.1).bind fun j => (odput l.y j t.2).map fun y => (t.1, l.upd y)).bind r
      cases ol t.1 with
      | none => rfl
      | some l =>
        show ((ok t.1).bind fun j => (odput l.y j t.2).map l.upd).bind _ = ((ok t.1).bind fun j => (odput l.y j t.2).map fun y => (t.1, l.upd y)).bind r
        cases ok t.1 with
        | none => rfl
        | some j =>
          show ((odput l.y j t.2).map l.upd).bind _ = ((odput l.y j t.2).map fun y => (t.1, l.upd y)).bind r
          cases odput l.y j t.2 <;> rfl
  rw [← e1]
  exact q
/-- plain answers with nothing changed -/
theorem ex_u [Em α] {o : Option α} (h : EvO K ds .f te o) : EvX K ds te (o.map fun y => ((), y)) fun z => .vl (.val (em z.2)) ds := fun z hz B F M H σ Q E f => by
  cases o with
  | none => cases hz
  | some y =>
    cases hz
    exact ex_f h y rfl B F M H σ Q E f
end
end Tw
/-! ## mirrors of law_k03_groups -/
namespace Tw
open PySem L2
def m_count (cell0 : Int) : Option Int :=
  (oite (oeq (omod (some cell0) (some (4 : Int))) (some (3 : Int)))
  (Option.map (fun y => y) (oadd (some (1 : Int)) (omod (ofdiv (some cell0) (some (4 : Int))) (some (200 : Int)))))
  (Option.map (fun y => y) (oadd (some (1 : Int)) (omod (ofdiv (some cell0) (some (4 : Int))) (some (12 : Int))))))
@[irreducible] def u_count (t : Int × Unit) : Option Int := m_count (t.1)
theorem ue_count (cell0 : Int) : u_count (cell0, ()) = m_count cell0 := by unfold u_count; rfl
def m_digits (cell0 : Int) (base0 : Int) (many0 : Int) : Option (List Int) :=
  (Option.bind (some ([] : List Int)) fun (row1 : (List Int)) =>
  (Option.bind (orange1 (some many0)) fun xs => after (loopM (fun (s3 : (Int × (List Int))) (x4 : Int) => (
  (Option.bind (Option.bind (some (locR s3.2)) fun l => Option.bind (omod (some s3.1) (some base0)) fun y => Option.map l.upd (oapp l.y y)) fun (row5 : (List Int)) =>
  (Option.bind (ofdiv (some s3.1) (some base0)) fun (cell6 : Int) =>
  (some (.nx (cell6, row5))))) : Option (Flow (Int × (List Int)) (List Int)))) xs (cell0, row1)) (fun (s3 : (Int × (List Int))) =>
  (Option.map (fun y => y) (some s3.2))) (fun r => some r)))
@[irreducible] def u_digits (t : Int × Int × Int × Unit) : Option (List Int) := m_digits (t.1) (t.2.1) (t.2.2.1)
theorem ue_digits (cell0 : Int) (base0 : Int) (many0 : Int) : u_digits (cell0, base0, many0, ()) = m_digits cell0 base0 many0 := by unfold u_digits; rfl
def m_ties (cells0 : (List Int)) (n0 : Int) (most0 : Int) : Option (List (Int × Int)) :=
  (Option.bind (some ([] : List (Int × Int))) fun (tieshere1 : (List (Int × Int))) =>
  (Option.bind (orange1 (olen (some cells0))) fun xs => after (loopM (fun (s3 : (List (Int × Int))) (x4 : Int) => (
  (Option.bind (omod (oix (some cells0) (some x4)) (some n0)) fun (a5 : Int) =>
  (Option.bind (omod (oadd (oadd (ofdiv (oix (some cells0) (some x4)) (some n0)) (omul (some (7 : Int)) (some x4))) (some (1 : Int))) (some n0)) fun (b6 : Int) =>
  (Option.bind (otup2 (omin2 (some a5) (some b6)) (omax2 (some a5) (some b6))) fun (tie7 : (Int × Int)) =>
  (oite (oand (one (some a5) (some b6)) (oand (onind (some tie7) (some s3)) (olt (olen (some s3)) (some most0))))
  (Option.bind (Option.bind (some (locR s3)) fun l => Option.bind (some tie7) fun y => Option.map l.upd (oapp l.y y)) fun (tieshere8 : (List (Int × Int))) =>
  (some (.nx tieshere8)))
  (some (.nx s3)))))) : Option (Flow (List (Int × Int)) (List (Int × Int))))) xs tieshere1) (fun (s3 : (List (Int × Int))) =>
  (Option.map (fun y => y) (some s3))) (fun r => some r)))
@[irreducible] def u_ties (t : (List Int) × Int × Int × Unit) : Option (List (Int × Int)) := m_ties (t.1) (t.2.1) (t.2.2.1)
theorem ue_ties (cells0 : (List Int)) (n0 : Int) (most0 : Int) : u_ties (cells0, n0, most0, ()) = m_ties cells0 n0 most0 := by unfold u_ties; rfl
def m_cellat (script0 : List Int) (k0 : Int) : Option Int :=
  (oite (olt (some k0) (some (script0.length : Int)))
  (Option.map (fun y => y) (oix (some script0) (some k0)))
  (Option.map (fun y => y) (some (0 : Int))))
@[irreducible] def u_cellat (t : List Int × Int × Unit) : Option Int := m_cellat (t.1) (t.2.1)
theorem ue_cellat (script0 : List Int) (k0 : Int) : u_cellat (script0, k0, ()) = m_cellat script0 k0 := by unfold u_cellat; rfl
def m_net (script0 : List Int) (n0 : Int) : Option (List (Int × Int)) :=
  (oite (oeq (omod (Option.bind (oarg (some script0) (oarg (some (0 : Int)) (some ()))) u_cellat) (some (2 : Int))) (some (1 : Int)))
  (Option.map (fun y => y) (Option.bind (oarg (ocut (some script0) (Option.map some (some (1 : Int))) (Option.map some (some (63 : Int)))) (oarg (some n0) (oarg (some (60 : Int)) (some ())))) u_ties))
  (Option.bind (some ([] : List (Int × Int))) fun (tieshere1 : (List (Int × Int))) =>
  (Option.bind (Option.bind (oarg (Option.bind (oarg (some script0) (oarg (some (1 : Int)) (some ()))) u_cellat) (oarg (omul (some n0) (some n0)) (oarg (omod (Option.bind (oarg (some script0) (oarg (some (2 : Int)) (some ()))) u_cellat) (some (61 : Int))) (some ())))) u_digits) fun xs => after (loopM (fun (s3 : (List (Int × Int))) (x4 : Int) => (
  (Option.bind (otup2 (omin2 (ofdiv (some x4) (some n0)) (omod (some x4) (some n0))) (omax2 (ofdiv (some x4) (some n0)) (omod (some x4) (some n0)))) fun (tie5 : (Int × Int)) =>
  (oite (oand (one (Option.map (fun z => z.1) (some tie5)) (Option.map (fun z => z.2) (some tie5))) (onind (some tie5) (some s3)))
  (Option.bind (Option.bind (some (locR s3)) fun l => Option.bind (some tie5) fun y => Option.map l.upd (oapp l.y y)) fun (tieshere6 : (List (Int × Int))) =>
  (some (.nx tieshere6)))
  (some (.nx s3)))) : Option (Flow (List (Int × Int)) (List (Int × Int))))) xs tieshere1) (fun (s3 : (List (Int × Int))) =>
  (Option.map (fun y => y) (some s3))) (fun r => some r))))
@[irreducible] def u_net (t : List Int × Int × Unit) : Option (List (Int × Int)) := m_net (t.1) (t.2.1)
theorem ue_net (script0 : List Int) (n0 : Int) : u_net (script0, n0, ()) = m_net script0 n0 := by unfold u_net; rfl
def m_due (n0 : Int) (tieshere0 : (List (Int × Int))) : Option (List (List Int)) :=
  (Option.bind (olc (orange1 (some n0)) (fun (x2 : Int) => (some true)) (fun (x2 : Int) => (some x2))) fun (marks1 : (List Int)) =>
  (Option.bind (some tieshere0) fun xs => after (loopM (fun (s3 : (List Int)) (x4 : (Int × Int)) => (
  (oite (one (oix (some s3) (some x4.1)) (oix (some s3) (some x4.2)))
  (Option.bind (omax2 (oix (some s3) (some x4.1)) (oix (some s3) (some x4.2))) fun (old5 : Int) =>
  (Option.bind (omin2 (oix (some s3) (some x4.1)) (oix (some s3) (some x4.2))) fun (new6 : Int) =>
  (Option.bind (olc (some s3) (fun (x8 : Int) => (some true)) (fun (x8 : Int) => (oite (oeq (some x8) (some old5)) (some new6) (some x8)))) fun (marks7 : (List Int)) =>
  (some (.nx marks7)))))
  (some (.nx s3))) : Option (Flow (List Int) (List (List Int))))) xs marks1) (fun (s3 : (List Int)) =>
  (Option.bind (some []) fun (rows9 : (List (Int × (List Int)))) =>
  (Option.bind (orange1 (some n0)) fun xs => after (loopM (fun (s11 : (List (Int × (List Int)))) (x12 : Int) => (
  (Option.bind (Option.bind (oix (some s3) (some x12)) fun j => Option.bind (some x12) fun y => osdapp s11 j y) fun (rows13 : (List (Int × (List Int)))) =>
  (some (.nx rows13))) : Option (Flow (List (Int × (List Int))) (List (List Int))))) xs rows9) (fun (s11 : (List (Int × (List Int)))) =>
  (Option.map (fun y => y) (olc (okeysK (some s11)) (fun (x14 : Int) => (some true)) (fun (x14 : Int) => (odgetB (some s11) (some x14)))))) (fun r => some r)))) (fun r => some r)))
@[irreducible] def u_due (t : Int × (List (Int × Int)) × Unit) : Option (List (List Int)) := m_due (t.1) (t.2.1)
theorem ue_due (n0 : Int) (tieshere0 : (List (Int × Int))) : u_due (n0, tieshere0, ()) = m_due n0 tieshere0 := by unfold u_due; rfl
def m_neighbours (n0 : Int) (ties0 : (List (Int × Int))) : Option (List (List Int)) :=
  (Option.bind (olc (orange1 (some n0)) (fun (x2 : Int) => (some true)) (fun (x2 : Int) => (some ([] : List Int)))) fun (near1 : (List (List Int))) =>
  (Option.bind (some ties0) fun xs => after (loopM (fun (s4 : (List (List Int))) (x5 : (Int × Int)) => (
  (Option.bind (Option.bind (Option.bind (some (locR s4)) fun l => Option.bind (some x5.1) fun k => locIx l k) fun l => Option.bind (some x5.2) fun y => Option.map l.upd (oapp l.y y)) fun (near6 : (List (List Int))) =>
  (Option.bind (Option.bind (Option.bind (some (locR near6)) fun l => Option.bind (some x5.2) fun k => locIx l k) fun l => Option.bind (some x5.1) fun y => Option.map l.upd (oapp l.y y)) fun (near7 : (List (List Int))) =>
  (some (.nx near7)))) : Option (Flow (List (List Int)) (List (List Int))))) xs near1) (fun (s4 : (List (List Int))) =>
  (some s4)) (fun r => some r)))
@[irreducible] def u_neighbours (t : Int × (List (Int × Int)) × Unit) : Option (List (List Int)) := m_neighbours (t.1) (t.2.1)
theorem ue_neighbours (n0 : Int) (ties0 : (List (Int × Int))) : u_neighbours (n0, ties0, ()) = m_neighbours n0 ties0 := by unfold u_neighbours; rfl
def m_reached (near0 : (List (List Int))) (a0 : Int) : Option (List (Int × Int)) :=
  (Option.bind (odisp1 (some a0) (some (0 : Int))) fun (far1 : (List (Int × Int))) =>
  (Option.bind (ocons (some a0) (some ([] : List Int))) fun (waiting3 : (List Int)) =>
  (Option.bind (some (0 : Int)) fun (k5 : Int) =>
  (after (whileM (fun (s6 : ((List (Int × Int)) × ((List Int) × Int))) => (olt (some s6.2.2) (olen (some s6.2.1)))) (fun (s6 : ((List (Int × Int)) × ((List Int) × Int))) => (
  (Option.bind (oix (some s6.2.1) (some s6.2.2)) fun (here7 : Int) =>
  (Option.bind (oix (some near0) (some here7)) fun xs => after (loopM (fun (s8 : ((List (Int × Int)) × (List Int))) (x9 : Int) => (
  (oite (odninB (some x9) (some s8.1))
  (Option.bind (Option.bind (oadd (odgetB (some s8.1) (some here7)) (some (1 : Int))) fun y => Option.bind (some (locR s8.1)) fun l => Option.bind (some x9) fun j => Option.map l.upd (odput l.y j y)) fun (far10 : (List (Int × Int))) =>
  (Option.bind (Option.bind (some (locR s8.2)) fun l => Option.bind (some x9) fun y => Option.map l.upd (oapp l.y y)) fun (waiting11 : (List Int)) =>
  (some (.nx (far10, waiting11)))))
  (some (.nx (s8.1, s8.2)))) : Option (Flow ((List (Int × Int)) × (List Int)) (List (Int × Int))))) xs (s6.1, s6.2.1)) (fun (s8 : ((List (Int × Int)) × (List Int))) =>
  (Option.bind (Option.map (fun y => s6.2.2 + y) (some (1 : Int))) fun (k12 : Int) =>
  (some (.nx (s8.1, s8.2, k12))))) (fun r => some (Flow.dn r)))) : Option (Flow ((List (Int × Int)) × ((List Int) × Int)) (List (Int × Int))))) fuel (far1, waiting3, k5)) (fun (s6 : ((List (Int × Int)) × ((List Int) × Int))) =>
  (some s6.1)) (fun r => some r)))))
@[irreducible] def u_reached (t : (List (List Int)) × Int × Unit) : Option (List (Int × Int)) := m_reached (t.1) (t.2.1)
theorem ue_reached (near0 : (List (List Int))) (a0 : Int) : u_reached (near0, a0, ()) = m_reached near0 a0 := by unfold u_reached; rfl
def m_groups (n0 : Int) (ties0 : (List (Int × Int))) : Option (List (List Int)) :=
  (Option.bind (Option.bind (oarg (some n0) (oarg (some ties0) (some ()))) u_neighbours) fun (near1 : (List (List Int))) =>
  (Option.bind (some []) fun (seen3 : (List (Int × Bool))) =>
  (Option.bind (some ([] : (List (List Int)))) fun (rows5 : (List (List Int))) =>
  (Option.bind (orange1 (some n0)) fun xs => after (loopM (fun (s7 : ((List (Int × Bool)) × (List (List Int)))) (x8 : Int) => (
  (oite (odninB (some x8) (some s7.1))
  (Option.bind (okeysI (Option.bind (oarg (some near1) (oarg (some x8) (some ()))) u_reached)) fun (members9 : (List Int)) =>
  (after (loopM (fun (s11 : (List (Int × Bool))) (x12 : Int) => (
  (Option.bind (Option.bind (some true) fun y => Option.bind (some (locR s11)) fun l => Option.bind (some x12) fun j => Option.map l.upd (odput l.y j y)) fun (seen13 : (List (Int × Bool))) =>
  (some (.nx seen13))) : Option (Flow (List (Int × Bool)) (List (List Int))))) members9 s7.1) (fun (s11 : (List (Int × Bool))) =>
  (Option.bind (Option.bind (some ((), members9) : Option (Unit × (List Int))) fun t => Option.map (fun y => (t.1, y)) (oapp s7.2 t.2)) fun (z15 : (Unit × (List (List Int)))) =>
  (some (.nx (s11, z15.2))))) (fun r => some (Flow.dn r))))
  (some (.nx (s7.1, s7.2)))) : Option (Flow ((List (Int × Bool)) × (List (List Int))) (List (List Int))))) xs (seen3, rows5)) (fun (s7 : ((List (Int × Bool)) × (List (List Int)))) =>
  (some s7.2)) (fun r => some r)))))
@[irreducible] def u_groups (t : Int × (List (Int × Int)) × Unit) : Option (List (List Int)) := m_groups (t.1) (t.2.1)
theorem ue_groups (n0 : Int) (ties0 : (List (Int × Int))) : u_groups (n0, ties0, ()) = m_groups n0 ties0 := by unfold u_groups; rfl
def m_whole (found0 : PyData) : Option Bool :=
  (Option.map (fun y => y) (oand (oisi "int" (some found0)) (onot (oisi "bool" (some found0)))))
@[irreducible] def u_whole (t : PyData × Unit) : Option Bool := m_whole (t.1)
theorem ue_whole (found0 : PyData) : u_whole (found0, ()) = m_whole found0 := by unfold u_whole; rfl
def m_alike (found0 : (List (List Int))) (duehere0 : (List (List Int))) : Option Bool :=
  (oite (oor (onot (oisi "list" (some found0))) (one (olen (some found0)) (olen (some duehere0))))
  (Option.map (fun y => y) (some false))
  (Option.bind (orange1 (olen (some duehere0))) fun xs => after (loopM (fun (s1 : Unit) (x2 : Int) => (
  (oite (oor (onot (oisi "list" (oix (some found0) (some x2)))) (onot (oall (olc (oix (some found0) (some x2)) (fun (x3 : Int) => (some true)) (fun (x3 : Int) => (Option.bind (oarg (Option.map em (some x3)) (some ())) u_whole))))))
  (Option.map (fun y => (Flow.dn y)) (some false))
  (some (.nx ()))) : Option (Flow Unit Bool))) xs ()) (fun (s1 : Unit) =>
  (Option.map (fun y => y) (oeqd (some found0) (some duehere0)))) (fun r => some r)))
@[irreducible] def u_alike (t : (List (List Int)) × (List (List Int)) × Unit) : Option Bool := m_alike (t.1) (t.2.1)
theorem ue_alike (found0 : (List (List Int))) (duehere0 : (List (List Int))) : u_alike (found0, duehere0, ()) = m_alike found0 duehere0 := by unfold u_alike; rfl
def m_law (script0 : List Int) : Option Bool :=
  (Option.bind (Option.bind (oarg (ofdiv (Option.bind (oarg (some script0) (oarg (some (0 : Int)) (some ()))) u_cellat) (some (2 : Int))) (some ())) u_count) fun (n1 : Int) =>
  (Option.bind (Option.bind (oarg (some script0) (oarg (some n1) (some ()))) u_net) fun (tieshere2 : (List (Int × Int))) =>
  (Option.bind (some tieshere2) fun (handed3 : (List (Int × Int))) =>
  (Option.bind (Option.bind (oarg (some n1) (oarg (some tieshere2) (some ()))) u_due) fun (duehere5 : (List (List Int))) =>
  (Option.bind (Option.bind (oarg (some n1) (oarg (some handed3) (some ()))) u_groups) fun (first6 : (List (List Int))) =>
  (oite (oor (onot (Option.bind (oarg (some first6) (oarg (some duehere5) (some ()))) u_alike)) (oned (some handed3) (some tieshere2)))
  (Option.map (fun y => y) (some false))
  (Option.bind (Option.bind (Option.bind (some (locR first6)) fun l => Option.bind (some (0 : Int)) fun k => locIx l k) fun l => Option.bind (some n1) fun y => Option.map l.upd (oapp l.y y)) fun (first8 : (List (List Int))) =>
  (Option.bind (Option.bind (some (locR first8)) fun l => Option.bind (ocons (some n1) (some ([] : List Int))) fun y => Option.map l.upd (oapp l.y y)) fun (first9 : (List (List Int))) =>
  (Option.map (fun y => y) (oand (Option.bind (oarg (Option.bind (oarg (some n1) (oarg (some handed3) (some ()))) u_groups) (oarg (some duehere5) (some ()))) u_alike) (Option.bind (oarg (Option.bind (oarg (some n1) (oarg (ostep (some tieshere2) (some none) (some none) (Option.map some (oneg (some (1 : Int))))) (some ()))) u_groups) (oarg (some duehere5) (some ()))) u_alike)))))))))))
@[irreducible] def u_law (t : List Int × Unit) : Option Bool := m_law (t.1)
theorem ue_law (script0 : List Int) : u_law (script0, ()) = m_law script0 := by unfold u_law; rfl
end Tw
namespace Tw
open PySem L2
def top (i : Nat) : Stmt := PySem.Challenge.pw_tiewood_k03_groups.main.body.getD i (.Pass ⟨0, 0, 0, 0⟩)
abbrev s_count : Stmt := top 7
def N_count : List Str := ["_law_cell"]
def P_count : List Str := ["_law_cell"]
theorem sc_count : FnScope N_count P_count (defScope s_count) := ⟨rfl, rfl, rfl, by decide +kernel, rfl, by decide +kernel, by decide +kernel⟩
abbrev s_digits : Stmt := top 9
def N_digits : List Str := ["_law_cell", "_law_base", "_law_many", "_law_row", "_law_k"]
def P_digits : List Str := ["_law_cell", "_law_base", "_law_many"]
theorem sc_digits : FnScope N_digits P_digits (defScope s_digits) := ⟨rfl, rfl, rfl, by decide +kernel, rfl, by decide +kernel, by decide +kernel⟩
abbrev s_ties : Stmt := top 8
def N_ties : List Str := ["_law_cells", "_law_n", "_law_most", "_law_ties_here", "_law_k", "_law_a", "_law_b", "_law_tie"]
def P_ties : List Str := ["_law_cells", "_law_n", "_law_most"]
theorem sc_ties : FnScope N_ties P_ties (defScope s_ties) := ⟨rfl, rfl, rfl, by decide +kernel, rfl, by decide +kernel, by decide +kernel⟩
abbrev s_cellat : Stmt := top 5
def N_cellat : List Str := ["_law_script", "_law_k"]
def P_cellat : List Str := ["_law_script", "_law_k"]
theorem sc_cellat : FnScope N_cellat P_cellat (defScope s_cellat) := ⟨rfl, rfl, rfl, by decide +kernel, rfl, by decide +kernel, by decide +kernel⟩
abbrev s_net : Stmt := top 10
def N_net : List Str := ["_law_script", "_law_n", "_law_ties_here", "_law_digit", "_law_tie"]
def P_net : List Str := ["_law_script", "_law_n"]
theorem sc_net : FnScope N_net P_net (defScope s_net) := ⟨rfl, rfl, rfl, by decide +kernel, rfl, by decide +kernel, by decide +kernel⟩
abbrev s_due : Stmt := top 11
def N_due : List Str := ["_law_n", "_law_ties_here", "_law_marks", "_law_rows", "_law_k", "_law_a", "_law_b", "_law_old", "_law_new", "_law_mark"]
def P_due : List Str := ["_law_n", "_law_ties_here"]
theorem sc_due : FnScope N_due P_due (defScope s_due) := ⟨rfl, rfl, rfl, by decide +kernel, rfl, by decide +kernel, by decide +kernel⟩
abbrev s_neighbours : Stmt := top 1
def N_neighbours : List Str := ["n", "ties", "near", "a", "b", "k"]
def P_neighbours : List Str := ["n", "ties"]
theorem sc_neighbours : FnScope N_neighbours P_neighbours (defScope s_neighbours) := ⟨rfl, rfl, rfl, by decide +kernel, rfl, by decide +kernel, by decide +kernel⟩
abbrev s_reached : Stmt := top 2
def N_reached : List Str := ["near", "a", "far", "waiting", "k", "here", "other"]
def P_reached : List Str := ["near", "a"]
theorem sc_reached : FnScope N_reached P_reached (defScope s_reached) := ⟨rfl, rfl, rfl, by decide +kernel, rfl, by decide +kernel, by decide +kernel⟩
abbrev s_groups : Stmt := top 3
def N_groups : List Str := ["n", "ties", "near", "seen", "rows", "a", "members", "member"]
def P_groups : List Str := ["n", "ties"]
theorem sc_groups : FnScope N_groups P_groups (defScope s_groups) := ⟨rfl, rfl, rfl, by decide +kernel, rfl, by decide +kernel, by decide +kernel⟩
abbrev s_whole : Stmt := top 6
def N_whole : List Str := ["_law_found"]
def P_whole : List Str := ["_law_found"]
theorem sc_whole : FnScope N_whole P_whole (defScope s_whole) := ⟨rfl, rfl, rfl, by decide +kernel, rfl, by decide +kernel, by decide +kernel⟩
abbrev s_alike : Stmt := top 12
def N_alike : List Str := ["_law_found", "_law_due_here", "_law_k", "_law_x"]
def P_alike : List Str := ["_law_found", "_law_due_here"]
theorem sc_alike : FnScope N_alike P_alike (defScope s_alike) := ⟨rfl, rfl, rfl, by decide +kernel, rfl, by decide +kernel, by decide +kernel⟩
abbrev s_law : Stmt := top 13
def N_law : List Str := ["_law_script", "_law_n", "_law_ties_here", "_law_handed", "_law_due_here", "_law_first"]
def P_law : List Str := ["_law_script"]
theorem sc_law : FnScope N_law P_law (defScope s_law) := ⟨rfl, rfl, rfl, by decide +kernel, rfl, by decide +kernel, by decide +kernel⟩
structure Txt (K : PySem.W.Frag) (mg : Str → Option Value) where
  a_count : Addr
  fd_count : FuncData
  F_count : Fun K "_law_count" "_law_count" s_count a_count fd_count
  b_count : Binds K fd_count P_count []
  m_count : mg "_law_count" = some (.ref a_count)
  a_digits : Addr
  fd_digits : FuncData
  F_digits : Fun K "_law_digits" "_law_digits" s_digits a_digits fd_digits
  b_digits : Binds K fd_digits P_digits []
  m_digits : mg "_law_digits" = some (.ref a_digits)
  a_ties : Addr
  fd_ties : FuncData
  F_ties : Fun K "_law_ties" "_law_ties" s_ties a_ties fd_ties
  b_ties : Binds K fd_ties P_ties []
  m_ties : mg "_law_ties" = some (.ref a_ties)
  a_cellat : Addr
  fd_cellat : FuncData
  F_cellat : Fun K "_law_cell_at" "_law_cell_at" s_cellat a_cellat fd_cellat
  b_cellat : Binds K fd_cellat P_cellat []
  m_cellat : mg "_law_cell_at" = some (.ref a_cellat)
  a_net : Addr
  fd_net : FuncData
  F_net : Fun K "_law_net" "_law_net" s_net a_net fd_net
  b_net : Binds K fd_net P_net []
  m_net : mg "_law_net" = some (.ref a_net)
  a_due : Addr
  fd_due : FuncData
  F_due : Fun K "_law_due" "_law_due" s_due a_due fd_due
  b_due : Binds K fd_due P_due []
  m_due : mg "_law_due" = some (.ref a_due)
  a_neighbours : Addr
  fd_neighbours : FuncData
  F_neighbours : Fun K "neighbours" "neighbours" s_neighbours a_neighbours fd_neighbours
  b_neighbours : Binds K fd_neighbours P_neighbours []
  m_neighbours : mg "neighbours" = some (.ref a_neighbours)
  a_reached : Addr
  fd_reached : FuncData
  F_reached : Fun K "reached" "reached" s_reached a_reached fd_reached
  b_reached : Binds K fd_reached P_reached []
  m_reached : mg "reached" = some (.ref a_reached)
  a_groups : Addr
  fd_groups : FuncData
  F_groups : Fun K "groups" "groups" s_groups a_groups fd_groups
  b_groups : Binds K fd_groups P_groups []
  m_groups : mg "groups" = some (.ref a_groups)
  a_whole : Addr
  fd_whole : FuncData
  F_whole : Fun K "_law_whole" "_law_whole" s_whole a_whole fd_whole
  b_whole : Binds K fd_whole P_whole []
  m_whole : mg "_law_whole" = some (.ref a_whole)
  a_alike : Addr
  fd_alike : FuncData
  F_alike : Fun K "_law_alike" "_law_alike" s_alike a_alike fd_alike
  b_alike : Binds K fd_alike P_alike []
  m_alike : mg "_law_alike" = some (.ref a_alike)
  a_law : Addr
  fd_law : FuncData
  F_law : Fun K "law" "law" s_law a_law fd_law
  b_law : Binds K fd_law P_law []
  m_law : mg "law" = some (.ref a_law)
  n_all : mg "all" = none
  n_bool : mg "bool" = none
  n_int : mg "int" = none
  n_isinstance : mg "isinstance" = none
  n_len : mg "len" = none
  n_list : mg "list" = none
  n_max : mg "max" = none
  n_min : mg "min" = none
  n_range : mg "range" = none
  n_sorted : mg "sorted" = none
theorem bt_all : bootBuiltins "all" = some (.builtin "all") := by decide +kernel
theorem bt_bool : bootBuiltins "bool" = some (.type "bool") := by decide +kernel
theorem bt_int : bootBuiltins "int" = some (.type "int") := by decide +kernel
theorem bt_isinstance : bootBuiltins "isinstance" = some (.builtin "isinstance") := by decide +kernel
theorem bt_len : bootBuiltins "len" = some (.builtin "len") := by decide +kernel
theorem bt_list : bootBuiltins "list" = some (.type "list") := by decide +kernel
theorem bt_max : bootBuiltins "max" = some (.builtin "max") := by decide +kernel
theorem bt_min : bootBuiltins "min" = some (.builtin "min") := by decide +kernel
theorem bt_sorted : bootBuiltins "sorted" = some (.builtin "sorted") := by decide +kernel
section
variable {P : Program} {w : World} {K : PySem.W.Frag} {mg : Str → Option Value} {base : Heap}
def A_count {K : PySem.W.Frag} {mg : Str → Option Value} (T : Txt K mg) (t : Int × Unit) : List Ar := [.f (em (t.1 : Int))]
theorem ok_count (T : Txt K mg) : FnOk P w K mg base CX0 1 T.a_count T.fd_count P_count (spP K (A_count T) u_count) :=
  fn_val T.F_count sc_count (fun _ => rfl) fun cdv A outer s H E hr => ⟨_, (pss_cons (ps_if (pt_cmpR op_eq (pe_op op_mod (pv 0) pe_int) pe_int (nomark _))
      (pss_cons (ps_ret (pe_op op_add pe_int (pe_op op_mod (pe_op op_fdiv (pv 0) pe_int) pe_int)))
      pss_nil)
      pss_nil)
      (pss_cons (ps_ret (pe_op op_add pe_int (pe_op op_mod (pe_op op_fdiv (pv 0) pe_int) pe_int)))
      pss_nil)), by
    rintro ⟨cell0, ⟨⟩⟩
    rw [ue_count]
    show SvO K [.val (em (cell0 : Int))] _ (m_count cell0) fun r => .rd (.val (em (r : Int))) [.no]
    unfold m_count
    exact (sv_ifs (et_test (ev_eq (ev_mod (ev_val (α := Int) cell0 rfl) (ev_c_int 4)) (ev_c_int 3)))
    (sv_assoc (sv_dead (sv_retV (w := (fun y => y)) (es := [.no]) (ev_add (ev_c_int 1) (ev_mod (ev_fdiv (ev_val (α := Int) cell0 rfl) (ev_c_int 4)) (ev_c_int 200))) (fun _ => rfl) (.drop .nil))))
    (sv_nx (sv_dead (sv_retV (w := (fun y => y)) (es := [.no]) (ev_add (ev_c_int 1) (ev_mod (ev_fdiv (ev_val (α := Int) cell0 rfl) (ev_c_int 4)) (ev_c_int 12))) (fun _ => rfl) (.drop .nil)))))⟩
def A_digits {K : PySem.W.Frag} {mg : Str → Option Value} (T : Txt K mg) (t : Int × Int × Int × Unit) : List Ar := [.f (em (t.1 : Int)), .f (em (t.2.1 : Int)), .f (em (t.2.2.1 : Int))]
theorem ok_digits (T : Txt K mg) : FnOk P w K mg base CX0 1 T.a_digits T.fd_digits P_digits (spP K (A_digits T) u_digits) :=
  fn_val T.F_digits sc_digits (fun _ => rfl) fun cdv A outer s H E hr => ⟨_, (pss_cons (ps_set (i := 3) sc_digits.nd rfl (by first | exact Or.inl rfl | exact Or.inr rfl) (pe_lst pa_nil))
      (pss_cons (ps_for PassesOwn.never rfl (pi_range1 (by rfl) T.n_range (pa_cons (pv 2) pa_nil)) (pg_name (i := 4) sc_digits.nd rfl (by first | exact Or.inl rfl | exact Or.inr rfl))
      (pss_cons (ps_expr (pe_bm PySem.F.plainAttrs_list PySem.F.slot_list_append PySem.F.type_list_append mt_append (pv 3) (pa_cons (pe_op op_mod (pv 0) (pv 1)) pa_nil)))
      (pss_cons (ps_set (i := 0) sc_digits.nd rfl (by first | exact Or.inl rfl | exact Or.inr rfl) (pe_op op_fdiv (pv 0) (pv 1)))
      pss_nil)))
      (pss_cons (ps_ret (pv 3))
      pss_nil))), by
    rintro ⟨cell0, base0, many0, ⟨⟩⟩
    rw [ue_digits]
    show SvO K [.val (em (cell0 : Int)), .val (em (base0 : Int)), .val (em (many0 : Int)), .no, .no] _ (m_digits cell0 base0 many0) fun r => .rd (.val (em (r : (List Int)))) [.no, .no, .no, .no, .no]
    unfold m_digits
    exact (sv_asgN (e := (eL (eV (α := Int)))) (ilt (n := 5) 3 rfl (by decide)) (eo_L (el_lst (α := Int) (n := 0) (by decide) ei_nil)) fun v2 row1 =>
    (sv_for (E := fun (s3 : (Int × (List Int))) => [.val (em (s3.1 : Int)), .val (em (base0 : Int)), .val (em (many0 : Int)), .tr v2 ((eL (eV (α := Int))) (s3.2 : (List Int))), .no]) (s0 := (cell0, row1)) (d1 := fun s3 x4 => [.val (em (s3.1 : Int)), .val (em (base0 : Int)), .val (em (many0 : Int)), .tr v2 ((eL (eV (α := Int))) (s3.2 : (List Int))), .val (em (x4 : Int))]) (bo := (fun (fl : Flow (Int × (List Int)) (List Int)) => match fl with | .nx s3 => .lp [.val (em (s3.1 : Int)), .val (em (base0 : Int)), .val (em (many0 : Int)), .tr v2 ((eL (eV (α := Int))) (s3.2 : (List Int))), .no] | .bk s3 => .bk [.val (em (s3.1 : Int)), .val (em (base0 : Int)), .val (em (many0 : Int)), .tr v2 ((eL (eV (α := Int))) (s3.2 : (List Int))), .no] | .dn r => .rd (.val (em (r : (List Int)))) [.no, .no, .no, .no, .no])) (kd := (fun r => some r)) (ew_range1 (ev_val (α := Int) many0 rfl)) (.same (.same (.same (.same (.same .nil))))) (fun s3 x4 => (tg_f (ilt (n := 5) 4 rfl (by decide))))
    (fun s3 x4 =>
    (sl_app (lo_root (i := 3) (e0 := (eL (eV (α := Int)))) (x := s3.2) (v := v2) rfl) (ev_mod (ev_val (α := Int) s3.1 rfl) (ev_val (α := Int) base0 rfl)) fun row5 =>
    (sv_asg (ev_fdiv (ev_val (α := Int) s3.1 rfl) (ev_val (α := Int) base0 rfl)) (fun _ => tg_f (ilt (n := 5) 0 rfl (by decide))) fun cell6 =>
    (sv_end (.same (.same (.same (.same (.drop .nil))))) (Or.inr rfl))))) (fun _ => rfl) (fun _ => rfl) (fun r x h => by cases h; exact ⟨rfl, rfl⟩) fun s3 =>
    (sv_dead (sv_frz (e := (eL (eV (α := Int)))) (x := s3.2) (ilt (n := 5) 3 rfl (by decide)) rfl (dat_L dat_V) (sv_retV (w := (fun y => y)) (es := [.no, .no, .no, .no, .no]) (ev_val (α := (List Int)) s3.2 rfl) (fun _ => rfl) (.drop (.drop (.drop (.drop (.same .nil))))))))))⟩
def A_ties {K : PySem.W.Frag} {mg : Str → Option Value} (T : Txt K mg) (t : (List Int) × Int × Int × Unit) : List Ar := [.r (em (t.1 : (List Int))), .f (em (t.2.1 : Int)), .f (em (t.2.2.1 : Int))]
theorem ok_ties (T : Txt K mg) : FnOk P w K mg base CX0 1 T.a_ties T.fd_ties P_ties (spP K (A_ties T) u_ties) :=
  fn_val T.F_ties sc_ties (fun _ => rfl) fun cdv A outer s H E hr => ⟨_, (pss_cons (ps_set (i := 3) sc_ties.nd rfl (by first | exact Or.inl rfl | exact Or.inr rfl) (pe_lst pa_nil))
      (pss_cons (ps_for PassesOwn.never rfl (pi_range1 (by rfl) T.n_range (pa_cons (pe_callB c_len (by rfl) T.n_len bt_len (pa_cons (pv 0) pa_nil)) pa_nil)) (pg_name (i := 4) sc_ties.nd rfl (by first | exact Or.inl rfl | exact Or.inr rfl))
      (pss_cons (ps_set (i := 5) sc_ties.nd rfl (by first | exact Or.inl rfl | exact Or.inr rfl) (pe_op op_mod (pe_ix ix_list (pv 0) (pv 4) (fun _ _ => rfl)) (pv 1)))
      (pss_cons (ps_set (i := 6) sc_ties.nd rfl (by first | exact Or.inl rfl | exact Or.inr rfl) (pe_op op_mod (pe_op op_add (pe_op op_add (pe_op op_fdiv (pe_ix ix_list (pv 0) (pv 4) (fun _ _ => rfl)) (pv 1)) (pe_op op_mul pe_int (pv 4))) pe_int) (pv 1)))
      (pss_cons (ps_set (i := 7) sc_ties.nd rfl (by first | exact Or.inl rfl | exact Or.inr rfl) (pe_tup (pa_cons (pe_callB (c_min2 rfl) (by rfl) T.n_min bt_min (pa_cons (pv 5) (pa_cons (pv 6) pa_nil))) (pa_cons (pe_callB (c_max2 rfl) (by rfl) T.n_max bt_max (pa_cons (pv 5) (pa_cons (pv 6) pa_nil))) pa_nil))))
      (pss_cons (ps_if (PW.pt (pw_and (pt_cmpR op_ne (pv 5) (pv 6) (nomark _)) (pw_and (pt_cmpR (op_notInD (hu65 hr)) (pv 7) (pv 3) (by rfl)) (pw_and1 (pt_cmpR op_lt (pe_callB c_len (by rfl) T.n_len bt_len (pa_cons (pv 3) pa_nil)) (pv 2) (nomark _))))))
      (pss_cons (ps_expr (pe_bm PySem.F.plainAttrs_list PySem.F.slot_list_append PySem.F.type_list_append mt_append (pv 3) (pa_cons (pv 7) pa_nil)))
      pss_nil)
      pss_nil)
      pss_nil)))))
      (pss_cons (ps_ret (pv 3))
      pss_nil))), by
    rintro ⟨cells0, n0, most0, ⟨⟩⟩
    rw [ue_ties]
    show SvO K [.rd (em (cells0 : (List Int))), .val (em (n0 : Int)), .val (em (most0 : Int)), .no, .no, .no, .no, .no] _ (m_ties cells0 n0 most0) fun r => .rd (.val (em (r : (List (Int × Int))))) [.no, .no, .no, .no, .no, .no, .no, .no]
    unfold m_ties
    exact (sv_asgN (e := (eL (eV (α := (Int × Int))))) (ilt (n := 8) 3 rfl (by decide)) (eo_L (el_lst (α := (Int × Int)) (n := 0) (by decide) ei_nil)) fun v2 tieshere1 =>
    (sv_for (E := fun (s3 : (List (Int × Int))) => [.rd (em (cells0 : (List Int))), .val (em (n0 : Int)), .val (em (most0 : Int)), .tr v2 ((eL (eV (α := (Int × Int)))) (s3 : (List (Int × Int)))), .no, .no, .no, .no]) (s0 := tieshere1) (d1 := fun s3 x4 => [.rd (em (cells0 : (List Int))), .val (em (n0 : Int)), .val (em (most0 : Int)), .tr v2 ((eL (eV (α := (Int × Int)))) (s3 : (List (Int × Int)))), .val (em (x4 : Int)), .no, .no, .no]) (bo := (fun (fl : Flow (List (Int × Int)) (List (Int × Int))) => match fl with | .nx s3 => .lp [.rd (em (cells0 : (List Int))), .val (em (n0 : Int)), .val (em (most0 : Int)), .tr v2 ((eL (eV (α := (Int × Int)))) (s3 : (List (Int × Int)))), .no, .no, .no, .no] | .bk s3 => .bk [.rd (em (cells0 : (List Int))), .val (em (n0 : Int)), .val (em (most0 : Int)), .tr v2 ((eL (eV (α := (Int × Int)))) (s3 : (List (Int × Int)))), .no, .no, .no, .no] | .dn r => .rd (.val (em (r : (List (Int × Int))))) [.no, .no, .no, .no, .no, .no, .no, .no])) (kd := (fun r => some r)) (ew_range1 (ev_len (ev_rd (α := (List Int)) cells0 rfl))) (.same (.same (.same (.same (.same (.same (.same (.same .nil)))))))) (fun s3 x4 => (tg_f (ilt (n := 8) 4 rfl (by decide))))
    (fun s3 x4 =>
    (sv_asg (ev_mod (ev_fix (fl_s (ev_rd (α := (List Int)) cells0 rfl)) (ev_val (α := Int) x4 rfl)) (ev_val (α := Int) n0 rfl)) (fun _ => tg_f (ilt (n := 8) 5 rfl (by decide))) fun a5 =>
    (sv_asg (ev_mod (ev_add (ev_add (ev_fdiv (ev_fix (fl_s (ev_rd (α := (List Int)) cells0 rfl)) (ev_val (α := Int) x4 rfl)) (ev_val (α := Int) n0 rfl)) (ev_mul (ev_c_int 7) (ev_val (α := Int) x4 rfl))) (ev_c_int 1)) (ev_val (α := Int) n0 rfl)) (fun _ => tg_f (ilt (n := 8) 6 rfl (by decide))) fun b6 =>
    (sv_asg (ev_tup2 (ev_min2 (ev_val (α := Int) a5 rfl) (ev_val (α := Int) b6 rfl)) (ev_max2 (ev_val (α := Int) a5 rfl) (ev_val (α := Int) b6 rfl))) (fun _ => tg_f (ilt (n := 8) 7 rfl (by decide))) fun tie7 =>
    (sv_ifs (et_and (et_test (ev_ne (ev_val (α := Int) a5 rfl) (ev_val (α := Int) b6 rfl))) (et_and (et_test (ev_nin (by decide) (ev_val (α := (Int × Int)) tie7 rfl) (ev_rD (er_tr (e := (eL (eV (α := (Int × Int))))) s3 rfl) (dat_L dat_V)))) (et_test (ev_lt (ev_rlen (er_tr (e := (eL (eV (α := (Int × Int))))) s3 rfl)) (ev_val (α := Int) most0 rfl)))))
    (sv_assoc (sl_app (lo_root (i := 3) (e0 := (eL (eV (α := (Int × Int))))) (x := s3) (v := v2) rfl) (ev_val (α := (Int × Int)) tie7 rfl) fun tieshere8 =>
    (sv_nx (sv_end (.same (.same (.same (.same (.drop (.drop (.drop (.drop .nil)))))))) (Or.inr rfl)))))
    (sv_nx (sv_end (.same (.same (.same (.same (.drop (.drop (.drop (.drop .nil)))))))) (Or.inr rfl)))))))) (fun _ => rfl) (fun _ => rfl) (fun r x h => by cases h; exact ⟨rfl, rfl⟩) fun s3 =>
    (sv_dead (sv_frz (e := (eL (eV (α := (Int × Int))))) (x := s3) (ilt (n := 8) 3 rfl (by decide)) rfl (dat_L dat_V) (sv_retV (w := (fun y => y)) (es := [.no, .no, .no, .no, .no, .no, .no, .no]) (ev_val (α := (List (Int × Int))) s3 rfl) (fun _ => rfl) (.drop (.drop (.drop (.drop (.same (.same (.same (.same .nil)))))))))))))⟩
def A_cellat {K : PySem.W.Frag} {mg : Str → Option Value} (T : Txt K mg) (t : List Int × Int × Unit) : List Ar := [.s t.1, .f (em (t.2.1 : Int))]
theorem ok_cellat (T : Txt K mg) : FnOk P w K mg base CX0 1 T.a_cellat T.fd_cellat P_cellat (spP K (A_cellat T) u_cellat) :=
  fn_val T.F_cellat sc_cellat (fun _ => rfl) fun cdv A outer s H E hr => ⟨_, (pss_cons (ps_if (pt_cmpR op_lt (pv 1) (pe_callB c_len (by rfl) T.n_len bt_len (pa_cons (pv 0) pa_nil)) (nomark _))
      (pss_cons (ps_ret (pe_ix ix_list (pv 0) (pv 1) (fun _ _ => rfl)))
      pss_nil)
      pss_nil)
      (pss_cons (ps_ret pe_int)
      pss_nil)), by
    rintro ⟨script0, k0, ⟨⟩⟩
    rw [ue_cellat]
    show SvO K [.scr script0, .val (em (k0 : Int))] _ (m_cellat script0 k0) fun r => .rd (.val (em (r : Int))) [.no, .no]
    unfold m_cellat
    exact (sv_ifs (et_test (ev_lt (ev_val (α := Int) k0 rfl) (ev_lenS rfl)))
    (sv_assoc (sv_dead (sv_retV (w := (fun y => y)) (es := [.no, .no]) (ev_ixS rfl (ev_val (α := Int) k0 rfl)) (fun _ => rfl) (.drop (.drop .nil)))))
    (sv_nx (sv_dead (sv_retV (w := (fun y => y)) (es := [.no, .no]) (ev_c_int 0) (fun _ => rfl) (.drop (.drop .nil))))))⟩
def A_net {K : PySem.W.Frag} {mg : Str → Option Value} (T : Txt K mg) (t : List Int × Int × Unit) : List Ar := [.s t.1, .f (em (t.2.1 : Int))]
theorem ok_net (T : Txt K mg) : FnOk P w K mg base CX0 2 T.a_net T.fd_net P_net (spP K (A_net T) u_net) :=
  fn_val T.F_net sc_net (fun _ => rfl) fun cdv A outer s H E hr => ⟨_, (pss_cons (ps_if (pt_cmpR op_eq (pe_op op_mod (pe_call (ok_cellat T) (hr.mono (by decide)) (by rfl) T.m_cellat T.F_cellat.kp T.b_cellat .nil pass0 (pa_cons (pv 0) (pa_cons pe_int pa_nil))) pe_int) pe_int (nomark _))
      (pss_cons (ps_ret (pe_call (ok_ties T) (hr.mono (by decide)) (by rfl) T.m_ties T.F_ties.kp T.b_ties .nil pass0 (pa_cons (pe_slice sl_list (pv 0) (po_some pe_int) (po_some pe_int)) (pa_cons (pv 1) (pa_cons pe_int pa_nil)))))
      pss_nil)
      pss_nil)
      (pss_cons (ps_set (i := 2) sc_net.nd rfl (by first | exact Or.inl rfl | exact Or.inr rfl) (pe_lst pa_nil))
      (pss_cons (ps_for PassesOwn.never rfl (pi_list (pe_call (ok_digits T) (hr.mono (by decide)) (by rfl) T.m_digits T.F_digits.kp T.b_digits .nil pass0 (pa_cons (pe_call (ok_cellat T) (hr.mono (by decide)) (by rfl) T.m_cellat T.F_cellat.kp T.b_cellat .nil pass0 (pa_cons (pv 0) (pa_cons pe_int pa_nil))) (pa_cons (pe_op op_mul (pv 1) (pv 1)) (pa_cons (pe_op op_mod (pe_call (ok_cellat T) (hr.mono (by decide)) (by rfl) T.m_cellat T.F_cellat.kp T.b_cellat .nil pass0 (pa_cons (pv 0) (pa_cons pe_int pa_nil))) pe_int) pa_nil))))) (pg_name (i := 3) sc_net.nd rfl (by first | exact Or.inl rfl | exact Or.inr rfl))
      (pss_cons (ps_set (i := 4) sc_net.nd rfl (by first | exact Or.inl rfl | exact Or.inr rfl) (pe_tup (pa_cons (pe_callB (c_min2 rfl) (by rfl) T.n_min bt_min (pa_cons (pe_op op_fdiv (pv 3) (pv 1)) (pa_cons (pe_op op_mod (pv 3) (pv 1)) pa_nil))) (pa_cons (pe_callB (c_max2 rfl) (by rfl) T.n_max bt_max (pa_cons (pe_op op_fdiv (pv 3) (pv 1)) (pa_cons (pe_op op_mod (pv 3) (pv 1)) pa_nil))) pa_nil))))
      (pss_cons (ps_if (PW.pt (pw_and (pt_cmpR op_ne (pe_ix ix_tup (pv 4) pe_int (fun _ _ => rfl)) (pe_ix ix_tup (pv 4) pe_int (fun _ _ => rfl)) (nomark _)) (pw_and1 (pt_cmpR (op_notInD (hu65 hr)) (pv 4) (pv 2) (by rfl)))))
      (pss_cons (ps_expr (pe_bm PySem.F.plainAttrs_list PySem.F.slot_list_append PySem.F.type_list_append mt_append (pv 2) (pa_cons (pv 4) pa_nil)))
      pss_nil)
      pss_nil)
      pss_nil)))
      (pss_cons (ps_ret (pv 2))
      pss_nil)))), by
    rintro ⟨script0, n0, ⟨⟩⟩
    rw [ue_net]
    show SvO K [.scr script0, .val (em (n0 : Int)), .no, .no, .no] _ (m_net script0 n0) fun r => .rd (.val (em (r : (List (Int × Int))))) [.no, .no, .no, .no, .no]
    unfold m_net
    exact (sv_ifs (et_test (ev_eq (ev_mod (ev_call (ea_s rfl (ea_f (ev_c_int 0) ea_nil))) (ev_c_int 2)) (ev_c_int 1)))
    (sv_assoc (sv_dead (sv_retV (w := (fun y => y)) (es := [.no, .no, .no, .no, .no]) (ev_call (ea_r (ev_L (el_cutX rfl (eb_at (ev_c_int 1)) (eb_at (ev_c_int 63)))) (ea_f (ev_val (α := Int) n0 rfl) (ea_f (ev_c_int 60) ea_nil)))) (fun _ => rfl) (.drop (.drop (.same (.same (.same .nil))))))))
    (sv_nx (sv_asgN (e := (eL (eV (α := (Int × Int))))) (ilt (n := 5) 2 rfl (by decide)) (eo_L (el_lst (α := (Int × Int)) (n := 0) (by decide) ei_nil)) fun v2 tieshere1 =>
    (sv_for (E := fun (s3 : (List (Int × Int))) => [.scr script0, .val (em (n0 : Int)), .tr v2 ((eL (eV (α := (Int × Int)))) (s3 : (List (Int × Int)))), .no, .no]) (s0 := tieshere1) (d1 := fun s3 x4 => [.scr script0, .val (em (n0 : Int)), .tr v2 ((eL (eV (α := (Int × Int)))) (s3 : (List (Int × Int)))), .val (em (x4 : Int)), .no]) (bo := (fun (fl : Flow (List (Int × Int)) (List (Int × Int))) => match fl with | .nx s3 => .lp [.scr script0, .val (em (n0 : Int)), .tr v2 ((eL (eV (α := (Int × Int)))) (s3 : (List (Int × Int)))), .no, .no] | .bk s3 => .bk [.scr script0, .val (em (n0 : Int)), .tr v2 ((eL (eV (α := (Int × Int)))) (s3 : (List (Int × Int)))), .no, .no] | .dn r => .rd (.val (em (r : (List (Int × Int))))) [.no, .no, .no, .no, .no])) (kd := (fun r => some r)) (ew_f (ev_call (ea_f (ev_call (ea_s rfl (ea_f (ev_c_int 1) ea_nil))) (ea_f (ev_mul (ev_val (α := Int) n0 rfl) (ev_val (α := Int) n0 rfl)) (ea_f (ev_mod (ev_call (ea_s rfl (ea_f (ev_c_int 2) ea_nil))) (ev_c_int 61)) ea_nil))))) (.same (.same (.same (.same (.same .nil))))) (fun s3 x4 => (tg_f (ilt (n := 5) 3 rfl (by decide))))
    (fun s3 x4 =>
    (sv_asg (ev_tup2 (ev_min2 (ev_fdiv (ev_val (α := Int) x4 rfl) (ev_val (α := Int) n0 rfl)) (ev_mod (ev_val (α := Int) x4 rfl) (ev_val (α := Int) n0 rfl))) (ev_max2 (ev_fdiv (ev_val (α := Int) x4 rfl) (ev_val (α := Int) n0 rfl)) (ev_mod (ev_val (α := Int) x4 rfl) (ev_val (α := Int) n0 rfl)))) (fun _ => tg_f (ilt (n := 5) 4 rfl (by decide))) fun tie5 =>
    (sv_ifs (et_and (et_test (ev_ne (ev_fst (ev_val (α := (Int × Int)) tie5 rfl)) (ev_snd (ev_val (α := (Int × Int)) tie5 rfl)))) (et_test (ev_nin (by decide) (ev_val (α := (Int × Int)) tie5 rfl) (ev_rD (er_tr (e := (eL (eV (α := (Int × Int))))) s3 rfl) (dat_L dat_V)))))
    (sv_assoc (sl_app (lo_root (i := 2) (e0 := (eL (eV (α := (Int × Int))))) (x := s3) (v := v2) rfl) (ev_val (α := (Int × Int)) tie5 rfl) fun tieshere6 =>
    (sv_nx (sv_end (.same (.same (.same (.drop (.drop .nil))))) (Or.inr rfl)))))
    (sv_nx (sv_end (.same (.same (.same (.drop (.drop .nil))))) (Or.inr rfl)))))) (fun _ => rfl) (fun _ => rfl) (fun r x h => by cases h; exact ⟨rfl, rfl⟩) fun s3 =>
    (sv_dead (sv_frz (e := (eL (eV (α := (Int × Int))))) (x := s3) (ilt (n := 5) 2 rfl (by decide)) rfl (dat_L dat_V) (sv_retV (w := (fun y => y)) (es := [.no, .no, .no, .no, .no]) (ev_val (α := (List (Int × Int))) s3 rfl) (fun _ => rfl) (.drop (.drop (.drop (.same (.same .nil))))))))))))⟩
def A_due {K : PySem.W.Frag} {mg : Str → Option Value} (T : Txt K mg) (t : Int × (List (Int × Int)) × Unit) : List Ar := [.f (em (t.1 : Int)), .r (em (t.2.1 : (List (Int × Int))))]
theorem ok_due (T : Txt K mg) : FnOk P w K mg base CX0 1 T.a_due T.fd_due P_due (spP K (A_due T) u_due) :=
  fn_val T.F_due sc_due (fun _ => rfl) fun cdv A outer s H E hr => ⟨_, (pss_cons (ps_setLc (i := 2) (own := [("_law_k", 4)]) (g := (gName 4)) (tt := tYes) rfl sc_due.nd rfl rfl (sw_true rfl rfl rfl (by decide +kernel)) (pi_range1 (by rfl) T.n_range (pa_cons (pv 0) pa_nil)) (blkOk_by (own := [("_law_k", 4)]) (N := N_due) (sc := defScope s_due) (by decide +kernel)) (fun _ _ _ _ _ => (pg_name (i := 4) sc_due.nd rfl (by first | exact Or.inl rfl | exact Or.inr rfl))) (fun _ _ _ _ _ => pts_nil) (fun _ _ _ _ _ => (pv 4)))
      (pss_cons (ps_for PassesOwn.never rfl (pi_list (pv 1)) (pg_tup rfl (pgs_cons (pg_name (i := 5) sc_due.nd rfl (by first | exact Or.inl rfl | exact Or.inr rfl)) (pgs_cons (pg_name (i := 6) sc_due.nd rfl (by first | exact Or.inl rfl | exact Or.inr rfl)) pgs_nil)))
      (pss_cons (ps_if (pt_cmpR op_ne (pe_ix ix_list (pv 2) (pv 5) (fun _ _ => rfl)) (pe_ix ix_list (pv 2) (pv 6) (fun _ _ => rfl)) (nomark _))
      (pss_cons (ps_set (i := 7) sc_due.nd rfl (by first | exact Or.inl rfl | exact Or.inr rfl) (pe_callB (c_max2 rfl) (by rfl) T.n_max bt_max (pa_cons (pe_ix ix_list (pv 2) (pv 5) (fun _ _ => rfl)) (pa_cons (pe_ix ix_list (pv 2) (pv 6) (fun _ _ => rfl)) pa_nil))))
      (pss_cons (ps_set (i := 8) sc_due.nd rfl (by first | exact Or.inl rfl | exact Or.inr rfl) (pe_callB (c_min2 rfl) (by rfl) T.n_min bt_min (pa_cons (pe_ix ix_list (pv 2) (pv 5) (fun _ _ => rfl)) (pa_cons (pe_ix ix_list (pv 2) (pv 6) (fun _ _ => rfl)) pa_nil))))
      (pss_cons (ps_setLc (i := 2) (own := [("_law_mark", 9)]) (g := (gName 9)) (tt := tYes) rfl sc_due.nd rfl rfl (sw_true rfl rfl rfl (by decide +kernel)) (pi_list (pv 2)) (blkOk_by (own := [("_law_mark", 9)]) (N := N_due) (sc := defScope s_due) (by decide +kernel)) (fun _ _ _ _ _ => (pg_name (i := 9) sc_due.nd rfl (by first | exact Or.inl rfl | exact Or.inr rfl))) (fun _ _ _ _ _ => pts_nil) (fun _ _ _ _ _ => (pe_ifExp (pt_cmpR op_eq (pv 9) (pv 7) (nomark _)) (pv 8) (pv 9))))
      pss_nil)))
      pss_nil)
      pss_nil))
      (pss_cons (ps_set (i := 3) sc_due.nd rfl (by first | exact Or.inl rfl | exact Or.inr rfl) pe_dnewK)
      (pss_cons (ps_for PassesOwn.never rfl (pi_range1 (by rfl) T.n_range (pa_cons (pv 0) pa_nil)) (pg_name (i := 4) sc_due.nd rfl (by first | exact Or.inl rfl | exact Or.inr rfl))
      (pss_cons (ps_expr (pe_bm PySem.F.plainAttrs_list PySem.F.slot_list_append PySem.F.type_list_append mt_append (pe_dsetd (pv 3) (pe_ix ix_list (pv 2) (pv 4) (fun _ _ => rfl)) (pe_lst pa_nil) ⟨rfl, rfl, rfl, rfl⟩) (pa_cons (pv 4) pa_nil)))
      pss_nil))
      (pss_cons (ps_ret (pe_lock (pe_lc (own := [("_law_mark", 9)]) (g := (gName 9)) (tt := tYes) rfl sc_due.nd (pi_keys (pv 3)) (blkOk_by (own := [("_law_mark", 9)]) (N := N_due) (sc := defScope s_due) (by decide +kernel)) (fun _ _ _ _ _ => (pg_name (i := 9) sc_due.nd rfl (by first | exact Or.inl rfl | exact Or.inr rfl))) (fun _ _ _ _ _ => pts_nil) (fun _ _ _ _ _ => (pe_dget (hu_of hr) (pv 3) (pv 9) (fun _ _ => rfl))))))
      pss_nil))))), by
    rintro ⟨n0, tieshere0, ⟨⟩⟩
    rw [ue_due]
    show SvO K [.val (em (n0 : Int)), .rd (em (tieshere0 : (List (Int × Int)))), .no, .no, .no, .no, .no, .no, .no, .no] _ (m_due n0 tieshere0) fun r => .rd (.val (em (r : (List (List Int))))) [.no, .no, .no, .no, .no, .no, .no, .no, .no, .no]
    unfold m_due
    exact (sv_asg (ev_L (el_lc (d1 := fun x2 => [.val (em (n0 : Int)), .rd (em (tieshere0 : (List (Int × Int)))), .no, .no, .val (em (x2 : Int)), .no, .no, .no, .no, .no]) (ew_range1 (ev_val (α := Int) n0 rfl)) (fun x2 => (tg_f (ilt (n := 10) 4 rfl (by decide)))) (by decide) (fun x2 => et_yes) (fun x2 => (ev_val (α := Int) x2 rfl)))) (fun _ => tg_f (ilt (n := 10) 2 rfl (by decide))) fun marks1 =>
    (sv_for (E := fun (s3 : (List Int)) => [.val (em (n0 : Int)), .rd (em (tieshere0 : (List (Int × Int)))), .val (em (s3 : (List Int))), .no, .no, .no, .no, .no, .no, .no]) (s0 := marks1) (d1 := fun s3 x4 => [.val (em (n0 : Int)), .rd (em (tieshere0 : (List (Int × Int)))), .val (em (s3 : (List Int))), .no, .no, .val (em (x4.1 : Int)), .val (em (x4.2 : Int)), .no, .no, .no]) (bo := (fun (fl : Flow (List Int) (List (List Int))) => match fl with | .nx s3 => .lp [.val (em (n0 : Int)), .rd (em (tieshere0 : (List (Int × Int)))), .val (em (s3 : (List Int))), .no, .no, .no, .no, .no, .no, .no] | .bk s3 => .bk [.val (em (n0 : Int)), .rd (em (tieshere0 : (List (Int × Int)))), .val (em (s3 : (List Int))), .no, .no, .no, .no, .no, .no, .no] | .dn r => .rd (.val (em (r : (List (List Int))))) [.no, .no, .no, .no, .no, .no, .no, .no, .no, .no])) (kd := (fun r => some r)) (ew_b (ev_rd (α := (List (Int × Int))) tieshere0 rfl)) (.same (.same (.same (.same (.same (.same (.same (.same (.same (.same .nil)))))))))) (fun s3 x4 => (tg_2 (y := x4) (tg_s x4.1 (ilt (n := 10) 5 rfl (by decide))) (tg_s x4.2 (ilt (n := 10) 6 rfl (by decide)))))
    (fun s3 x4 =>
    (sv_ifs (et_test (ev_ne (ev_fix (fl_f (ev_val (α := (List Int)) s3 rfl)) (ev_val (α := Int) x4.1 rfl)) (ev_fix (fl_f (ev_val (α := (List Int)) s3 rfl)) (ev_val (α := Int) x4.2 rfl))))
    (sv_assoc (sv_asg (ev_max2 (ev_fix (fl_f (ev_val (α := (List Int)) s3 rfl)) (ev_val (α := Int) x4.1 rfl)) (ev_fix (fl_f (ev_val (α := (List Int)) s3 rfl)) (ev_val (α := Int) x4.2 rfl))) (fun _ => tg_f (ilt (n := 10) 7 rfl (by decide))) fun old5 =>
    (sv_assoc (sv_asg (ev_min2 (ev_fix (fl_f (ev_val (α := (List Int)) s3 rfl)) (ev_val (α := Int) x4.1 rfl)) (ev_fix (fl_f (ev_val (α := (List Int)) s3 rfl)) (ev_val (α := Int) x4.2 rfl))) (fun _ => tg_f (ilt (n := 10) 8 rfl (by decide))) fun new6 =>
    (sv_assoc (sv_asg (ev_L (el_lc (d1 := fun x8 => [.val (em (n0 : Int)), .rd (em (tieshere0 : (List (Int × Int)))), .val (em (s3 : (List Int))), .no, .no, .val (em (x4.1 : Int)), .val (em (x4.2 : Int)), .val (em (old5 : Int)), .val (em (new6 : Int)), .val (em (x8 : Int))]) (ew_f (ev_val (α := (List Int)) s3 rfl)) (fun x8 => (tg_f (ilt (n := 10) 9 rfl (by decide)))) (by decide) (fun x8 => et_yes) (fun x8 => (ev_ite (et_test (ev_eq (ev_val (α := Int) x8 rfl) (ev_val (α := Int) old5 rfl))) (ev_val (α := Int) new6 rfl) (ev_val (α := Int) x8 rfl))))) (fun _ => tg_f (ilt (n := 10) 2 rfl (by decide))) fun marks7 =>
    (sv_nx (sv_end (.same (.same (.same (.same (.same (.drop (.drop (.drop (.drop (.same .nil)))))))))) (Or.inr rfl)))))))))
    (sv_nx (sv_end (.same (.same (.same (.same (.same (.drop (.drop (.same (.same (.same .nil)))))))))) (Or.inr rfl))))) (fun _ => rfl) (fun _ => rfl) (fun r x h => by cases h; exact ⟨rfl, rfl⟩) fun s3 =>
    (sv_asgN (e := (eD (κ := Int) (eL (eV (α := Int))))) (ilt (n := 10) 3 rfl (by decide)) (eo_dnewI (e := (eL (eV (α := Int))))) fun v10 rows9 =>
    (sv_for (E := fun (s11 : (List (Int × (List Int)))) => [.val (em (n0 : Int)), .rd (em (tieshere0 : (List (Int × Int)))), .val (em (s3 : (List Int))), .tr v10 ((eD (κ := Int) (eL (eV (α := Int)))) (s11 : (List (Int × (List Int))))), .no, .no, .no, .no, .no, .no]) (s0 := rows9) (d1 := fun s11 x12 => [.val (em (n0 : Int)), .rd (em (tieshere0 : (List (Int × Int)))), .val (em (s3 : (List Int))), .tr v10 ((eD (κ := Int) (eL (eV (α := Int)))) (s11 : (List (Int × (List Int))))), .val (em (x12 : Int)), .no, .no, .no, .no, .no]) (bo := (fun (fl : Flow (List (Int × (List Int))) (List (List Int))) => match fl with | .nx s11 => .lp [.val (em (n0 : Int)), .rd (em (tieshere0 : (List (Int × Int)))), .val (em (s3 : (List Int))), .tr v10 ((eD (κ := Int) (eL (eV (α := Int)))) (s11 : (List (Int × (List Int))))), .no, .no, .no, .no, .no, .no] | .bk s11 => .bk [.val (em (n0 : Int)), .rd (em (tieshere0 : (List (Int × Int)))), .val (em (s3 : (List Int))), .tr v10 ((eD (κ := Int) (eL (eV (α := Int)))) (s11 : (List (Int × (List Int))))), .no, .no, .no, .no, .no, .no] | .dn r => .rd (.val (em (r : (List (List Int))))) [.no, .no, .no, .no, .no, .no, .no, .no, .no, .no])) (kd := (fun r => some r)) (ew_range1 (ev_val (α := Int) n0 rfl)) (.same (.same (.same (.same (.same (.same (.same (.same (.same (.same .nil)))))))))) (fun s11 x12 => (tg_f (ilt (n := 10) 4 rfl (by decide))))
    (fun s11 x12 =>
    (sl_sdapp (i := 3) (v := v10) (kvs := s11) rfl (ev_fix (fl_f (ev_val (α := (List Int)) s3 rfl)) (ev_val (α := Int) x12 rfl)) (el_lst (α := Int) (n := 0) (by decide) ei_nil) (fun _ => (ev_val (α := Int) x12 rfl)) fun rows13 =>
    (sv_end (.same (.same (.same (.same (.drop (.same (.same (.same (.same (.same .nil)))))))))) (Or.inr rfl)))) (fun _ => rfl) (fun _ => rfl) (fun r x h => by cases h; exact ⟨rfl, rfl⟩) fun s11 =>
    (sv_frzD (i := 3) (v := v10) (kvs := s11) (ilt (n := 10) 3 rfl (by decide)) rfl (show SvO K [.val (em (n0 : Int)), .rd (em (tieshere0 : (List (Int × Int)))), .val (em (s3 : (List Int))), .tr v10 ((eD (κ := Int) (eV (α := (List Int)))) (s11 : (List (Int × (List Int))))), .no, .no, .no, .no, .no, .no] _ _ _ from
    (sv_dead (sv_retV (w := (fun y => y)) (es := [.no, .no, .no, .no, .no, .no, .no, .no, .no, .no]) (ev_L (el_lockO (i := 3) (v := v10) (π := []) (xs := List.map (fun (z : (Int × (List Int))) => (z.1, (eV (α := (List Int))) z.2)) s11) (od := (eD (κ := Int) (eV (α := (List Int)))) (s11)) rfl rfl (fun p15 p15o p15k => (show EvL K [.val (em (n0 : Int)), .rd (em (tieshere0 : (List (Int × Int)))), .val (em (s3 : (List Int))), .tr v10 ((eDk (κ := Int) p15 p15o p15k (eV (α := (List Int)))) (s11 : (List (Int × (List Int))))), .no, .no, .no, .no, .no, .no] _ _ from (el_lcG (d1 := fun x14 => [.val (em (n0 : Int)), .rd (em (tieshere0 : (List (Int × Int)))), .val (em (s3 : (List Int))), .tr v10 ((eDk (κ := Int) p15 p15o p15k (eV (α := (List Int)))) (s11 : (List (Int × (List Int))))), .no, .no, .no, .no, .no, .val (em (x14 : Int))]) (eg_keys (er_tr (e := (eDk (κ := Int) p15 p15o p15k (eV (α := (List Int))))) s11 rfl)) (fun x14 => (tg_f (ilt (n := 10) 9 rfl (by decide)))) (by decide) (fun x14 => et_yes) (fun x14 => (ev_rV (er_key (e := (eV (α := (List Int)))) (er_tr (e := (eDk (κ := Int) p15 p15o p15k (eV (α := (List Int))))) s11 rfl) (fun kvs => dk_k kvs) (ev_val (α := Int) x14 rfl))))))))) (fun _ => rfl) (.drop (.drop (.drop (.drop (.same (.same (.same (.same (.same (.same .nil))))))))))))))))))⟩
def A_neighbours {K : PySem.W.Frag} {mg : Str → Option Value} (T : Txt K mg) (t : Int × (List (Int × Int)) × Unit) : List Ar := [.f (em (t.1 : Int)), .r (em (t.2.1 : (List (Int × Int))))]
theorem ok_neighbours (T : Txt K mg) : FnOk P w K mg base CX0 1 T.a_neighbours T.fd_neighbours P_neighbours (spO K (eL (eL (eV (α := Int)))) (A_neighbours T) u_neighbours) :=
  fn_tree T.F_neighbours sc_neighbours (fun _ => rfl) fun cdv A outer s H E hr => ⟨_, (pss_cons (ps_setLc (i := 2) (own := [("k", 5)]) (g := (gName 5)) (tt := tYes) rfl sc_neighbours.nd rfl rfl (sw_true rfl rfl rfl (by decide +kernel)) (pi_range1 (by rfl) T.n_range (pa_cons (pv 0) pa_nil)) (blkOk_by (own := [("k", 5)]) (N := N_neighbours) (sc := defScope s_neighbours) (by decide +kernel)) (fun _ _ _ _ _ => (pg_name (i := 5) sc_neighbours.nd rfl (by first | exact Or.inl rfl | exact Or.inr rfl))) (fun _ _ _ _ _ => pts_nil) (fun _ _ _ _ _ => (pe_lst pa_nil)))
      (pss_cons (ps_for PassesOwn.never rfl (pi_list (pv 1)) (pg_tup rfl (pgs_cons (pg_name (i := 3) sc_neighbours.nd rfl (by first | exact Or.inl rfl | exact Or.inr rfl)) (pgs_cons (pg_name (i := 4) sc_neighbours.nd rfl (by first | exact Or.inl rfl | exact Or.inr rfl)) pgs_nil)))
      (pss_cons (ps_expr (pe_bm PySem.F.plainAttrs_list PySem.F.slot_list_append PySem.F.type_list_append mt_append (pe_ix ix_list (pv 2) (pv 3) (fun _ _ => rfl)) (pa_cons (pv 4) pa_nil)))
      (pss_cons (ps_expr (pe_bm PySem.F.plainAttrs_list PySem.F.slot_list_append PySem.F.type_list_append mt_append (pe_ix ix_list (pv 2) (pv 4) (fun _ _ => rfl)) (pa_cons (pv 3) pa_nil)))
      pss_nil)))
      (pss_cons (ps_ret (pv 2))
      pss_nil))), by
    rintro ⟨n0, ties0, ⟨⟩⟩
    rw [ue_neighbours]
    show SvO K [.val (em (n0 : Int)), .rd (em (ties0 : (List (Int × Int)))), .no, .no, .no, .no] _ (m_neighbours n0 ties0) fun r => .rd (.ow ((eL (eL (eV (α := Int)))) (r : (List (List Int))))) [.no, .no, .no, .no, .no, .no]
    unfold m_neighbours
    exact (sv_asgN (e := (eL (eL (eV (α := Int))))) (ilt (n := 6) 2 rfl (by decide)) (eo_lc (e := (eL (eV (α := Int)))) (d1 := fun x2 => [.val (em (n0 : Int)), .rd (em (ties0 : (List (Int × Int)))), .no, .no, .no, .val (em (x2 : Int))]) (ew_range1 (ev_val (α := Int) n0 rfl)) (fun x2 => (tg_f (ilt (n := 6) 5 rfl (by decide)))) (by decide) (fun x2 => (eo_L (el_lst (α := Int) (n := 0) (by decide) ei_nil)))) fun v3 near1 =>
    (sv_for (E := fun (s4 : (List (List Int))) => [.val (em (n0 : Int)), .rd (em (ties0 : (List (Int × Int)))), .tr v3 ((eL (eL (eV (α := Int)))) (s4 : (List (List Int)))), .no, .no, .no]) (s0 := near1) (d1 := fun s4 x5 => [.val (em (n0 : Int)), .rd (em (ties0 : (List (Int × Int)))), .tr v3 ((eL (eL (eV (α := Int)))) (s4 : (List (List Int)))), .val (em (x5.1 : Int)), .val (em (x5.2 : Int)), .no]) (bo := (fun (fl : Flow (List (List Int)) (List (List Int))) => match fl with | .nx s4 => .lp [.val (em (n0 : Int)), .rd (em (ties0 : (List (Int × Int)))), .tr v3 ((eL (eL (eV (α := Int)))) (s4 : (List (List Int)))), .no, .no, .no] | .bk s4 => .bk [.val (em (n0 : Int)), .rd (em (ties0 : (List (Int × Int)))), .tr v3 ((eL (eL (eV (α := Int)))) (s4 : (List (List Int)))), .no, .no, .no] | .dn r => .rd (.ow ((eL (eL (eV (α := Int)))) (r : (List (List Int))))) [.no, .no, .no, .no, .no, .no])) (kd := (fun r => some r)) (ew_b (ev_rd (α := (List (Int × Int))) ties0 rfl)) (.same (.same (.same (.same (.same (.same .nil)))))) (fun s4 x5 => (tg_2 (y := x5) (tg_s x5.1 (ilt (n := 6) 3 rfl (by decide))) (tg_s x5.2 (ilt (n := 6) 4 rfl (by decide)))))
    (fun s4 x5 =>
    (sl_app (lo_ix (lo_root (i := 2) (e0 := (eL (eL (eV (α := Int))))) (x := s4) (v := v3) rfl) (ev_val (α := Int) x5.1 rfl)) (ev_val (α := Int) x5.2 rfl) fun near6 =>
    (sl_app (lo_ix (lo_root (i := 2) (e0 := (eL (eL (eV (α := Int))))) (x := near6) (v := v3) rfl) (ev_val (α := Int) x5.2 rfl)) (ev_val (α := Int) x5.1 rfl) fun near7 =>
    (sv_end (.same (.same (.same (.drop (.drop (.same .nil)))))) (Or.inr rfl))))) (fun _ => rfl) (fun _ => rfl) (fun r x h => by cases h; exact ⟨rfl, rfl⟩) fun s4 =>
    (sv_dead (sv_retT (i := 2) (e := (eL (eL (eV (α := Int))))) (x := s4) (es := [.no, .no, .no, .no, .no, .no]) (z := s4) (ilt (n := 6) 2 rfl (by decide)) rfl rfl (.drop (.drop (.same (.same (.same (.same .nil))))))))))⟩
def A_reached {K : PySem.W.Frag} {mg : Str → Option Value} (T : Txt K mg) (t : (List (List Int)) × Int × Unit) : List Ar := [.t ((eL (eL (eV (α := Int)))) (t.1 : (List (List Int)))), .f (em (t.2.1 : Int))]
theorem ok_reached (T : Txt K mg) : FnOk P w K mg base CX0 1 T.a_reached T.fd_reached P_reached (spO K (eD (κ := Int) (eV (α := Int))) (A_reached T) u_reached) :=
  fn_tree T.F_reached sc_reached (fun _ => rfl) fun cdv A outer s H E hr => ⟨_, (pss_cons (ps_set (i := 2) sc_reached.nd rfl (by first | exact Or.inl rfl | exact Or.inr rfl) (pe_disp (pps_cons (pv 1) pe_int pps_nil) rfl rfl (by decide) (by decide)))
      (pss_cons (ps_set (i := 3) sc_reached.nd rfl (by first | exact Or.inl rfl | exact Or.inr rfl) (pe_lst (pa_cons (pv 1) pa_nil)))
      (pss_cons (ps_set (i := 4) sc_reached.nd rfl (by first | exact Or.inl rfl | exact Or.inr rfl) pe_int)
      (pss_cons (ps_while PassesOwn.never (pt_cmpR op_lt (pv 4) (pe_callB c_len (by rfl) T.n_len bt_len (pa_cons (pv 3) pa_nil)) (nomark _))
      (pss_cons (ps_set (i := 5) sc_reached.nd rfl (by first | exact Or.inl rfl | exact Or.inr rfl) (pe_ix ix_list (pv 3) (pv 4) (fun _ _ => rfl)))
      (pss_cons (ps_for PassesOwn.never rfl (pi_list (pe_ix ix_list (pv 0) (pv 5) (fun _ _ => rfl))) (pg_name (i := 6) sc_reached.nd rfl (by first | exact Or.inl rfl | exact Or.inr rfl))
      (pss_cons (ps_if (pt_cmp (pc_dnotin (hu_of hr) (pv 6) (pv 2)))
      (pss_cons (ps_dput (hu_of hr) (pv 2) (pv 6) (pe_op op_add (pe_dget (hu_of hr) (pv 2) (pv 5) (fun _ _ => rfl)) pe_int) rfl)
      (pss_cons (ps_expr (pe_bm PySem.F.plainAttrs_list PySem.F.slot_list_append PySem.F.type_list_append mt_append (pv 3) (pa_cons (pv 6) pa_nil)))
      pss_nil))
      pss_nil)
      pss_nil))
      (pss_cons (ps_aug (i := 4) sc_reached.nd rfl (by first | exact Or.inl rfl | exact Or.inr rfl) pe_int ip_add)
      pss_nil))))
      (pss_cons (ps_ret (pv 2))
      pss_nil))))), by
    rintro ⟨near0, a0, ⟨⟩⟩
    rw [ue_reached]
    show SvO K [.rt ((eL (eL (eV (α := Int)))) (near0 : (List (List Int)))), .val (em (a0 : Int)), .no, .no, .no, .no, .no] _ (m_reached near0 a0) fun r => .rd (.ow ((eD (κ := Int) (eV (α := Int))) (r : (List (Int × Int))))) [.no, .no, .no, .no, .no, .no, .no]
    unfold m_reached
    exact (sv_asgN (e := (eD (κ := Int) (eV (α := Int)))) (ilt (n := 7) 2 rfl (by decide)) (eo_disp1 (ev_val (α := Int) a0 rfl) (eo_V (ev_c_int 0))) fun v2 far1 =>
    (sv_asgN (e := (eL (eV (α := Int)))) (ilt (n := 7) 3 rfl (by decide)) (eo_L (el_lst (n := 1) (by decide) (ei_cons (ev_val (α := Int) a0 rfl) ei_nil))) fun v4 waiting3 =>
    (sv_asg (ev_c_int 0) (fun _ => tg_f (ilt (n := 7) 4 rfl (by decide))) fun k5 =>
    (sv_while (E := fun (s6 : ((List (Int × Int)) × ((List Int) × Int))) => [.rt ((eL (eL (eV (α := Int)))) (near0 : (List (List Int)))), .val (em (a0 : Int)), .tr v2 ((eD (κ := Int) (eV (α := Int))) (s6.1 : (List (Int × Int)))), .tr v4 ((eL (eV (α := Int))) (s6.2.1 : (List Int))), .val (em (s6.2.2 : Int)), .no, .no]) (s0 := (far1, waiting3, k5)) (bo := (fun (fl : Flow ((List (Int × Int)) × ((List Int) × Int)) (List (Int × Int))) => match fl with | .nx s6 => .lp [.rt ((eL (eL (eV (α := Int)))) (near0 : (List (List Int)))), .val (em (a0 : Int)), .tr v2 ((eD (κ := Int) (eV (α := Int))) (s6.1 : (List (Int × Int)))), .tr v4 ((eL (eV (α := Int))) (s6.2.1 : (List Int))), .val (em (s6.2.2 : Int)), .no, .no] | .bk s6 => .bk [.rt ((eL (eL (eV (α := Int)))) (near0 : (List (List Int)))), .val (em (a0 : Int)), .tr v2 ((eD (κ := Int) (eV (α := Int))) (s6.1 : (List (Int × Int)))), .tr v4 ((eL (eV (α := Int))) (s6.2.1 : (List Int))), .val (em (s6.2.2 : Int)), .no, .no] | .dn r => .rd (.ow ((eD (κ := Int) (eV (α := Int))) (r : (List (Int × Int))))) [.no, .no, .no, .no, .no, .no, .no])) (kd := (fun r => some r)) (n := fuel) (.same (.same (.same (.same (.same (.same (.same .nil))))))) (fun s6 => (et_test (ev_lt (ev_val (α := Int) s6.2.2 rfl) (ev_rlen (er_tr (e := (eL (eV (α := Int)))) s6.2.1 rfl)))))
    (fun s6 =>
    (sv_asg (ev_fix (fl_r (er_tr (e := (eL (eV (α := Int)))) s6.2.1 rfl)) (ev_val (α := Int) s6.2.2 rfl)) (fun _ => tg_f (ilt (n := 7) 5 rfl (by decide))) fun here7 =>
    (sv_for (E := fun (s8 : ((List (Int × Int)) × (List Int))) => [.rt ((eL (eL (eV (α := Int)))) (near0 : (List (List Int)))), .val (em (a0 : Int)), .tr v2 ((eD (κ := Int) (eV (α := Int))) (s8.1 : (List (Int × Int)))), .tr v4 ((eL (eV (α := Int))) (s8.2 : (List Int))), .val (em (s6.2.2 : Int)), .val (em (here7 : Int)), .no]) (s0 := (s6.1, s6.2.1)) (d1 := fun s8 x9 => [.rt ((eL (eL (eV (α := Int)))) (near0 : (List (List Int)))), .val (em (a0 : Int)), .tr v2 ((eD (κ := Int) (eV (α := Int))) (s8.1 : (List (Int × Int)))), .tr v4 ((eL (eV (α := Int))) (s8.2 : (List Int))), .val (em (s6.2.2 : Int)), .val (em (here7 : Int)), .val (em (x9 : Int))]) (bo := (fun (fl : Flow ((List (Int × Int)) × (List Int)) (List (Int × Int))) => match fl with | .nx s8 => .lp [.rt ((eL (eL (eV (α := Int)))) (near0 : (List (List Int)))), .val (em (a0 : Int)), .tr v2 ((eD (κ := Int) (eV (α := Int))) (s8.1 : (List (Int × Int)))), .tr v4 ((eL (eV (α := Int))) (s8.2 : (List Int))), .val (em (s6.2.2 : Int)), .val (em (here7 : Int)), .no] | .bk s8 => .bk [.rt ((eL (eL (eV (α := Int)))) (near0 : (List (List Int)))), .val (em (a0 : Int)), .tr v2 ((eD (κ := Int) (eV (α := Int))) (s8.1 : (List (Int × Int)))), .tr v4 ((eL (eV (α := Int))) (s8.2 : (List Int))), .val (em (s6.2.2 : Int)), .val (em (here7 : Int)), .no] | .dn r => .rd (.ow ((eD (κ := Int) (eV (α := Int))) (r : (List (Int × Int))))) [.no, .no, .no, .no, .no, .no, .no])) (kd := (fun r => some (Flow.dn r))) (ew_r (m := .b) (fun z => nomatch z) (er_ix (er_rt (e := (eL (eL (eV (α := Int))))) near0 rfl) (ev_val (α := Int) here7 rfl))) (.same (.same (.same (.same (.same (.same (.same .nil))))))) (fun s8 x9 => (tg_f (ilt (n := 7) 6 rfl (by decide))))
    (fun s8 x9 =>
    (sv_ifs (et_B (ev_dnin (e := (eV (α := Int))) (er_tr (e := (eD (κ := Int) (eV (α := Int)))) s8.1 rfl) (fun kvs => dk_D kvs) (ev_val (α := Int) x9 rfl)))
    (sv_assoc (sl_dput (lo_root (i := 2) (e0 := (eD (κ := Int) (eV (α := Int)))) (x := s8.1) (v := v2) rfl) (ev_add (ev_rV (er_key (e := (eV (α := Int))) (er_tr (e := (eD (κ := Int) (eV (α := Int)))) s8.1 rfl) (fun kvs => dk_D kvs) (ev_val (α := Int) here7 rfl))) (ev_c_int 1)) (ev_val (α := Int) x9 rfl) fun far10 =>
    (sv_assoc (sl_app (lo_root (i := 3) (e0 := (eL (eV (α := Int)))) (x := s8.2) (v := v4) rfl) (ev_val (α := Int) x9 rfl) fun waiting11 =>
    (sv_nx (sv_end (.same (.same (.same (.same (.same (.same (.drop .nil))))))) (Or.inr rfl)))))))
    (sv_nx (sv_end (.same (.same (.same (.same (.same (.same (.drop .nil))))))) (Or.inr rfl))))) (fun _ => rfl) (fun _ => rfl) (fun r x h => by cases h; exact ⟨rfl, rfl⟩) fun s8 =>
    (sv_aug (x0 := s6.2.2) (ilt (n := 7) 4 rfl (by decide)) rfl (ev_c_int 1) fun k12 =>
    (sv_end (.same (.same (.same (.same (.same (.drop (.same .nil))))))) (Or.inr rfl)))))) (fun _ => rfl) (fun _ => rfl) (fun r x h => by cases h; exact ⟨rfl, rfl⟩) fun s6 =>
    (sv_dead (sv_retT (i := 2) (e := (eD (κ := Int) (eV (α := Int)))) (x := s6.1) (es := [.no, .no, .no, .no, .no, .no, .no]) (z := s6.1) (ilt (n := 7) 2 rfl (by decide)) rfl rfl (.drop (.drop (.same (.drop (.drop (.same (.same .nil)))))))))))))⟩
def A_groups {K : PySem.W.Frag} {mg : Str → Option Value} (T : Txt K mg) (t : Int × (List (Int × Int)) × Unit) : List Ar := [.f (em (t.1 : Int)), .r (em (t.2.1 : (List (Int × Int))))]
theorem ok_groups (T : Txt K mg) : FnOk P w K mg base CX0 2 T.a_groups T.fd_groups P_groups (spO K (eL (eL (eV (α := Int)))) (A_groups T) u_groups) :=
  fn_tree T.F_groups sc_groups (fun _ => rfl) fun cdv A outer s H E hr => ⟨_, (pss_cons (ps_set (i := 2) sc_groups.nd rfl (by first | exact Or.inl rfl | exact Or.inr rfl) (pe_call (ok_neighbours T) (hr.mono (by decide)) (by rfl) T.m_neighbours T.F_neighbours.kp T.b_neighbours .nil pass0 (pa_cons (pv 0) (pa_cons (pv 1) pa_nil))))
      (pss_cons (ps_set (i := 3) sc_groups.nd rfl (by first | exact Or.inl rfl | exact Or.inr rfl) pe_dnewK)
      (pss_cons (ps_set (i := 4) sc_groups.nd rfl (by first | exact Or.inl rfl | exact Or.inr rfl) (pe_lst pa_nil))
      (pss_cons (ps_for PassesOwn.never rfl (pi_range1 (by rfl) T.n_range (pa_cons (pv 0) pa_nil)) (pg_name (i := 5) sc_groups.nd rfl (by first | exact Or.inl rfl | exact Or.inr rfl))
      (pss_cons (ps_if (pt_cmp (pc_dnotin (hu_of hr) (pv 5) (pv 3)))
      (pss_cons (ps_set (i := 6) sc_groups.nd rfl (by first | exact Or.inl rfl | exact Or.inr rfl) (pe_callB (c_sortedDI rfl) (by rfl) T.n_sorted bt_sorted (pa_cons (pe_call (ok_reached T) (hr.mono (by decide)) (by rfl) T.m_reached T.F_reached.kp T.b_reached .nil pass0 (pa_cons (pv 2) (pa_cons (pv 5) pa_nil))) pa_nil)))
      (pss_cons (ps_for PassesOwn.never rfl (pi_list (pv 6)) (pg_name (i := 7) sc_groups.nd rfl (by first | exact Or.inl rfl | exact Or.inr rfl))
      (pss_cons (ps_dput (hu_of hr) (pv 3) (pv 7) pe_bl rfl)
      pss_nil))
      (pss_cons (ps_expr (pe_bm PySem.F.plainAttrs_list PySem.F.slot_list_append PySem.F.type_list_append mt_append (pv 4) (pa_cons (pv 6) pa_nil)))
      pss_nil)))
      pss_nil)
      pss_nil))
      (pss_cons (ps_ret (pv 4))
      pss_nil))))), by
    rintro ⟨n0, ties0, ⟨⟩⟩
    rw [ue_groups]
    show SvO K [.val (em (n0 : Int)), .rd (em (ties0 : (List (Int × Int)))), .no, .no, .no, .no, .no, .no] _ (m_groups n0 ties0) fun r => .rd (.ow ((eL (eL (eV (α := Int)))) (r : (List (List Int))))) [.no, .no, .no, .no, .no, .no, .no, .no]
    unfold m_groups
    exact (sv_asgN (e := (eL (eL (eV (α := Int))))) (ilt (n := 8) 2 rfl (by decide)) (eo_call (ea_f (ev_val (α := Int) n0 rfl) (ea_r (ev_rd (α := (List (Int × Int))) ties0 rfl) ea_nil))) fun v2 near1 =>
    (sv_asgN (e := (eD (κ := Int) (eV (α := Bool)))) (ilt (n := 8) 3 rfl (by decide)) (eo_dnewI (e := (eV (α := Bool)))) fun v4 seen3 =>
    (sv_asgN (e := (eL (eL (eV (α := Int))))) (ilt (n := 8) 4 rfl (by decide)) (eo_nil (e := (eL (eV (α := Int)))) (el_lst (α := Int) (n := 0) (by decide) ei_nil)) fun v6 rows5 =>
    (sv_for (E := fun (s7 : ((List (Int × Bool)) × (List (List Int)))) => [.val (em (n0 : Int)), .rd (em (ties0 : (List (Int × Int)))), .tr v2 ((eL (eL (eV (α := Int)))) (near1 : (List (List Int)))), .tr v4 ((eD (κ := Int) (eV (α := Bool))) (s7.1 : (List (Int × Bool)))), .tr v6 ((eL (eL (eV (α := Int)))) (s7.2 : (List (List Int)))), .no, .no, .no]) (s0 := (seen3, rows5)) (d1 := fun s7 x8 => [.val (em (n0 : Int)), .rd (em (ties0 : (List (Int × Int)))), .tr v2 ((eL (eL (eV (α := Int)))) (near1 : (List (List Int)))), .tr v4 ((eD (κ := Int) (eV (α := Bool))) (s7.1 : (List (Int × Bool)))), .tr v6 ((eL (eL (eV (α := Int)))) (s7.2 : (List (List Int)))), .val (em (x8 : Int)), .no, .no]) (bo := (fun (fl : Flow ((List (Int × Bool)) × (List (List Int))) (List (List Int))) => match fl with | .nx s7 => .lp [.val (em (n0 : Int)), .rd (em (ties0 : (List (Int × Int)))), .tr v2 ((eL (eL (eV (α := Int)))) (near1 : (List (List Int)))), .tr v4 ((eD (κ := Int) (eV (α := Bool))) (s7.1 : (List (Int × Bool)))), .tr v6 ((eL (eL (eV (α := Int)))) (s7.2 : (List (List Int)))), .no, .no, .no] | .bk s7 => .bk [.val (em (n0 : Int)), .rd (em (ties0 : (List (Int × Int)))), .tr v2 ((eL (eL (eV (α := Int)))) (near1 : (List (List Int)))), .tr v4 ((eD (κ := Int) (eV (α := Bool))) (s7.1 : (List (Int × Bool)))), .tr v6 ((eL (eL (eV (α := Int)))) (s7.2 : (List (List Int)))), .no, .no, .no] | .dn r => .rd (.ow ((eL (eL (eV (α := Int)))) (r : (List (List Int))))) [.no, .no, .no, .no, .no, .no, .no, .no])) (kd := (fun r => some r)) (ew_range1 (ev_val (α := Int) n0 rfl)) (.same (.same (.same (.same (.same (.same (.same (.same .nil)))))))) (fun s7 x8 => (tg_f (ilt (n := 8) 5 rfl (by decide))))
    (fun s7 x8 =>
    (sv_ifs (et_B (ev_dnin (e := (eV (α := Bool))) (er_tr (e := (eD (κ := Int) (eV (α := Bool)))) s7.1 rfl) (fun kvs => dk_D kvs) (ev_val (α := Int) x8 rfl)))
    (sv_assoc (sv_asgN (e := (eL (eV (α := Int)))) (ilt (n := 8) 6 rfl (by decide)) (eo_L (el_sortDO (e := (eV (α := Int))) (eo_call (ea_t (er_tr (e := (eL (eL (eV (α := Int))))) near1 rfl) (.inl rfl) (ea_f (ev_val (α := Int) x8 rfl) ea_nil))))) fun v10 members9 =>
    (sv_assoc (sv_forT (i := 6) (v := v10) (xs := members9) (E := fun (s11 : (List (Int × Bool))) => [.val (em (n0 : Int)), .rd (em (ties0 : (List (Int × Int)))), .tr v2 ((eL (eL (eV (α := Int)))) (near1 : (List (List Int)))), .tr v4 ((eD (κ := Int) (eV (α := Bool))) (s11 : (List (Int × Bool)))), .tr v6 ((eL (eL (eV (α := Int)))) (s7.2 : (List (List Int)))), .val (em (x8 : Int)), .tr v10 ((eL (eV (α := Int))) (members9 : (List Int))), .no]) (s0 := s7.1) (d1 := fun s11 x12 => [.val (em (n0 : Int)), .rd (em (ties0 : (List (Int × Int)))), .tr v2 ((eL (eL (eV (α := Int)))) (near1 : (List (List Int)))), .tr v4 ((eD (κ := Int) (eV (α := Bool))) (s11 : (List (Int × Bool)))), .tr v6 ((eL (eL (eV (α := Int)))) (s7.2 : (List (List Int)))), .val (em (x8 : Int)), .tr v10 ((eL (eV (α := Int))) (members9 : (List Int))), .val (em (x12 : Int))]) (bo := (fun (fl : Flow (List (Int × Bool)) (List (List Int))) => match fl with | .nx s11 => .lp [.val (em (n0 : Int)), .rd (em (ties0 : (List (Int × Int)))), .tr v2 ((eL (eL (eV (α := Int)))) (near1 : (List (List Int)))), .tr v4 ((eD (κ := Int) (eV (α := Bool))) (s11 : (List (Int × Bool)))), .tr v6 ((eL (eL (eV (α := Int)))) (s7.2 : (List (List Int)))), .val (em (x8 : Int)), .tr v10 ((eL (eV (α := Int))) (members9 : (List Int))), .no] | .bk s11 => .bk [.val (em (n0 : Int)), .rd (em (ties0 : (List (Int × Int)))), .tr v2 ((eL (eL (eV (α := Int)))) (near1 : (List (List Int)))), .tr v4 ((eD (κ := Int) (eV (α := Bool))) (s11 : (List (Int × Bool)))), .tr v6 ((eL (eL (eV (α := Int)))) (s7.2 : (List (List Int)))), .val (em (x8 : Int)), .tr v10 ((eL (eV (α := Int))) (members9 : (List Int))), .no] | .dn r => .rd (.ow ((eL (eL (eV (α := Int)))) (r : (List (List Int))))) [.no, .no, .no, .no, .no, .no, .no, .no])) (kd := (fun r => some (Flow.dn r))) (fun _ => rfl) (.same (.same (.same (.same (.same (.same (.same (.same .nil)))))))) (fun s11 x12 => (tg_f (ilt (n := 8) 7 rfl (by decide))))
    (fun s11 x12 =>
    (sl_dput (lo_root (i := 3) (e0 := (eD (κ := Int) (eV (α := Bool)))) (x := s11) (v := v4) rfl) (ev_c_bl true) (ev_val (α := Int) x12 rfl) fun seen13 =>
    (sv_end (.same (.same (.same (.same (.same (.same (.same (.drop .nil)))))))) (Or.inr rfl)))) (fun _ => rfl) (fun _ => rfl) (fun r x h => by cases h; exact ⟨rfl, rfl⟩) fun s11 =>
    (sv_assoc (sx_app2 (i := 4) (v := v6) (e := (eL (eV (α := Int)))) (xs := s7.2) (d := fun (s16 : Unit) => [.val (em (n0 : Int)), .rd (em (ties0 : (List (Int × Int)))), .tr v2 ((eL (eL (eV (α := Int)))) (near1 : (List (List Int)))), .tr v4 ((eD (κ := Int) (eV (α := Bool))) (s11 : (List (Int × Bool)))), .tr v6 ((eL (eL (eV (α := Int)))) (s7.2 : (List (List Int)))), .val (em (x8 : Int)), .no, .no]) rfl (ex_mv (e := (eL (eV (α := Int)))) (x := members9) (ilt (n := 8) 6 rfl (by decide)) rfl) (fun _ => rfl) fun z15 =>
    (sv_nx (sv_end (.same (.same (.same (.same (.same (.drop (.same (.same .nil)))))))) (Or.inr rfl)))))))))
    (sv_nx (sv_end (.same (.same (.same (.same (.same (.drop (.same (.same .nil)))))))) (Or.inr rfl))))) (fun _ => rfl) (fun _ => rfl) (fun r x h => by cases h; exact ⟨rfl, rfl⟩) fun s7 =>
    (sv_dead (sv_retT (i := 4) (e := (eL (eL (eV (α := Int))))) (x := s7.2) (es := [.no, .no, .no, .no, .no, .no, .no, .no]) (z := s7.2) (ilt (n := 8) 4 rfl (by decide)) rfl rfl (.drop (.drop (.drop (.drop (.same (.same (.same (.same .nil))))))))))))))⟩
def A_whole {K : PySem.W.Frag} {mg : Str → Option Value} (T : Txt K mg) (t : PyData × Unit) : List Ar := [.f (em (t.1 : PyData))]
theorem ok_whole (T : Txt K mg) : FnOk P w K mg base CX0 1 T.a_whole T.fd_whole P_whole (spP K (A_whole T) u_whole) :=
  fn_val T.F_whole sc_whole (fun _ => rfl) fun cdv A outer s H E hr => ⟨_, (pss_cons (ps_ret (pe_and (pe_callB call_isi (by rfl) T.n_isinstance bt_isinstance (pa_cons (pv 0) (pa_cons (pe_bltn (v := .ty "int") (by rfl) T.n_int bt_int rfl) pa_nil))) (pe_one (pe_not (pe_callB call_isi (by rfl) T.n_isinstance bt_isinstance (pa_cons (pv 0) (pa_cons (pe_bltn (v := .ty "bool") (by rfl) T.n_bool bt_bool rfl) pa_nil)))))))
      pss_nil), by
    rintro ⟨found0, ⟨⟩⟩
    rw [ue_whole]
    show SvO K [.val (em (found0 : PyData))] _ (m_whole found0) fun r => .rd (.val (em (r : Bool))) [.no]
    unfold m_whole
    exact (sv_dead (sv_retV (w := (fun y => y)) (es := [.no]) (ev_andV (ev_isi kit_int (ev_val (α := PyData) found0 rfl)) (ev_notV (ev_isi kit_bool (ev_val (α := PyData) found0 rfl)))) (fun _ => rfl) (.drop .nil)))⟩
def A_alike {K : PySem.W.Frag} {mg : Str → Option Value} (T : Txt K mg) (t : (List (List Int)) × (List (List Int)) × Unit) : List Ar := [.r (em (t.1 : (List (List Int)))), .r (em (t.2.1 : (List (List Int))))]
theorem ok_alike (T : Txt K mg) : FnOk P w K mg base CX0 2 T.a_alike T.fd_alike P_alike (spP K (A_alike T) u_alike) :=
  fn_val T.F_alike sc_alike (fun _ => rfl) fun cdv A outer s H E hr => ⟨_, (pss_cons (ps_if (PW.pt (pw_or (pt_not (pt_val (pe_callB call_isi (by rfl) T.n_isinstance bt_isinstance (pa_cons (pv 0) (pa_cons (pe_bltn (v := .ty "list") (by rfl) T.n_list bt_list rfl) pa_nil))))) (pw_or1 (pt_cmpR op_ne (pe_callB c_len (by rfl) T.n_len bt_len (pa_cons (pv 0) pa_nil)) (pe_callB c_len (by rfl) T.n_len bt_len (pa_cons (pv 1) pa_nil)) (nomark _)))))
      (pss_cons (ps_ret pe_bl)
      pss_nil)
      pss_nil)
      (pss_cons (ps_for PassesOwn.never rfl (pi_range1 (by rfl) T.n_range (pa_cons (pe_callB c_len (by rfl) T.n_len bt_len (pa_cons (pv 1) pa_nil)) pa_nil)) (pg_name (i := 2) sc_alike.nd rfl (by first | exact Or.inl rfl | exact Or.inr rfl))
      (pss_cons (ps_if (PW.pt (pw_or (pt_not (pt_val (pe_callB call_isi (by rfl) T.n_isinstance bt_isinstance (pa_cons (pe_ix ix_list (pv 0) (pv 2) (fun _ _ => rfl)) (pa_cons (pe_bltn (v := .ty "list") (by rfl) T.n_list bt_list rfl) pa_nil))))) (pw_or1 (pt_not (pt_val (pe_callB (cr_all rfl) (by rfl) T.n_all bt_all (pa_cons (pe_lc (own := [("_law_x", 3)]) (g := (gName 3)) (tt := tYes) rfl sc_alike.nd (pi_list (pe_ix ix_list (pv 0) (pv 2) (fun _ _ => rfl))) (blkOk_by (own := [("_law_x", 3)]) (N := N_alike) (sc := defScope s_alike) (by decide +kernel)) (fun _ _ _ _ _ => (pg_name (i := 3) sc_alike.nd rfl (by first | exact Or.inl rfl | exact Or.inr rfl))) (fun _ _ _ _ _ => pts_nil) (fun _ _ _ _ _ => (pe_call (ok_whole T) (hr.mono (by decide)) (by rfl) T.m_whole T.F_whole.kp T.b_whole .nil pass0 (pa_cons (pv 3) pa_nil)))) pa_nil)))))))
      (pss_cons (ps_ret pe_bl)
      pss_nil)
      pss_nil)
      pss_nil))
      (pss_cons (ps_ret (pe_cmpR (op_eqD hr.units) (pv 0) (pv 1) (nomark _)))
      pss_nil))), by
    rintro ⟨found0, duehere0, ⟨⟩⟩
    rw [ue_alike]
    show SvO K [.rd (em (found0 : (List (List Int)))), .rd (em (duehere0 : (List (List Int)))), .no, .no] _ (m_alike found0 duehere0) fun r => .rd (.val (em (r : Bool))) [.no, .no, .no, .no]
    unfold m_alike
    exact (sv_ifs (et_or (et_not (et_B (ev_isi kit_list (ev_rd (α := (List (List Int))) found0 rfl)))) (et_test (ev_ne (ev_len (ev_rd (α := (List (List Int))) found0 rfl)) (ev_len (ev_rd (α := (List (List Int))) duehere0 rfl)))))
    (sv_assoc (sv_dead (sv_retV (w := (fun y => y)) (es := [.no, .no, .no, .no]) (ev_c_bl false) (fun _ => rfl) (.drop (.drop (.same (.same .nil)))))))
    (sv_nx (sv_for (E := fun (s1 : Unit) => [.rd (em (found0 : (List (List Int)))), .rd (em (duehere0 : (List (List Int)))), .no, .no]) (s0 := ()) (d1 := fun s1 x2 => [.rd (em (found0 : (List (List Int)))), .rd (em (duehere0 : (List (List Int)))), .val (em (x2 : Int)), .no]) (bo := (fun (fl : Flow Unit Bool) => match fl with | .nx s1 => .lp [.rd (em (found0 : (List (List Int)))), .rd (em (duehere0 : (List (List Int)))), .no, .no] | .bk s1 => .bk [.rd (em (found0 : (List (List Int)))), .rd (em (duehere0 : (List (List Int)))), .no, .no] | .dn r => .rd (.val (em (r : Bool))) [.no, .no, .no, .no])) (kd := (fun r => some r)) (ew_range1 (ev_len (ev_rd (α := (List (List Int))) duehere0 rfl))) (.same (.same (.same (.same .nil)))) (fun s1 x2 => (tg_f (ilt (n := 4) 2 rfl (by decide))))
    (fun s1 x2 =>
    (sv_ifs (et_or (et_not (et_B (ev_isi kit_list (ev_ix (ev_rd (α := (List (List Int))) found0 rfl) (ev_val (α := Int) x2 rfl))))) (et_not (et_B (ev_all (ev_L (el_lc (d1 := fun x3 => [.rd (em (found0 : (List (List Int)))), .rd (em (duehere0 : (List (List Int)))), .val (em (x2 : Int)), .val (em (x3 : Int))]) (ew_b (ev_ix (ev_rd (α := (List (List Int))) found0 rfl) (ev_val (α := Int) x2 rfl))) (fun x3 => (tg_s x3 (ilt (n := 4) 3 rfl (by decide)))) (by decide) (fun x3 => et_yes) (fun x3 => (ev_call (ea_f (ev_any (ev_val (α := Int) x3 rfl)) ea_nil)))))))))
    (sv_assoc (sv_dead (sv_retV (w := (fun y => (Flow.dn y))) (es := [.no, .no, .no, .no]) (ev_c_bl false) (fun _ => rfl) (.drop (.drop (.drop (.same .nil)))))))
    (sv_nx (sv_end (.same (.same (.drop (.same .nil)))) (Or.inr rfl))))) (fun _ => rfl) (fun _ => rfl) (fun r x h => by cases h; exact ⟨rfl, rfl⟩) fun s1 =>
    (sv_dead (sv_retV (w := (fun y => y)) (es := [.no, .no, .no, .no]) (ev_eqd (by decide) (by decide) (ev_rd (α := (List (List Int))) found0 rfl) (ev_rd (α := (List (List Int))) duehere0 rfl)) (fun _ => rfl) (.drop (.drop (.same (.same .nil)))))))))⟩
def A_law {K : PySem.W.Frag} {mg : Str → Option Value} (T : Txt K mg) (t : List Int × Unit) : List Ar := [.s t.1]
theorem ok_law (T : Txt K mg) : FnOk P w K mg base CX0 3 T.a_law T.fd_law P_law (spP K (A_law T) u_law) :=
  fn_val T.F_law sc_law (fun _ => rfl) fun cdv A outer s H E hr => ⟨_, (pss_cons (ps_set (i := 1) sc_law.nd rfl (by first | exact Or.inl rfl | exact Or.inr rfl) (pe_call (ok_count T) (hr.mono (by decide)) (by rfl) T.m_count T.F_count.kp T.b_count .nil pass0 (pa_cons (pe_op op_fdiv (pe_call (ok_cellat T) (hr.mono (by decide)) (by rfl) T.m_cellat T.F_cellat.kp T.b_cellat .nil pass0 (pa_cons (pv 0) (pa_cons pe_int pa_nil))) pe_int) pa_nil)))
      (pss_cons (ps_set (i := 2) sc_law.nd rfl (by first | exact Or.inl rfl | exact Or.inr rfl) (pe_call (ok_net T) (hr.mono (by decide)) (by rfl) T.m_net T.F_net.kp T.b_net .nil pass0 (pa_cons (pv 0) (pa_cons (pv 1) pa_nil))))
      (pss_cons (ps_set (i := 3) sc_law.nd rfl (by first | exact Or.inl rfl | exact Or.inr rfl) (pe_callTy c_list (by rfl) T.n_list bt_list (pa_cons (pv 2) pa_nil)))
      (pss_cons (ps_set (i := 4) sc_law.nd rfl (by first | exact Or.inl rfl | exact Or.inr rfl) (pe_call (ok_due T) (hr.mono (by decide)) (by rfl) T.m_due T.F_due.kp T.b_due .nil pass0 (pa_cons (pv 1) (pa_cons (pv 2) pa_nil))))
      (pss_cons (ps_set (i := 5) sc_law.nd rfl (by first | exact Or.inl rfl | exact Or.inr rfl) (pe_call (ok_groups T) (hr.mono (by decide)) (by rfl) T.m_groups T.F_groups.kp T.b_groups .nil pass0 (pa_cons (pv 1) (pa_cons (pv 3) pa_nil))))
      (pss_cons (ps_if (PW.pt (pw_or (pt_not (pt_val (pe_call (ok_alike T) (hr.mono (by decide)) (by rfl) T.m_alike T.F_alike.kp T.b_alike .nil pass0 (pa_cons (pv 5) (pa_cons (pv 4) pa_nil))))) (pw_or1 (pt_cmpR (op_neD hr.units) (pv 3) (pv 2) (nomark _)))))
      (pss_cons (ps_ret pe_bl)
      pss_nil)
      pss_nil)
      (pss_cons (ps_expr (pe_bm PySem.F.plainAttrs_list PySem.F.slot_list_append PySem.F.type_list_append mt_append (pe_ix ix_list (pv 5) pe_int (fun _ _ => rfl)) (pa_cons (pv 1) pa_nil)))
      (pss_cons (ps_expr (pe_bm PySem.F.plainAttrs_list PySem.F.slot_list_append PySem.F.type_list_append mt_append (pv 5) (pa_cons (pe_lst (pa_cons (pv 1) pa_nil)) pa_nil)))
      (pss_cons (ps_ret (pe_and (pe_call (ok_alike T) (hr.mono (by decide)) (by rfl) T.m_alike T.F_alike.kp T.b_alike .nil pass0 (pa_cons (pe_call (ok_groups T) (hr.mono (by decide)) (by rfl) T.m_groups T.F_groups.kp T.b_groups .nil pass0 (pa_cons (pv 1) (pa_cons (pv 3) pa_nil))) (pa_cons (pv 4) pa_nil))) (pe_one (pe_call (ok_alike T) (hr.mono (by decide)) (by rfl) T.m_alike T.F_alike.kp T.b_alike .nil pass0 (pa_cons (pe_call (ok_groups T) (hr.mono (by decide)) (by rfl) T.m_groups T.F_groups.kp T.b_groups .nil pass0 (pa_cons (pv 1) (pa_cons (pe_slice3 (pv 2) po_none po_none (po_some (pe_un un_neg pe_int))) pa_nil))) (pa_cons (pv 4) pa_nil))))))
      pss_nil))))))))), by
    rintro ⟨script0, ⟨⟩⟩
    rw [ue_law]
    show SvO K [.scr script0, .no, .no, .no, .no, .no] _ (m_law script0) fun r => .rd (.val (em (r : Bool))) [.no, .no, .no, .no, .no, .no]
    unfold m_law
    exact (sv_asg (ev_call (ea_f (ev_fdiv (ev_call (ea_s rfl (ea_f (ev_c_int 0) ea_nil))) (ev_c_int 2)) ea_nil)) (fun _ => tg_f (ilt (n := 6) 1 rfl (by decide))) fun n1 =>
    (sv_asg (ev_call (ea_s rfl (ea_f (ev_val (α := Int) n1 rfl) ea_nil))) (fun _ => tg_f (ilt (n := 6) 2 rfl (by decide))) fun tieshere2 =>
    (sv_asgN (e := (eL (eV (α := (Int × Int))))) (ilt (n := 6) 3 rfl (by decide)) (eo_L (el_flist (fl_f (ev_val (α := (List (Int × Int))) tieshere2 rfl)))) fun v4 handed3 =>
    (sv_asg (ev_call (ea_f (ev_val (α := Int) n1 rfl) (ea_r (ev_val (α := (List (Int × Int))) tieshere2 rfl) ea_nil))) (fun _ => tg_f (ilt (n := 6) 4 rfl (by decide))) fun duehere5 =>
    (sv_asgN (e := (eL (eL (eV (α := Int))))) (ilt (n := 6) 5 rfl (by decide)) (eo_call (ea_f (ev_val (α := Int) n1 rfl) (ea_r (ev_rD (er_tr (e := (eL (eV (α := (Int × Int))))) handed3 rfl) (dat_L dat_V)) ea_nil))) fun v7 first6 =>
    (sv_ifs (et_or (et_not (et_B (ev_call (ea_r (ev_rD (er_tr (e := (eL (eL (eV (α := Int))))) first6 rfl) (dat_L (dat_L dat_V))) (ea_r (ev_val (α := (List (List Int))) duehere5 rfl) ea_nil))))) (et_test (ev_ned (by decide) (by decide) (ev_rD (er_tr (e := (eL (eV (α := (Int × Int))))) handed3 rfl) (dat_L dat_V)) (ev_val (α := (List (Int × Int))) tieshere2 rfl))))
    (sv_assoc (sv_dead (sv_retV (w := (fun y => y)) (es := [.no, .no, .no, .no, .no, .no]) (ev_c_bl false) (fun _ => rfl) (.drop (.drop (.drop (.drop (.drop (.drop .nil)))))))))
    (sv_nx (sl_app (lo_ix (lo_root (i := 5) (e0 := (eL (eL (eV (α := Int))))) (x := first6) (v := v7) rfl) (ev_c_int 0)) (ev_val (α := Int) n1 rfl) fun first8 =>
    (sl_appN (lo_root (i := 5) (e0 := (eL (eL (eV (α := Int))))) (x := first8) (v := v7) rfl) (eo_L (el_lst (n := 1) (by decide) (ei_cons (ev_val (α := Int) n1 rfl) ei_nil))) fun first9 =>
    (sv_dead (sv_retV (w := (fun y => y)) (es := [.no, .no, .no, .no, .no, .no]) (ev_andV (ev_call (ea_r (ev_fz (dat_L (dat_L dat_V)) (eo_call (ea_f (ev_val (α := Int) n1 rfl) (ea_r (ev_rD (er_tr (e := (eL (eV (α := (Int × Int))))) handed3 rfl) (dat_L dat_V)) ea_nil)))) (ea_r (ev_val (α := (List (List Int))) duehere5 rfl) ea_nil))) (ev_call (ea_r (ev_fz (dat_L (dat_L dat_V)) (eo_call (ea_f (ev_val (α := Int) n1 rfl) (ea_r (ev_L (el_fstep (fl_f (ev_val (α := (List (Int × Int))) tieshere2 rfl)) eb_no eb_no (eb_at (ev_neg (ev_c_int 1))))) ea_nil)))) (ea_r (ev_val (α := (List (List Int))) duehere5 rfl) ea_nil)))) (fun _ => rfl) (.drop (.drop (.drop (.drop (.drop (.drop .nil)))))))))))))))))⟩
end
end Tw
/-! Plain facts about the optional answers. -/
namespace Tw
open PySem L2
section
variable {α β γ δ S ρ τ : Type}
theorem bind_s (x : α) (f : α → Option β) : Option.bind (some x) f = f x := (rfl)
theorem map_s (x : α) (f : α → β) : Option.map f (some x) = some (f x) := (rfl)
@[simp] theorem oadd_s (a b : Int) : oadd (some a) (some b) = some (a + b) := (rfl)
@[simp] theorem osub_s (a b : Int) : osub (some a) (some b) = some (a - b) := (rfl)
@[simp] theorem oneg_s (a : Int) : oneg (some a) = some (-a) := (rfl)
@[simp] theorem olt_s (a b : Int) : olt (some a) (some b) = some (decide (a < b)) := (rfl)
@[simp] theorem ole_s (a b : Int) : ole (some a) (some b) = some (decide (a ≤ b)) := (rfl)
@[simp] theorem ogt_s (a b : Int) : ogt (some a) (some b) = some (decide (b < a)) := (rfl)
@[simp] theorem oge_s (a b : Int) : oge (some a) (some b) = some (decide (b ≤ a)) := (rfl)
@[simp] theorem oeq_s [DecidableEq α] (a b : α) : oeq (some a) (some b) = some (decide (a = b)) := (rfl)
@[simp] theorem one_s [DecidableEq α] (a b : α) : one (some a) (some b) = some (!decide (a = b)) := (rfl)
@[simp] theorem oeqd_s [Em α] [Em β] (a : α) (b : β) : oeqd (some a) (some b) = some (PyData.eqv (em a) (em b)) := (rfl)
@[simp] theorem oned_s [Em α] [Em β] (a : α) (b : β) : oned (some a) (some b) = some (!PyData.eqv (em a) (em b)) := (rfl)
@[simp] theorem onot_s (a : Bool) : onot (some a) = some (!a) := (rfl)
@[simp] theorem oand_t (b : Option Bool) : oand (some true) b = b := (rfl)
@[simp] theorem oand_f (b : Option Bool) : oand (some false) b = some false := (rfl)
@[simp] theorem oor_t (b : Option Bool) : oor (some true) b = some true := (rfl)
@[simp] theorem oor_f (b : Option Bool) : oor (some false) b = b := (rfl)
theorem oand_s (a b : Bool) : oand (some a) (some b) = some (a && b) := by cases a <;> rfl
theorem oor_s (a b : Bool) : oor (some a) (some b) = some (a || b) := by cases a <;> rfl
@[simp] theorem oite_t (a b : Option α) : oite (some true) a b = a := (rfl)
@[simp] theorem oite_f (a b : Option α) : oite (some false) a b = b := (rfl)
theorem oite_s (c : Bool) (a b : Option α) : oite (some c) a b = if c then a else b := (rfl)
@[simp] theorem olen_s (xs : List α) : olen (some xs) = some (xs.length : Int) := (rfl)
@[simp] theorem olen2_s (x : α × β) : olen2 (some x) = some 2 := (rfl)
@[simp] theorem otup2_s (a : α) (b : β) : otup2 (some a) (some b) = some (a, b) := (rfl)
@[simp] theorem otup3_s (a : α) (b : β) (c : γ) : otup3 (some a) (some b) (some c) = some ⟨a, b, c⟩ := (rfl)
@[simp] theorem otup4_s (a : α) (b : β) (c : γ) (d : δ) : otup4 (some a) (some b) (some c) (some d) = some ⟨a, b, c, d⟩ := (rfl)
@[simp] theorem omax2_s (a b : Int) : omax2 (some a) (some b) = some (max a b) := by
  show some (if b > a then b else a) = _
  congr 1
  omega
@[simp] theorem omin2_s (a b : Int) : omin2 (some a) (some b) = some (min a b) := by
  show some (if b < a then b else a) = _
  congr 1
  omega
@[simp] theorem ocons_s (x : α) (xs : List α) : ocons (some x) (some xs) = some (x :: xs) := (rfl)
@[simp] theorem oarg_s (x : α) (y : β) : oarg (some x) (some y) = some (x, y) := (rfl)
@[simp] theorem oints_s (b : Bool) : oints (some b) = some (if b then 1 else 0) := (rfl)
@[simp] theorem oisi_s [Em α] (T : String) (x : α) : oisi T (some x) = some (isiD T (em x)) := (rfl)
@[simp] theorem oisN_s (x : Option α) : oisN (some x) = some x.isNone := (rfl)
@[simp] theorem onotN_s (x : Option α) : onotN (some x) = some x.isSome := (rfl)
@[simp] theorem oind_s [Em α] (x : α) (xs : List α) : oind (some x) (some xs) = some (xs.any fun z => PyData.eqv (em z) (em x)) := (rfl)
@[simp] theorem onind_s [Em α] (x : α) (xs : List α) : onind (some x) (some xs) = some (!xs.any fun z => PyData.eqv (em z) (em x)) := (rfl)
@[simp] theorem ocut_s (xs : List α) (l h : Option Int) : ocut (some xs) (some l) (some h) = some (cutG xs l h) := (rfl)
@[simp] theorem osum_s (xs : List Int) : osum (some xs) = some xs.sum := (rfl)
@[simp] theorem oall_s (xs : List Bool) : oall (some xs) = some (xs.all id) := (rfl)
@[simp] theorem oany_s (xs : List Bool) : oany (some xs) = some (xs.any id) := (rfl)
@[simp] theorem osortI_s (xs : List Int) : osortI (some xs) = some (sortI xs) := (rfl)
theorem oix_s (xs : List α) (i : Int) : oix (some xs) (some i) = atI xs i := (rfl)
theorem omod_s {a b : Int} (h : 0 < b) : omod (some a) (some b) = some (a % b) := if_pos h
theorem ofdiv_s {a b : Int} (h : 0 < b) (h2 : b < 1073741824) : ofdiv (some a) (some b) = some (a / b) := if_pos ⟨h, h2⟩
theorem omul_r {a b : Int} (h : b.natAbs < 2 ^ 64) : omul (some a) (some b) = some (a * b) := if_pos (.inr h)
theorem omul_l {a b : Int} (h : a.natAbs < 2 ^ 64) : omul (some a) (some b) = some (a * b) := if_pos (.inl h)
theorem opow_s {a b : Int} (h0 : 0 ≤ b) (h1 : b ≤ 1000000) (h2 : a.natAbs < 2 ^ 64) : opow (some a) (some b) = some (a ^ b.toNat) := if_pos ⟨h0, h1, h2⟩
theorem ocat_s {xs ys : List α} (h : xs.length + ys.length ≤ 100000) : ocat (some xs) (some ys) = some (xs ++ ys) := if_pos h
theorem oapp_s {xs : List α} {x : α} (h : xs.length < 100000) : oapp xs x = some (xs ++ [x]) := if_pos h
theorem atI_nat' {xs : List α} {i : Nat} (h : i < xs.length) : atI xs (i : Int) = some xs[i] := by
  rw [atI_nat (List.getElem?_eq_getElem h)]
theorem atI_of {xs : List α} {i : Int} (h0 : 0 ≤ i) (h : i < xs.length) : atI xs i = some (xs[i.toNat]'(by omega)) := by
  obtain ⟨n, rfl⟩ := Int.eq_ofNat_of_zero_le h0
  exact atI_nat' (by omega)
theorem orange1_s {n : Int} (h : -(2 ^ 62) ≤ n ∧ n < 2 ^ 62) : orange1 (some n) = some (upto n.toNat 0 1) := if_pos h
theorem orange2_s {i j : Int} (h : -(2 ^ 62) ≤ i ∧ i < 2 ^ 62 ∧ -(2 ^ 62) ≤ j ∧ j < 2 ^ 62) : orange2 (some i) (some j) = some (upto (j - i).toNat i 1) := if_pos h
theorem mem_upto1 {n : Nat} {lo x : Int} (h : x ∈ upto n lo 1) : lo ≤ x ∧ x < lo + n := by
  unfold upto at h
  rw [List.mem_map] at h
  obtain ⟨i, hi, rfl⟩ := h
  rw [List.mem_range] at hi
  omega
theorem mem_upto {n : Nat} {lo c x : Int} (h : x ∈ upto n lo c) : ∃ i : Nat, i < n ∧ x = lo + i * c := by
  unfold upto at h
  rw [List.mem_map] at h
  obtain ⟨i, hi, rfl⟩ := h
  exact ⟨i, List.mem_range.mp hi, rfl⟩
/-- a loop that only looks -/
theorem loop_all {f : Unit → α → Option (Flow Unit ρ)} : ∀ {xs : List α}, (∀ x ∈ xs, f () x = some (.nx ())) → loopM f xs () = some (.nx ())
  | [], _ => rfl
  | x :: xs, h => by
    simp only [loopM]
    rw [h x (by simp)]
    exact loop_all fun y hy => h y (by simp [hy])
/-- a loop by its word -/
theorem loop_inv {f : S → α → Option (Flow S ρ)} (I : List α → S → Prop) : ∀ {xs pre : List α} {s : S}, I pre s → (∀ pre x s, I pre s → x ∈ xs → ∃ s', f s x = some (.nx s') ∧ I (pre ++ [x]) s') → ∃ s', loopM f xs s = some (.nx s') ∧ I (pre ++ xs) s'
  | [], pre, s, h, _ => ⟨s, rfl, by rw [List.append_nil]; exact h⟩
  | x :: xs, pre, s, h, hs => by
    obtain ⟨s1, e1, h1⟩ := hs pre x s h (by simp)
    obtain ⟨s2, e2, h2⟩ := loop_inv I (xs := xs) (pre := pre ++ [x]) h1 fun p y s i hy => hs p y s i (by simp [hy])
    refine ⟨s2, ?_, by rw [List.append_assoc] at h2; exact h2⟩
    simp only [loopM]
    rw [e1]
    exact e2
theorem loop_inv2 {f : S → α → Option (Flow S ρ)} (I : List α → S → Prop) {all : List α} {s : S} (h : I [] s) (hs : ∀ pre x post s, all = pre ++ x :: post → I pre s → ∃ s', f s x = some (.nx s') ∧ I (pre ++ [x]) s') : ∃ s', loopM f all s = some (.nx s') ∧ I all s' := by
  have go : ∀ (xs pre : List α) (s : S), all = pre ++ xs → I pre s → ∃ s', loopM f xs s = some (.nx s') ∧ I all s' := by
    intro xs
    induction xs with
    | nil => intro pre s e i; exact ⟨s, rfl, by rw [e, List.append_nil]; exact i⟩
    | cons x xs ih =>
      intro pre s e i
      obtain ⟨s1, e1, i1⟩ := hs pre x xs s e i
      obtain ⟨s2, e2, i2⟩ := ih (pre ++ [x]) s1 (by rw [e, List.append_assoc]; rfl) i1
      refine ⟨s2, ?_, i2⟩
      simp only [loopM]
      rw [e1]
      exact e2
  exact go all [] s rfl h
theorem upto_split {n : Nat} {lo c : Int} {pre post : List Int} {x : Int} (h : upto n lo c = pre ++ x :: post) : x = lo + (pre.length : Int) * c ∧ pre.length < n := by
  have hl := congrArg List.length h
  rw [upto_len, List.length_append, List.length_cons] at hl
  have hp : pre.length < n := by omega
  have e := upto_get (lo := lo) (c := c) hp
  rw [h, List.getElem?_append_right (Nat.le_refl _), Nat.sub_self] at e
  exact ⟨(Option.some.inj e), hp⟩
theorem upto1 (n : Nat) : upto n 0 1 = (List.range n).map fun i : Nat => (i : Int) := by
  unfold upto
  refine List.map_congr_left fun i _ => ?_
  omega
theorem loop_fold {f : S → α → Option (Flow S ρ)} {g : S → α → S} : ∀ {xs : List α} {s : S}, (∀ s x, x ∈ xs → f s x = some (.nx (g s x))) → loopM f xs s = some (.nx (xs.foldl g s))
  | [], _, _ => rfl
  | x :: xs, s, h => by
    simp only [loopM]
    rw [h s x (by simp)]
    exact loop_fold fun s y hy => h s y (by simp [hy])
@[simp] theorem after_nx (s : S) (k : S → Option τ) (d : ρ → Option τ) : after (some (.nx s)) k d = k s := (rfl)
@[simp] theorem after_dn (r : ρ) (k : S → Option τ) (d : ρ → Option τ) : after (some (.dn r)) k d = d r := (rfl)
/-- a loop that neither leaves nor fails, by its word; G what is wanted of the whole -/
theorem after_by {G : Option τ → Prop} {f : S → α → Option (Flow S ρ)} {all : List α} {s : S} {k : S → Option τ} {d : ρ → Option τ} (I : List α → S → Prop) (h0 : I [] s)
    (hs : ∀ pre x post s, all = pre ++ x :: post → I pre s → ∃ s', f s x = some (.nx s') ∧ I (pre ++ [x]) s') (hk : ∀ s', I all s' → G (k s')) : G (after (loopM f all s) k d) := by
  obtain ⟨s', e, i⟩ := loop_inv2 I h0 hs
  rw [e]
  exact hk s' i
/-- a loop that only looks -/
theorem after_all {G : Option τ → Prop} {f : Unit → α → Option (Flow Unit ρ)} {all : List α} {k : Unit → Option τ} {d : ρ → Option τ}
    (hs : ∀ x ∈ all, f () x = some (.nx ())) (hk : G (k ())) : G (after (loopM f all ()) k d) := by
  rw [loop_all hs]
  exact hk
/-- a loop that may hand something back -/
theorem after_by2 {G : Option τ → Prop} {f : S → α → Option (Flow S ρ)} {all : List α} {s : S} {k : S → Option τ} {d : ρ → Option τ} (I : List α → S → Prop) (h0 : I [] s)
    (hs : ∀ pre x post s, all = pre ++ x :: post → I pre s → (∃ s', f s x = some (.nx s') ∧ I (pre ++ [x]) s') ∨ ∃ r, f s x = some (.dn r) ∧ G (d r)) (hk : ∀ s', I all s' → G (k s')) : G (after (loopM f all s) k d) := by
  have go : ∀ (xs pre : List α) (s : S), all = pre ++ xs → I pre s → G (after (loopM f xs s) k d) := by
    intro xs
    induction xs with
    | nil =>
      intro pre s e i
      rw [List.append_nil] at e
      exact hk s (e ▸ i)
    | cons x xs ih =>
      intro pre s e i
      rcases hs pre x xs s e i with ⟨s1, e1, i1⟩ | ⟨r, e1, g⟩
      · have := ih (pre ++ [x]) s1 (by rw [e, List.append_assoc]; rfl) i1
        simp only [loopM]
        rw [e1]
        exact this
      · simp only [loopM]
        rw [e1]
        exact g
  exact go all [] s rfl h0
theorem ocomp_all {c : α → Option Bool} {k : α → Option β} {f : α → β} : ∀ {xs : List α}, (∀ x ∈ xs, c x = some true ∧ k x = some (f x)) → ocomp c k xs = some (xs.map f)
  | [], _ => rfl
  | x :: xs, h => by
    simp only [ocomp]
    obtain ⟨h1, h2⟩ := h x (by simp)
    rw [h1, h2]
    show (ocomp c k xs).bind _ = _
    rw [ocomp_all fun y hy => h y (by simp [hy])]
    rfl
theorem olc_s {c : α → Option Bool} {k : α → Option β} {xs : List α} (hl : xs.length ≤ 100000) : olc (some xs) c k = ocomp c k xs := if_pos hl
theorem olc_all {c : α → Option Bool} {k : α → Option β} {f : α → β} {xs : List α} (hl : xs.length ≤ 100000) (h : ∀ x ∈ xs, c x = some true ∧ k x = some (f x)) : olc (some xs) c k = some (xs.map f) := by
  show (if xs.length ≤ 100000 then ocomp c k xs else none) = _
  rw [if_pos hl, ocomp_all h]
theorem ocomp_filter {c : α → Option Bool} {k : α → Option β} {p : α → Bool} {f : α → β} : ∀ {xs : List α}, (∀ x ∈ xs, c x = some (p x) ∧ (p x = true → k x = some (f x))) → ocomp c k xs = some ((xs.filter p).map f)
  | [], _ => rfl
  | x :: xs, h => by
    simp only [ocomp]
    obtain ⟨h1, h2⟩ := h x (by simp)
    rw [h1]
    have ih := ocomp_filter (c := c) (k := k) (p := p) (f := f) (xs := xs) fun y hy => h y (by simp [hy])
    cases hp : p x with
    | true =>
      rw [List.filter_cons_of_pos hp]
      show (k x).bind _ = _
      rw [h2 hp]
      show (ocomp c k xs).bind _ = _
      rw [ih]
      rfl
    | false =>
      rw [List.filter_cons_of_neg (by rw [hp]; decide)]
      exact ih
theorem olc_filter {c : α → Option Bool} {k : α → Option β} {p : α → Bool} {f : α → β} {xs : List α} (hl : xs.length ≤ 100000) (h : ∀ x ∈ xs, c x = some (p x) ∧ (p x = true → k x = some (f x))) : olc (some xs) c k = some ((xs.filter p).map f) := by
  show (if xs.length ≤ 100000 then ocomp c k xs else none) = _
  rw [if_pos hl, ocomp_filter h]
end
/-! ### dicts -/
theorem dget_put {κ β : Type} [DecidableEq κ] (kvs : List (κ × β)) (k k' : κ) (v : β) : dget (dput kvs k v) k' = if k = k' then some v else dget kvs k' := by
  unfold dput dget
  by_cases h : (kvs.any fun x => decide (x.1 = k)) = true
  · rw [if_pos h, List.find?_map]
    have e : ((fun x : κ × β => decide (x.1 = k')) ∘ fun x : κ × β => if x.1 = k then (x.1, v) else x) = fun x => decide (x.1 = k') := by
      funext x
      show decide ((if x.1 = k then (x.1, v) else x).1 = k') = _
      split <;> rfl
    rw [e]
    by_cases e2 : k = k'
    · subst e2
      rw [if_pos rfl]
      cases hf : kvs.find? (fun x => decide (x.1 = k)) with
      | none =>
        obtain ⟨x, hx, hd⟩ := List.any_eq_true.mp h
        exact absurd hd (List.find?_eq_none.mp hf x hx)
      | some x =>
        have hx : x.1 = k := by simpa using List.find?_some hf
        simp [hx]
    · rw [if_neg e2]
      cases hf : kvs.find? (fun x => decide (x.1 = k')) with
      | none => rfl
      | some x =>
        have hx : x.1 = k' := by simpa using List.find?_some hf
        have : ¬ x.1 = k := fun z => e2 (z.symm.trans hx)
        simp [this]
  · rw [if_neg h, List.find?_append]
    by_cases e2 : k = k'
    · subst e2
      have : kvs.find? (fun x => decide (x.1 = k)) = none := by
        rw [List.find?_eq_none]
        intro x hx hd
        exact h (List.any_eq_true.mpr ⟨x, hx, hd⟩)
      rw [this, if_pos rfl]
      simp
    · rw [if_neg e2]
      have : [(k, v)].find? (fun x : κ × β => decide (x.1 = k')) = none := by simp [e2]
      rw [this, Option.or_none]
theorem dput_len {κ β : Type} [DecidableEq κ] (kvs : List (κ × β)) (k : κ) (v : β) : (dput kvs k v).length ≤ kvs.length + 1 := by
  unfold dput
  split
  · rw [List.length_map]; omega
  · rw [List.length_append, List.length_singleton]; exact Nat.le_refl _
theorem dget_nil {κ β : Type} [DecidableEq κ] (k : κ) : dget ([] : List (κ × β)) k = none := rfl
theorem odput_s {κ β : Type} [DecidableEq κ] {kvs : List (κ × β)} {k : κ} {v : β} (h : kvs.length < 100000) : odput kvs k v = some (dput kvs k v) := if_pos h
@[simp] theorem odin_s {κ β : Type} [DecidableEq κ] (k : κ) (kvs : List (κ × β)) : odin (some k) kvs = some (dget kvs k).isSome := (rfl)
@[simp] theorem odnin_s {κ β : Type} [DecidableEq κ] (k : κ) (kvs : List (κ × β)) : odnin (some k) kvs = some (!(dget kvs k).isSome) := (rfl)
@[simp] theorem odget_s {κ β : Type} [DecidableEq κ] (k : κ) (kvs : List (κ × β)) : odget kvs (some k) = dget kvs k := (rfl)
/-! ### slices -/
theorem cut_to {α : Type} (xs : List α) (k : Nat) : cutG xs none (some (k : Int)) = xs.take k := by
  unfold cutG
  rw [HT.sIx_none, HT.sIx_nat]
  simp only [List.drop_zero, Nat.sub_zero]
  by_cases h : k ≤ xs.length
  · rw [Nat.min_eq_left h]
  · rw [Nat.min_eq_right (by omega), List.take_of_length_le (by omega), List.take_of_length_le (by omega)]
theorem cut_from {α : Type} (xs : List α) (k : Nat) : cutG xs (some (k : Int)) none = xs.drop k := by
  unfold cutG
  rw [HT.sIx_none, HT.sIx_nat]
  by_cases h : k ≤ xs.length
  · rw [Nat.min_eq_left h, List.take_of_length_le (by rw [List.length_drop]; omega)]
  · rw [Nat.min_eq_right (by omega), List.drop_of_length_le (by omega), List.drop_of_length_le (by omega)]
    simp
theorem cut_mid {α : Type} (xs : List α) (k m : Nat) : cutG xs (some (k : Int)) (some (m : Int)) = (xs.take m).drop k := by
  unfold cutG
  rw [HT.sIx_nat, HT.sIx_nat, List.drop_take]
  by_cases h : m ≤ xs.length
  · rw [Nat.min_eq_left h]
    by_cases h2 : k ≤ xs.length
    · rw [Nat.min_eq_left h2]
    · rw [List.drop_of_length_le (by omega), List.drop_of_length_le (by omega)]
      simp
  · rw [Nat.min_eq_right (by omega)]
    by_cases h2 : k ≤ xs.length
    · rw [Nat.min_eq_left h2, List.take_of_length_le (by rw [List.length_drop]; omega), List.take_of_length_le (by rw [List.length_drop]; omega)]
    · rw [List.drop_of_length_le (by omega), List.drop_of_length_le (by omega)]
      simp
theorem cutG_le {α : Type} (xs : List α) (l h : Option Int) : (cutG xs l h).length ≤ xs.length := by
  unfold cutG
  rw [List.length_take, List.length_drop]
  omega
theorem atI_last {α : Type} (xs : List α) (h : 0 < xs.length) : atI xs (-1) = some (xs[xs.length - 1]'(by omega)) := by
  unfold atI ixN
  rw [if_neg (by omega), if_pos (by omega)]
  show xs[(-1 + (xs.length : Int)).toNat]? = _
  rw [show (-1 + (xs.length : Int)).toNat = xs.length - 1 by omega, List.getElem?_eq_getElem (by omega)]
theorem atI_out {α : Type} (xs : List α) {i : Int} (h : (xs.length : Int) ≤ i) : atI xs i = none := by
  unfold atI ixN
  rw [if_pos (by omega), if_neg (by omega)]
  rfl
/-! ### data compared -/
@[simp] theorem em_int (i : Int) : em i = PyData.int i := (rfl)
@[simp] theorem em_bool (i : Bool) : em i = PyData.bool i := (rfl)
theorem em_list {α : Type} [Em α] (xs : List α) : em xs = PyData.list (xs.map em) := (rfl)
theorem em_pair {α β : Type} [Em α] [Em β] (x : α × β) : em x = PyData.tuple [em x.1, em x.2] := (rfl)
theorem em_t4 {α β γ δ : Type} [Em α] [Em β] [Em γ] [Em δ] (x : T4 α β γ δ) : em x = PyData.tuple [em x.a, em x.b, em x.c, em x.d] := (rfl)
/-- data of which == tells equality -/
class Eqv (α : Type) [Em α] [DecidableEq α] : Prop where
  eq : ∀ x y : α, PyData.eqv (em x) (em y) = decide (x = y)
instance : Eqv Int := ⟨fun x y => by
  show PyData.eqv (.int x) (.int y) = _
  simp only [PyData.eqv]
  rw [Bool.beq_eq_decide_eq]⟩
instance : Eqv Bool := ⟨fun x y => by
  show PyData.eqv (.bool x) (.bool y) = _
  cases x <;> cases y <;> simp [PyData.eqv]⟩
theorem eqvAll_map {α : Type} [Em α] [DecidableEq α] [Eqv α] : ∀ xs ys : List α, PyData.eqvAll (xs.map em) (ys.map em) = decide (xs = ys)
  | [], [] => by simp [PyData.eqvAll]
  | [], y :: ys => by simp [PyData.eqvAll]
  | x :: xs, [] => by simp [PyData.eqvAll]
  | x :: xs, y :: ys => by
    simp only [List.map_cons, PyData.eqvAll]
    rw [Eqv.eq x y, eqvAll_map xs ys]
    by_cases h1 : x = y <;> by_cases h2 : xs = ys <;> simp [h1, h2]
instance {α : Type} [Em α] [DecidableEq α] [Eqv α] : Eqv (List α) := ⟨fun x y => by
  rw [em_list, em_list]
  simp only [PyData.eqv]
  exact eqvAll_map x y⟩
instance {α β : Type} [Em α] [DecidableEq α] [Eqv α] [Em β] [DecidableEq β] [Eqv β] : Eqv (α × β) := ⟨fun x y => by
  rw [em_pair, em_pair]
  simp only [PyData.eqv, PyData.eqvAll]
  rw [Eqv.eq x.1 y.1, Eqv.eq x.2 y.2]
  obtain ⟨a, b⟩ := x
  obtain ⟨c, d⟩ := y
  by_cases h1 : a = c <;> by_cases h2 : b = d <;> simp [h1, h2]⟩
instance {α β γ δ : Type} [Em α] [DecidableEq α] [Eqv α] [Em β] [DecidableEq β] [Eqv β] [Em γ] [DecidableEq γ] [Eqv γ] [Em δ] [DecidableEq δ] [Eqv δ] : Eqv (T4 α β γ δ) := ⟨fun x y => by
  rw [em_t4, em_t4]
  simp only [PyData.eqv, PyData.eqvAll]
  rw [Eqv.eq x.a y.a, Eqv.eq x.b y.b, Eqv.eq x.c y.c, Eqv.eq x.d y.d]
  obtain ⟨a, b, c, d⟩ := x
  obtain ⟨a', b', c', d'⟩ := y
  by_cases h1 : a = a' <;> by_cases h2 : b = b' <;> by_cases h3 : c = c' <;> by_cases h4 : d = d' <;> simp [h1, h2, h3, h4]⟩
/-- data that are not None -/
class Nz (α : Type) [Em α] : Prop where
  l : ∀ x : α, PyData.eqv .none (em x) = false
  r : ∀ x : α, PyData.eqv (em x) .none = false
instance : Nz Int := ⟨fun x => by show PyData.eqv .none (.int x) = false; simp [PyData.eqv], fun x => by show PyData.eqv (.int x) .none = false; simp [PyData.eqv]⟩
instance {α : Type} [Em α] : Nz (List α) := ⟨fun x => by rw [em_list]; simp [PyData.eqv], fun x => by rw [em_list]; simp [PyData.eqv]⟩
instance {α β : Type} [Em α] [Em β] : Nz (α × β) := ⟨fun x => by rw [em_pair]; simp [PyData.eqv], fun x => by rw [em_pair]; simp [PyData.eqv]⟩
instance {α : Type} [Em α] [DecidableEq α] [Eqv α] [Nz α] : Eqv (Option α) := ⟨fun x y => by
  cases x with
  | none =>
    cases y with
    | none => show PyData.eqv .none .none = _; simp [PyData.eqv]
    | some y => show PyData.eqv .none (em y) = _; rw [Nz.l y]; simp
  | some x =>
    cases y with
    | none => show PyData.eqv (em x) .none = _; rw [Nz.r x]; simp
    | some y => show PyData.eqv (em x) (em y) = _; rw [Eqv.eq x y]; simp⟩
@[simp] theorem eqv_int (x y : Int) : PyData.eqv (.int x) (.int y) = decide (x = y) := Eqv.eq x y
@[simp] theorem eqv_bool (x y : Bool) : PyData.eqv (.bool x) (.bool y) = decide (x = y) := Eqv.eq x y
theorem eqv_em {α : Type} [Em α] [DecidableEq α] [Eqv α] (x y : α) : PyData.eqv (em x) (em y) = decide (x = y) := Eqv.eq x y
theorem oidx_s {α : Type} [Em α] [DecidableEq α] [Eqv α] (xs : List α) (y : α) : oidx (some xs) (some y) = (xs.findIdx? fun z => decide (z = y)).map fun j : Nat => (j : Int) := by
  show (xs.findIdx? fun z => PyData.eqv (em z) (em y)).map _ = _
  have : (fun z : α => PyData.eqv (em z) (em y)) = fun z => decide (z = y) := funext fun z => eqv_em z y
  rw [this]
/-! ### isinstance -/
theorem isi_int (i : Int) : isiD "int" (.int i) = true := (by decide +kernel : (kitB "int" "int").getD false = true)
theorem isi_int_bool (i : Int) : isiD "bool" (.int i) = false := (by decide +kernel : (kitB "int" "bool").getD false = false)
theorem isi_bool (i : Bool) : isiD "bool" (.bool i) = true := (by decide +kernel : (kitB "bool" "bool").getD false = true)
theorem isi_bool_int (i : Bool) : isiD "int" (.bool i) = true := (by decide +kernel : (kitB "bool" "int").getD false = true)
theorem isi_list (ds : List PyData) : isiD "list" (.list ds) = true := (by decide +kernel : (kitB "list" "list").getD false = true)
theorem isi_tuple (ds : List PyData) : isiD "tuple" (.tuple ds) = true := (by decide +kernel : (kitB "tuple" "tuple").getD false = true)
theorem isi_list_int (ds : List PyData) : isiD "int" (.list ds) = false := (by decide +kernel : (kitB "list" "int").getD false = false)
theorem isi_tuple_int (ds : List PyData) : isiD "int" (.tuple ds) = false := (by decide +kernel : (kitB "tuple" "int").getD false = false)
theorem isi_str_int (s : Str) : isiD "int" (.str s) = false := (by decide +kernel : (kitB "str" "int").getD false = false)
theorem isi_none_int : isiD "int" .none = false := (by decide +kernel : (kitB "NoneType" "int").getD false = false)
end Tw
/-! Rounds: lists grown by going to a new place and back. -/
namespace Tw
/-- a new place x gone to from number j -/
def ins {α : Type} (r : List α) (j : Nat) (x : α) : List α := r.take (j + 1) ++ x :: r.drop j
theorem ins_len {α : Type} {r : List α} {j : Nat} {x : α} (h : j < r.length) : (ins r j x).length = r.length + 2 := by
  unfold ins
  rw [List.length_append, List.length_cons, List.length_take, List.length_drop]
  omega
theorem ins_mem {α : Type} {r : List α} {j : Nat} {x y : α} (h : j < r.length) : y ∈ ins r j x ↔ y = x ∨ y ∈ r := by
  unfold ins
  rw [List.mem_append, List.mem_cons]
  constructor
  · rintro (h | h | h)
    · exact .inr (List.mem_of_mem_take h)
    · exact .inl h
    · exact .inr (List.mem_of_mem_drop h)
  · rintro (h | h)
    · exact .inr (.inl h)
    · rw [← List.take_append_drop j r, List.mem_append] at h
      rcases h with h | h
      · refine .inl ?_
        rw [show r.take (j + 1) = r.take j ++ [r[j]] from List.take_succ_eq_append_getElem ‹_›]
        exact List.mem_append.mpr (.inl h)
      · exact .inr (.inr h)
theorem ins_head {α : Type} {r : List α} {j : Nat} {x : α} (h : j < r.length) : (ins r j x)[0]? = r[0]? := by
  unfold ins
  rw [List.getElem?_append_left (by rw [List.length_take]; omega), List.getElem?_take_of_lt (by omega)]
theorem ins_last {α : Type} {r : List α} {j : Nat} {x : α} (h : j < r.length) : (ins r j x)[(ins r j x).length - 1]? = r[r.length - 1]? := by
  rw [ins_len h]
  unfold ins
  rw [List.getElem?_append_right (by rw [List.length_take]; omega), List.length_take]
  rw [show r.length + 2 - 1 - min (j + 1) r.length = (r.length - 1 - j) + 1 by omega, List.getElem?_cons_succ, List.getElem?_drop]
  congr 1
  omega
/-- a round of the places f 0 .. f m, grown in this order -/
inductive Grow {α : Type} (f : Nat → α) : Nat → List α → Prop
  | one : Grow f 0 [f 0]
  | more {m : Nat} {r : List α} {j : Nat} : Grow f m r → j < r.length → Grow f (m + 1) (ins r j (f (m + 1)))
theorem Grow.len {α : Type} {f : Nat → α} {m : Nat} {r : List α} (g : Grow f m r) : r.length = 2 * m + 1 := by
  induction g with
  | one => rfl
  | more g h ih => rw [ins_len h, ih]; omega
theorem Grow.mem {α : Type} {f : Nat → α} {m : Nat} {r : List α} (g : Grow f m r) (y : α) : y ∈ r ↔ ∃ i, i ≤ m ∧ y = f i := by
  induction g with
  | one => simp
  | @more m r j g h ih =>
    rw [ins_mem h, ih]
    constructor
    · rintro (rfl | ⟨i, hi, rfl⟩)
      · exact ⟨m + 1, Nat.le_refl _, rfl⟩
      · exact ⟨i, by omega, rfl⟩
    · rintro ⟨i, hi, rfl⟩
      by_cases e : i = m + 1
      · exact .inl (by rw [e])
      · exact .inr ⟨i, by omega, rfl⟩
theorem Grow.head {α : Type} {f : Nat → α} {m : Nat} {r : List α} (g : Grow f m r) : r[0]? = some (f 0) := by
  induction g with
  | one => rfl
  | more g h ih => rw [ins_head h, ih]
theorem Grow.last {α : Type} {f : Nat → α} {m : Nat} {r : List α} (g : Grow f m r) : r[r.length - 1]? = some (f 0) := by
  induction g with
  | one => rfl
  | more g h ih => rw [ins_last h, ih]
theorem ins_cut {r : List Int} {j : Nat} {x : Int} : cutG r none (some ((j : Int) + 1)) ++ [x] ++ cutG r (some (j : Int)) none = ins r j x := by
  rw [cut_from, show ((j : Int) + 1) = ((j + 1 : Nat) : Int) by omega, cut_to]
  unfold ins
  simp
end Tw
/-! Rounds of trees: turned, walked. -/
namespace Tw
section
variable {α : Type} [DecidableEq α]
inductive Rnd : List α → Prop
  | one (a : α) : Rnd [a]
  | more {r : List α} {j : Nat} {x : α} : Rnd r → j < r.length → x ∉ r → Rnd (ins r j x)
theorem Grow.rnd {f : Nat → α} {m : Nat} {r : List α} (g : Grow f m r) (hf : ∀ i j, i ≤ m → j ≤ m → f i = f j → i = j) : Rnd r := by
  induction g with
  | one => exact .one _
  | @more m r j g h ih =>
    refine .more (ih fun i j hi hj => hf i j (by omega) (by omega)) h fun hm => ?_
    obtain ⟨i, hi, e⟩ := (g.mem _).mp hm
    have := hf (m + 1) i (Nat.le_refl _) (by omega) e
    omega
theorem Rnd.ne {r : List α} (h : Rnd r) : r ≠ [] := by
  induction h with
  | one a => simp
  | more h hj hx ih => intro e; have := congrArg List.length e; rw [ins_len hj] at this; simp at this
theorem Rnd.pos {r : List α} (h : Rnd r) : 0 < r.length := List.length_pos_iff.mpr h.ne
theorem Rnd.closed {r : List α} (h : Rnd r) : r[0]? = r[r.length - 1]? := by
  induction h with
  | one a => rfl
  | more h hj hx ih => rw [ins_head hj, ins_last hj, ih]
/-- two that stand side by side -/
def Adj (r : List α) (a b : α) : Prop := ∃ k, r[k]? = some a ∧ r[k + 1]? = some b
theorem ins_at1 {r : List α} {j i : Nat} {x : α} (h : j < r.length) (hi : i ≤ j) : (ins r j x)[i]? = r[i]? := by
  unfold ins
  rw [List.getElem?_append_left (by rw [List.length_take]; omega), List.getElem?_take_of_lt (by omega)]
theorem ins_at2 {r : List α} {j : Nat} {x : α} (h : j < r.length) : (ins r j x)[j + 1]? = some x := by
  unfold ins
  rw [List.getElem?_append_right (by rw [List.length_take]; omega), List.length_take, Nat.min_eq_left (by omega), Nat.sub_self]
  rfl
theorem ins_at3 {r : List α} {j i : Nat} {x : α} (h : j < r.length) (hi : j + 2 ≤ i) : (ins r j x)[i]? = r[i - 2]? := by
  unfold ins
  rw [List.getElem?_append_right (by rw [List.length_take]; omega), List.length_take, Nat.min_eq_left (by omega)]
  rw [show i - (j + 1) = (i - j - 2) + 1 by omega, List.getElem?_cons_succ, List.getElem?_drop]
  congr 1
  omega
theorem adj_ins {r : List α} {j : Nat} {x a b : α} (h : j < r.length) (ha : Adj r a b) : Adj (ins r j x) a b := by
  obtain ⟨k, h1, h2⟩ := ha
  by_cases hk : k + 1 ≤ j
  · exact ⟨k, by rw [ins_at1 h (by omega), h1], by rw [ins_at1 h hk, h2]⟩
  · exact ⟨k + 2, by rw [ins_at3 h (by omega), show k + 2 - 2 = k by omega, h1], by rw [ins_at3 h (by omega), show k + 2 + 1 - 2 = k + 1 by omega, h2]⟩
theorem adj_new {r : List α} {j : Nat} {x a : α} (h : j < r.length) (ha : r[j]? = some a) : Adj (ins r j x) a x ∧ Adj (ins r j x) x a :=
  ⟨⟨j, by rw [ins_at1 h (Nat.le_refl _), ha], ins_at2 h⟩, ⟨j + 1, ins_at2 h, by rw [ins_at3 h (by omega), show j + 1 + 1 - 2 = j by omega, ha]⟩⟩
theorem adj_mem {r : List α} {a b : α} (h : Adj r a b) : a ∈ r ∧ b ∈ r := by
  obtain ⟨k, h1, h2⟩ := h
  exact ⟨List.mem_of_getElem? h1, List.mem_of_getElem? h2⟩
theorem adj_inv {r : List α} {j : Nat} {x a b : α} (h : j < r.length) (ha : Adj (ins r j x) a b) : Adj r a b ∨ (b = x ∧ r[j]? = some a) ∨ (a = x ∧ r[j]? = some b) := by
  obtain ⟨k, h1, h2⟩ := ha
  by_cases hk : k + 1 ≤ j
  · rw [ins_at1 h (by omega)] at h1
    rw [ins_at1 h hk] at h2
    exact .inl ⟨k, h1, h2⟩
  · by_cases hk2 : k = j
    · subst hk2
      rw [ins_at1 h (Nat.le_refl _)] at h1
      rw [ins_at2 h] at h2
      exact .inr (.inl ⟨(Option.some.inj h2).symm, h1⟩)
    · by_cases hk3 : k = j + 1
      · subst hk3
        rw [ins_at2 h] at h1
        rw [ins_at3 h (by omega), show j + 1 + 1 - 2 = j by omega] at h2
        exact .inr (.inr ⟨(Option.some.inj h1).symm, h2⟩)
      · rw [ins_at3 h (by omega)] at h1
        rw [ins_at3 h (by omega), show k + 1 - 2 = k - 2 + 1 by omega] at h2
        exact .inl ⟨k - 2, h1, h2⟩
theorem Rnd.adj_symm {r : List α} (h : Rnd r) {a b : α} (ha : Adj r a b) : Adj r b a := by
  induction h generalizing a b with
  | one c => obtain ⟨k, h1, h2⟩ := ha; simp at h2
  | more h hj hx ih =>
    rcases adj_inv hj ha with h1 | ⟨rfl, h1⟩ | ⟨rfl, h1⟩
    · exact adj_ins hj (ih h1)
    · exact (adj_new hj h1).2
    · exact (adj_new hj h1).1
theorem Rnd.adj_ne {r : List α} (h : Rnd r) {a b : α} (ha : Adj r a b) : a ≠ b := by
  induction h generalizing a b with
  | one c => obtain ⟨k, h1, h2⟩ := ha; simp at h2
  | more h hj hx ih =>
    rcases adj_inv hj ha with h1 | ⟨rfl, h1⟩ | ⟨rfl, h1⟩
    · exact ih h1
    · rintro rfl; exact hx (List.mem_of_getElem? h1)
    · rintro rfl; exact hx (List.mem_of_getElem? h1)

/-! ### turned -/
/-- a round turned to number k -/
def trn (row : List α) (k : Nat) : List α := row.drop k ++ (row.take (k + 1)).drop 1
theorem trn_len {row : List α} {k : Nat} (h : k < row.length) : (trn row k).length = row.length := by
  unfold trn
  rw [List.length_append, List.length_drop, List.length_drop, List.length_take]
  omega
theorem trn_zero (row : List α) (h : row ≠ []) : trn row 0 = row := by
  unfold trn
  rw [List.drop_zero, List.drop_of_length_le (by rw [List.length_take]; omega), List.append_nil]
theorem trn_get {row : List α} {k j : Nat} (hk : k < row.length) (hr : row[0]? = row[row.length - 1]?) (hj : j < row.length) (h1 : 1 < row.length) : (trn row k)[j]? = row[(k + j) % (row.length - 1)]? := by
  unfold trn
  by_cases h : j < row.length - k
  · rw [List.getElem?_append_left (by rw [List.length_drop]; exact h), List.getElem?_drop]
    by_cases e : k + j = row.length - 1
    · rw [e, Nat.mod_self, hr]
    · rw [Nat.mod_eq_of_lt (by omega)]
  · rw [List.getElem?_append_right (by rw [List.length_drop]; omega), List.length_drop, List.getElem?_drop, List.getElem?_take_of_lt (by omega)]
    rw [Nat.mod_eq_sub_mod (by omega)]
    by_cases e2 : k + j - (row.length - 1) = row.length - 1
    · rw [e2, Nat.mod_self, hr]
      congr 1
      omega
    · rw [Nat.mod_eq_of_lt (by omega)]
      congr 1
      omega
theorem Rnd.wrap {s : List α} (h : Rnd s) {x : α} (hx : x ∉ s) : Rnd (x :: s ++ [x]) := by
  induction h with
  | one a => exact Rnd.more (j := 0) (x := a) (.one x) (by simp) (by simpa using fun e => hx (by simp [e]))
  | @more r j y h hj hy ih =>
    have hxr : x ∉ r := fun hm => hx ((ins_mem hj).mpr (.inr hm))
    have hxy : x ≠ y := fun e => hx ((ins_mem hj).mpr (.inl e))
    have e : x :: ins r j y ++ [x] = ins (x :: r ++ [x]) (j + 1) y := by
      unfold ins
      rw [show (x :: r ++ [x]).take (j + 1 + 1) = x :: r.take (j + 1) by
        rw [List.cons_append, List.take_succ_cons, List.take_append_of_le_length (by omega)]]
      rw [show (x :: r ++ [x]).drop (j + 1) = r.drop j ++ [x] by
        rw [List.cons_append, List.drop_succ_cons, List.drop_append_of_le_length (by omega)]]
      simp
    rw [e]
    refine Rnd.more (ih hxr) (by simp; omega) fun hm => ?_
    simp only [List.cons_append, List.mem_cons, List.mem_append, List.not_mem_nil, or_false] at hm
    rcases hm with h | h | h
    · exact hxy h.symm
    · exact hy h
    · exact hxy h.symm
theorem take_eq_of {r : List α} {j : Nat} (h : j < r.length) : r.take (j + 1) = r.take j ++ [r[j]] := List.take_succ_eq_append_getElem h
theorem ins_ext {r s : List α} (h : ∀ i : Nat, r[i]? = s[i]?) : r = s := List.ext_getElem? h
theorem mem_trn {r : List α} (hr : Rnd r) {k : Nat} (hk : k < r.length) (x : α) : x ∈ trn r k ↔ x ∈ r := by
  have e := (List.take_append_drop k r)
  constructor
  · intro h
    unfold trn at h
    rcases List.mem_append.mp h with h | h
    · exact List.mem_of_mem_drop h
    · exact List.mem_of_mem_take (List.mem_of_mem_drop h)
  · intro h
    by_cases h1 : r.length = 1
    · have : k = 0 := by omega
      subst this
      rw [trn_zero r hr.ne]
      exact h
    · obtain ⟨i, hi, rfl⟩ := List.mem_iff_getElem.mp h
      have c := hr.closed
      -- the place stands at number i; in the turned round at (i - k) mod (length - 1)
      by_cases hik : k ≤ i
      · refine List.mem_of_getElem? (i := i - k) ?_
        unfold trn
        rw [List.getElem?_append_left (by rw [List.length_drop]; omega), List.getElem?_drop, show k + (i - k) = i by omega]
        exact List.getElem?_eq_getElem hi
      · by_cases hi0 : i = 0
        · subst hi0
          refine List.mem_of_getElem? (i := r.length - 1 - k) ?_
          unfold trn
          rw [List.getElem?_append_left (by rw [List.length_drop]; omega), List.getElem?_drop, show k + (r.length - 1 - k) = r.length - 1 by omega, ← c]
          exact List.getElem?_eq_getElem hi
        · refine List.mem_of_getElem? (i := r.length - k + (i - 1)) ?_
          unfold trn
          rw [List.getElem?_append_right (by rw [List.length_drop]; omega), List.length_drop, List.getElem?_drop, List.getElem?_take_of_lt (by omega)]
          rw [show 1 + (r.length - k + (i - 1) - (r.length - k)) = i by omega]
          exact List.getElem?_eq_getElem hi
theorem Rnd.trn {r : List α} (h : Rnd r) : ∀ {k : Nat}, k < r.length → Rnd (trn r k) := by
  induction h with
  | one a =>
    intro k hk
    have : k = 0 := by simp at hk; omega
    subst this
    exact .one a
  | @more r j x h hj hx ih =>
    intro k hk
    rw [ins_len hj] at hk
    by_cases h1 : k ≤ j
    · have e : Tw.trn (ins r j x) k = ins (Tw.trn r k) (j - k) x := by
        have hkr : k < r.length := by omega
        refine ins_ext fun i => ?_
        unfold Tw.trn
        have l1 : (ins r j x).length = r.length + 2 := ins_len hj
        have l2 := trn_len hkr
        unfold Tw.trn at l2
        have hjk : j - k < (r.drop k ++ (r.take (k + 1)).drop 1).length := by rw [l2]; omega
        by_cases c1 : i ≤ j - k
        · rw [ins_at1 hjk c1, List.getElem?_append_left (by rw [List.length_drop, l1]; omega), List.getElem?_drop, ins_at1 hj (by omega), List.getElem?_append_left (by rw [List.length_drop]; omega), List.getElem?_drop]
        · by_cases c2 : i = j - k + 1
          · subst c2
            rw [ins_at2 hjk, List.getElem?_append_left (by rw [List.length_drop, l1]; omega), List.getElem?_drop, show k + (j - k + 1) = j + 1 by omega, ins_at2 hj]
          · rw [ins_at3 hjk (by omega)]
            by_cases c3 : i < r.length + 2 - k
            · rw [List.getElem?_append_left (by rw [List.length_drop, l1]; omega), List.getElem?_drop, ins_at3 hj (by omega), List.getElem?_append_left (by rw [List.length_drop]; omega), List.getElem?_drop]
              congr 1
              omega
            · rw [List.getElem?_append_right (by rw [List.length_drop, l1]; omega), List.length_drop, l1, List.getElem?_append_right (by rw [List.length_drop]; omega), List.length_drop, List.getElem?_drop, List.getElem?_drop]
              by_cases c4 : 1 + (i - (r.length + 2 - k)) < k + 1
              · rw [List.getElem?_take_of_lt c4, List.getElem?_take_of_lt (by omega), ins_at1 hj (by omega)]
                congr 1
                omega
              · rw [List.getElem?_eq_none (by rw [List.length_take]; omega), List.getElem?_eq_none (by rw [List.length_take]; omega)]
      rw [e]
      have hkr : k < r.length := by omega
      refine Rnd.more (ih hkr) (by rw [trn_len hkr]; omega) fun hm => hx ((mem_trn h hkr x).mp hm)
    · by_cases h2 : k = j + 1
      · subst h2
        have e : Tw.trn (ins r j x) (j + 1) = x :: Tw.trn r j ++ [x] := by
          unfold Tw.trn ins
          rw [List.drop_append_of_le_length (by rw [List.length_take]; omega), List.drop_of_length_le (by rw [List.length_take]; omega), List.nil_append]
          rw [List.take_append, List.take_take, List.length_take, Nat.min_eq_left (show j + 1 ≤ r.length by omega), Nat.min_eq_right (show j + 1 ≤ j + 1 + 1 by omega), show j + 1 + 1 - (j + 1) = 1 by omega]
          rw [List.drop_append_of_le_length (by rw [List.length_take]; omega)]
          simp
        rw [e]
        exact (ih hj).wrap fun hm => hx ((mem_trn h hj x).mp hm)
      · -- the number lies behind the new place
        have hkr : k - 2 < r.length := by omega
        have c := h.closed
        have e : Tw.trn (ins r j x) k = ins (Tw.trn r (k - 2)) (r.length - (k - 2) + j - 1) x := by
          refine ins_ext fun i => ?_
          have l1 : (ins r j x).length = r.length + 2 := ins_len hj
          have l2 := trn_len hkr
          have hp : r.length - (k - 2) + j - 1 < (Tw.trn r (k - 2)).length := by rw [l2]; omega
          have lL : (Tw.trn (ins r j x) k).length = r.length + 2 := by rw [trn_len (by omega), l1]
          by_cases ci : i < r.length + 2
          · -- left side by its two parts
            by_cases c1 : i < r.length + 2 - k
            · have eL : (Tw.trn (ins r j x) k)[i]? = r[k - 2 + i]? := by
                unfold Tw.trn
                rw [List.getElem?_append_left (by rw [List.length_drop, l1]; omega), List.getElem?_drop, ins_at3 hj (by omega)]
                congr 1
                omega
              rw [eL, ins_at1 hp (by omega)]
              unfold Tw.trn
              rw [List.getElem?_append_left (by rw [List.length_drop]; omega), List.getElem?_drop]
            · have eL : (Tw.trn (ins r j x) k)[i]? = (ins r j x)[1 + (i - (r.length + 2 - k))]? := by
                unfold Tw.trn
                rw [List.getElem?_append_right (by rw [List.length_drop, l1]; omega), List.length_drop, l1, List.getElem?_drop, List.getElem?_take_of_lt (by omega)]
              rw [eL]
              by_cases c2 : i ≤ r.length - (k - 2) + j - 1
              · rw [ins_at1 hp c2, ins_at1 hj (by omega)]
                unfold Tw.trn
                rw [List.getElem?_append_right (by rw [List.length_drop]; omega), List.length_drop, List.getElem?_drop, List.getElem?_take_of_lt (by omega)]
                congr 1
                omega
              · by_cases c3 : i = r.length - (k - 2) + j - 1 + 1
                · have e3 : 1 + (i - (r.length + 2 - k)) = j + 1 := by omega
                  rw [e3, ins_at2 hj, c3, ins_at2 hp]
                · rw [ins_at3 hp (by omega), ins_at3 hj (by omega)]
                  unfold Tw.trn
                  by_cases c4 : i - 2 < r.length - (k - 2)
                  · -- only where j = 0: the last place of the first part is the first
                    have hj0 : j = 0 := by omega
                    have e4 : i - 2 = r.length - 1 - (k - 2) := by omega
                    rw [List.getElem?_append_left (by rw [List.length_drop]; omega), List.getElem?_drop, show k - 2 + (i - 2) = r.length - 1 by omega, ← c]
                    congr 1
                    omega
                  · rw [List.getElem?_append_right (by rw [List.length_drop]; omega), List.length_drop, List.getElem?_drop, List.getElem?_take_of_lt (by omega)]
                    congr 1
                    omega
          · rw [List.getElem?_eq_none (by rw [lL]; omega), List.getElem?_eq_none (by rw [ins_len hp, l2]; omega)]
        rw [e]
        refine Rnd.more (ih hkr) (by rw [trn_len hkr]; omega) fun hm => hx ((mem_trn h hkr x).mp hm)
theorem trn_adj {r : List α} (h : Rnd r) {k : Nat} (hk : k < r.length) {a b : α} (ha : Adj (trn r k) a b) : Adj r a b := by
  obtain ⟨i, h1, h2⟩ := ha
  have hi : i + 1 < (trn r k).length := (List.getElem?_eq_some_iff.mp h2).1
  rw [trn_len hk] at hi
  rw [trn_get hk h.closed (by omega) (by omega)] at h1
  rw [trn_get hk h.closed (by omega) (by omega)] at h2
  have hm := Nat.mod_lt (k + i) (show 0 < r.length - 1 by omega)
  refine ⟨(k + i) % (r.length - 1), h1, ?_⟩
  by_cases e : (k + i) % (r.length - 1) + 1 = r.length - 1
  · have e2 : (k + (i + 1)) % (r.length - 1) = 0 := by
      rw [← Nat.add_assoc, Nat.add_mod, show (k + i) % (r.length - 1) = r.length - 2 by omega]
      by_cases h2' : r.length = 2
      · rw [h2']
      · rw [Nat.mod_eq_of_lt (show 1 < r.length - 1 by omega), show r.length - 2 + 1 = r.length - 1 by omega, Nat.mod_self]
    rw [e, ← h.closed]
    rw [e2] at h2
    exact h2
  · have e2 : (k + (i + 1)) % (r.length - 1) = (k + i) % (r.length - 1) + 1 := by
      rw [← Nat.add_assoc, Nat.add_mod]
      by_cases h1' : r.length - 1 = 1
      · omega
      · rw [Nat.mod_eq_of_lt (show 1 < r.length - 1 by omega), Nat.mod_eq_of_lt (by omega)]
    rw [e2] at h2
    exact h2

/-! ### walked: the way from the first place -/
def push (w : List α) (x : α) : List α := if 1 < w.length ∧ w[w.length - 2]? = some x then w.dropLast else w ++ [x]
structure Way (r w : List α) : Prop where
  ne : w ≠ []
  hd : w[0]? = r[0]?
  nd : w.Nodup
  sub : ∀ x ∈ w, x ∈ r
  adj : ∀ k, k + 1 < w.length → ∃ a b, w[k]? = some a ∧ w[k + 1]? = some b ∧ Adj r a b
/-- a simple way along the ties of a round -/
structure Wy (r w : List α) : Prop where
  ne : w ≠ []
  nd : w.Nodup
  sub : ∀ x ∈ w, x ∈ r
  adj : ∀ k, k + 1 < w.length → ∃ a b, w[k]? = some a ∧ w[k + 1]? = some b ∧ Adj r a b
def stk (r : List α) (i : Nat) : List α := (r.take (i + 1)).foldl push []
theorem stk_way {r : List α} (h : Rnd r) : ∀ {i : Nat}, i < r.length → Way r (stk r i) ∧ (stk r i)[(stk r i).length - 1]? = r[i]? := by
  induction h with
  | one a =>
    intro i hi
    have : i = 0 := by simp at hi; omega
    subst this
    exact ⟨⟨by simp [stk, push], rfl, by simp [stk, push], fun x hx => by simpa [stk, push] using hx, fun k hk => by simp [stk, push] at hk⟩, rfl⟩
  | @more r j x h hj hx ih =>
    intro i hi
    rw [ins_len hj] at hi
    have wide : ∀ {w : List α}, Way r w → Way (ins r j x) w := fun {w} W =>
      ⟨W.ne, by rw [W.hd, ins_head hj], W.nd, fun y hy => (ins_mem hj).mpr (.inr (W.sub y hy)), fun k hk => by
        obtain ⟨a, b, h1, h2, h3⟩ := W.adj k hk
        exact ⟨a, b, h1, h2, adj_ins hj h3⟩⟩
    obtain ⟨Wj, Lj⟩ := ih hj
    -- the stack behind number j, then with x, then without it
    have hxs : x ∉ stk r j := fun hm => hx (Wj.sub x hm)
    have lpos : 0 < (stk r j).length := List.length_pos_iff.mpr Wj.ne
    have p1 : push (stk r j) x = stk r j ++ [x] := by
      unfold push
      rw [if_neg]
      rintro ⟨_, e⟩
      exact hxs (List.mem_of_getElem? e)
    have p2 : ∀ y, r[j]? = some y → push (stk r j ++ [x]) y = stk r j := fun y hy => by
      unfold push
      rw [if_pos, List.dropLast_concat]
      rw [List.length_append, List.length_singleton]
      refine ⟨by omega, ?_⟩
      rw [List.getElem?_append_left (by omega), show (stk r j).length + 1 - 2 = (stk r j).length - 1 by omega, Lj, hy]
    by_cases h1 : i ≤ j
    · have e : stk (ins r j x) i = stk r i := by
        unfold stk ins
        rw [List.take_append_of_le_length (by rw [List.length_take]; omega), List.take_take, Nat.min_eq_left (by omega)]
      rw [e, ins_at1 hj h1]
      obtain ⟨W, L⟩ := ih (i := i) (by omega)
      exact ⟨wide W, L⟩
    · by_cases h2 : i = j + 1
      · subst h2
        have e : stk (ins r j x) (j + 1) = stk r j ++ [x] := by
          unfold stk ins
          rw [List.take_append, List.take_take, List.length_take, Nat.min_eq_left (show j + 1 ≤ r.length by omega), Nat.min_eq_right (show j + 1 ≤ j + 1 + 1 by omega), show j + 1 + 1 - (j + 1) = 1 by omega, List.foldl_append]
          exact p1
        rw [e, ins_at2 hj]
        refine ⟨⟨by simp, ?_, ?_, fun y hy => ?_, fun k hk => ?_⟩, by simp⟩
        · rw [List.getElem?_append_left lpos, Wj.hd, ins_head hj]
        · rw [List.nodup_append]
          refine ⟨Wj.nd, by simp, fun a ha b hb => ?_⟩
          rw [List.mem_singleton] at hb
          rintro rfl
          exact hxs (hb ▸ ha)
        · rcases List.mem_append.mp hy with hy | hy
          · exact (ins_mem hj).mpr (.inr (Wj.sub y hy))
          · exact (ins_mem hj).mpr (.inl (List.mem_singleton.mp hy))
        · rw [List.length_append, List.length_singleton] at hk
          by_cases hk2 : k + 1 < (stk r j).length
          · obtain ⟨a, b, h1, h2, h3⟩ := Wj.adj k hk2
            exact ⟨a, b, by rw [List.getElem?_append_left (by omega), h1], by rw [List.getElem?_append_left hk2, h2], adj_ins hj h3⟩
          · have hk3 : k = (stk r j).length - 1 := by omega
            obtain ⟨y, hy⟩ : ∃ y, r[j]? = some y := ⟨_, List.getElem?_eq_getElem hj⟩
            refine ⟨y, x, ?_, ?_, (adj_new hj hy).1⟩
            · rw [List.getElem?_append_left (by omega), hk3, Lj, hy]
            · rw [List.getElem?_append_right (by omega), show k + 1 - (stk r j).length = 0 by omega]
              rfl
      · have e : stk (ins r j x) i = stk r (i - 2) := by
          obtain ⟨y, hy⟩ : ∃ y, r[j]? = some y := ⟨_, List.getElem?_eq_getElem hj⟩
          have hy' : r[j] = y := by rw [List.getElem?_eq_getElem hj] at hy; exact Option.some.inj hy
          have e1 : (ins r j x).take (i + 1) = r.take (j + 1) ++ x :: y :: (r.drop (j + 1)).take (i - 2 - j) := by
            unfold ins
            rw [List.take_append, List.take_take, List.length_take, Nat.min_eq_left (show j + 1 ≤ r.length by omega), Nat.min_eq_right (show j + 1 ≤ i + 1 by omega)]
            rw [show i + 1 - (j + 1) = (i - 2 - j) + 1 + 1 by omega, List.take_succ_cons, List.drop_eq_getElem_cons hj, List.take_succ_cons, hy']
          have e2 : r.take (i - 2 + 1) = r.take (j + 1) ++ (r.drop (j + 1)).take (i - 2 - j) := by
            have : i - 2 + 1 = (j + 1) + (i - 2 - j) := by omega
            rw [this, List.take_add]
          unfold stk
          rw [e1, e2, List.foldl_append, List.foldl_append, List.foldl_cons, List.foldl_cons]
          have q1 : push (List.foldl push [] (r.take (j + 1))) x = stk r j ++ [x] := p1
          rw [q1, p2 y hy]
          rfl
        rw [e, ins_at3 hj (by omega)]
        obtain ⟨W, L⟩ := ih (i := i - 2) (by omega)
        exact ⟨wide W, L⟩
end
end Tw
/-! Rounds of trees: peeled, spliced, parted. -/
namespace Tw
section
variable {α : Type} [DecidableEq α]
theorem Rnd.grow {C D : List α} {c y : α} (h : Rnd (C ++ c :: D)) (hy : y ∉ C ++ c :: D) : Rnd (C ++ c :: y :: c :: D) := by
  have := Rnd.more (j := C.length) h (by simp) hy
  unfold ins at this
  have e1 : (C ++ c :: D).take (C.length + 1) = C ++ [c] := by
    rw [show C ++ c :: D = (C ++ [c]) ++ D by simp, List.take_left' (by simp)]
  have e2 : (C ++ c :: D).drop C.length = c :: D := List.drop_left' rfl
  rw [e1, e2] at this
  simpa using this
theorem Rnd.shrink {r : List α} (h : Rnd r) (hl : 1 < r.length) : ∃ C c y D, r = C ++ c :: y :: c :: D ∧ Rnd (C ++ c :: D) ∧ y ∉ C ++ c :: D := by
  cases h with
  | one a => simp at hl
  | @more s j x h hj hx =>
    refine ⟨s.take j, s[j], x, s.drop (j + 1), ?_, ?_, ?_⟩
    · unfold ins
      rw [List.take_succ_eq_append_getElem hj, List.drop_eq_getElem_cons hj, List.append_assoc]
      rfl
    · rw [← List.drop_eq_getElem_cons hj, List.take_append_drop]; exact h
    · rw [← List.drop_eq_getElem_cons hj, List.take_append_drop]; exact hx
/-- a place that stands but once, with the same on both sides, taken out -/
theorem Rnd.leaf : ∀ (n : Nat) {A B : List α} {a x : α}, (A ++ a :: x :: a :: B).length = n → Rnd (A ++ a :: x :: a :: B) → x ∉ A ++ a :: B → Rnd (A ++ a :: B) := by
  intro n
  induction n using Nat.strongRecOn with
  | ind n ih =>
    intro A B a x hn h hx
    obtain ⟨C, c, y, D, e, hr, hy⟩ := h.shrink (by simp only [List.length_append, List.length_cons]; omega)
    have hlen := congrArg List.length e
    simp only [List.length_append, List.length_cons] at hlen hn
    rcases List.append_eq_append_iff.mp e with ⟨C', e1, e2⟩ | ⟨A', e1, e2⟩
    · -- C = A ++ C'
      subst e1
      match C', e2 with
      | [], e2 =>
        simp only [List.nil_append, List.cons.injEq] at e2
        obtain ⟨rfl, rfl, _, rfl⟩ := e2
        simpa using hr
      | [u], e2 =>
        simp only [List.cons_append, List.nil_append, List.cons.injEq] at e2
        obtain ⟨rfl, rfl, rfl, rfl⟩ := e2
        exact absurd (by simp) hx
      | [u, v], e2 =>
        simp only [List.cons_append, List.nil_append, List.cons.injEq] at e2
        obtain ⟨rfl, rfl, rfl, rfl⟩ := e2
        have h2 : Rnd (A ++ a :: D) := ih _ (by simp only [List.length_append, List.length_cons]; simp only [List.length_append, List.length_cons] at hlen hn; omega) (B := D) (x := x) rfl (by simpa using hr) (fun z => hx (by
          simp only [List.mem_append, List.mem_cons] at z ⊢
          rcases z with z | z | z
          · exact .inl z
          · exact .inr (.inl z)
          · exact .inr (.inr (.inr (.inr z)))))
        exact h2.grow fun z => hy (by
          simp only [List.mem_append, List.mem_cons] at z ⊢
          rcases z with z | z | z
          · exact .inl (.inl z)
          · exact .inr (.inl z)
          · exact .inr (.inr z))
      | u :: v :: w :: E, e2 =>
        simp only [List.cons_append, List.cons.injEq] at e2
        obtain ⟨rfl, rfl, rfl, rfl⟩ := e2
        have h2 : Rnd (A ++ a :: (E ++ c :: D)) := ih _ (by simp only [List.length_append, List.length_cons]; simp only [List.length_append, List.length_cons] at hlen hn; omega) (B := E ++ c :: D) (x := x) rfl (by simpa using hr) (fun z => hx (by
          simp only [List.mem_append, List.mem_cons] at z ⊢
          rcases z with z | z | z | z | z
          · exact .inl z
          · exact .inr (.inl z)
          · exact .inr (.inr (.inl z))
          · exact .inr (.inr (.inr (.inl z)))
          · exact .inr (.inr (.inr (.inr (.inr (.inr z)))))))
        have h3 := Rnd.grow (C := A ++ a :: E) (c := c) (D := D) (y := y) (by simpa using h2) fun z => hy (by
          simp only [List.mem_append, List.mem_cons] at z ⊢
          rcases z with (z | z | z) | z | z
          · exact .inl (.inl z)
          · exact .inl (.inr (.inl z))
          · exact .inl (.inr (.inr (.inr (.inr z))))
          · exact .inr (.inl z)
          · exact .inr (.inr z))
        simpa using h3
    · -- A = C ++ A'
      subst e1
      match A', e2 with
      | [], e2 =>
        simp only [List.nil_append, List.cons.injEq] at e2
        obtain ⟨rfl, rfl, _, rfl⟩ := e2
        simpa using hr
      | [u], e2 =>
        simp only [List.cons_append, List.nil_append, List.cons.injEq] at e2
        obtain ⟨rfl, rfl, rfl, rfl⟩ := e2
        exact absurd (by simp) hx
      | [u, v], e2 =>
        simp only [List.cons_append, List.nil_append, List.cons.injEq] at e2
        obtain ⟨rfl, rfl, rfl, rfl⟩ := e2
        have h2 : Rnd (C ++ c :: B) := ih _ (by simp only [List.length_append, List.length_cons]; simp only [List.length_append, List.length_cons] at hlen hn; omega) (B := B) (x := x) rfl (by simpa using hr) (fun z => hx (by
          simp only [List.mem_append, List.mem_cons] at z ⊢
          rcases z with z | z | z
          · exact .inl (.inl z)
          · exact .inr (.inl z)
          · exact .inr (.inr z)))
        have h3 := h2.grow (y := y) fun z => hy (by
          simp only [List.mem_append, List.mem_cons] at z ⊢
          rcases z with z | z | z
          · exact .inl z
          · exact .inr (.inl z)
          · exact .inr (.inr (.inr (.inr z))))
        simpa using h3
      | u :: v :: w :: E, e2 =>
        simp only [List.cons_append, List.cons.injEq] at e2
        obtain ⟨rfl, rfl, rfl, rfl⟩ := e2
        have h2 : Rnd ((C ++ c :: E) ++ a :: B) := ih _ (by simp only [List.length_append, List.length_cons]; simp only [List.length_append, List.length_cons] at hlen hn; omega) (A := C ++ c :: E) (B := B) (x := x) rfl (by simpa using hr) (fun z => hx (by
          simp only [List.mem_append, List.mem_cons] at z ⊢
          rcases z with (z | z | z) | z | z
          · exact .inl (.inl z)
          · exact .inl (.inr (.inl z))
          · exact .inl (.inr (.inr (.inr (.inr z))))
          · exact .inr (.inl z)
          · exact .inr (.inr z)))
        have h3 := Rnd.grow (C := C) (c := c) (D := E ++ a :: B) (y := y) (by simpa using h2) fun z => hy (by
          simp only [List.mem_append, List.mem_cons] at z ⊢
          rcases z with z | z | z | z | z
          · exact .inl z
          · exact .inr (.inl z)
          · exact .inr (.inr (.inl z))
          · exact .inr (.inr (.inr (.inl z)))
          · exact .inr (.inr (.inr (.inr (.inr (.inr z))))))
        simpa using h3
/-- a round put in behind a place -/
theorem Rnd.graft {A B : List α} {a : α} (h : Rnd (A ++ a :: B)) : ∀ (n : Nat) {T : List α}, T.length = n → Rnd T → (∀ x ∈ T, x ∉ A ++ a :: B) → Rnd (A ++ a :: (T ++ a :: B)) := by
  intro n
  induction n using Nat.strongRecOn with
  | ind n ih =>
    intro T hn ht hd
    by_cases hl : 1 < T.length
    · obtain ⟨C, c, y, D, e, hr, hy⟩ := ht.shrink hl
      subst e
      have h2 := ih (C ++ c :: D).length (by rw [← hn]; simp only [List.length_append, List.length_cons]; omega) rfl hr fun x hx => hd x (by
        simp only [List.mem_append, List.mem_cons] at hx ⊢
        rcases hx with z | z | z
        · exact .inl z
        · exact .inr (.inl z)
        · exact .inr (.inr (.inr (.inr z))))
      have h3 := Rnd.grow (C := A ++ a :: C) (c := c) (D := D ++ a :: B) (y := y) (by simpa using h2) fun z => by
        have h4 := hd y (by simp)
        simp only [List.mem_append, List.mem_cons] at z h4 hy
        rcases z with (z | z | z) | z | z | z | z
        · exact h4 (.inl z)
        · exact h4 (.inr (.inl z))
        · exact hy (.inl z)
        · exact hy (.inr (.inl z))
        · exact hy (.inr (.inr z))
        · exact h4 (.inr (.inl z))
        · exact h4 (.inr (.inr z))
      simpa using h3
    · cases T with
      | nil => exact absurd rfl ht.ne
      | cons x T =>
        cases T with
        | cons y T => simp at hl
        | nil => exact h.grow (hd x (by simp))
theorem split_at {X1 X2 Y1 Y2 : List α} {y : α} (h1 : y ∉ X1) (h2 : y ∉ X2) (e : X1 ++ y :: Y1 = X2 ++ y :: Y2) : X1 = X2 ∧ Y1 = Y2 := by
  induction X1 generalizing X2 with
  | nil =>
    cases X2 with
    | nil => simpa using e
    | cons z X2 =>
      simp only [List.nil_append, List.cons_append, List.cons.injEq] at e
      exact absurd (by rw [e.1]; simp) h2
  | cons z X1 ih =>
    cases X2 with
    | nil =>
      simp only [List.nil_append, List.cons_append, List.cons.injEq] at e
      exact absurd (by rw [e.1]; simp) h1
    | cons w X2 =>
      simp only [List.cons_append, List.cons.injEq] at e
      obtain ⟨rfl, e⟩ := e
      obtain ⟨rfl, rfl⟩ := ih (fun z => h1 (by simp [z])) (fun z => h2 (by simp [z])) e
      exact ⟨rfl, rfl⟩
/-- a round parted at a tie -/
theorem Rnd.part : ∀ (n : Nat) {A I R : List α} {p q : α}, (A ++ p :: (I ++ p :: R)).length = n → Rnd (A ++ p :: (I ++ p :: R)) → I.head? = some q → I.getLast? = some q →
    Rnd (A ++ p :: R) ∧ Rnd I ∧ ∀ x ∈ I, x ∉ A ++ p :: R := by
  intro n
  induction n using Nat.strongRecOn with
  | ind n ih =>
    intro A I R p q hn h hh hl
    obtain ⟨C, c, y, D, e, hr, hy⟩ := h.shrink (by simp only [List.length_append, List.length_cons]; omega)
    have hlen := congrArg List.length e
    simp only [List.length_append, List.length_cons] at hlen hn
    have e' : A ++ p :: (I ++ p :: R) = (C ++ [c]) ++ y :: (c :: D) := by rw [e]; simp
    have hyC : y ∉ C ++ [c] := fun z => hy (by
      simp only [List.mem_append, List.mem_cons, List.not_mem_nil, or_false] at z ⊢
      rcases z with z | z
      · exact .inl z
      · exact .inr (.inl z))
    have hyD : y ∉ c :: D := fun z => hy (List.mem_append.mpr (.inr z))
    by_cases hA : y ∈ A
    · obtain ⟨A1, A2, rfl, hA1⟩ := List.eq_append_cons_of_mem hA
      obtain ⟨rfl, e2⟩ := split_at (Y1 := A2 ++ p :: (I ++ p :: R)) hA1 hyC (by simpa using e')
      cases A2 with
      | nil =>
        simp only [List.nil_append, List.cons.injEq] at e2
        obtain ⟨rfl, rfl⟩ := e2
        obtain ⟨k1, k2, k3⟩ := ih (C ++ p :: (I ++ p :: R)).length (by simp only [List.length_append, List.length_cons]; simp only [List.length_append, List.length_cons] at hlen hn; omega) rfl hr hh hl
        refine ⟨?_, k2, fun x hx z => ?_⟩
        · have := k1.grow (y := y) fun z => hy (by
            simp only [List.mem_append, List.mem_cons] at z ⊢
            rcases z with z | z | z
            · exact .inl z
            · exact .inr (.inl z)
            · exact .inr (.inr (.inr (.inr z))))
          simpa using this
        · have h1 := k3 x hx
          have h2 : x ≠ y := fun z => hyD (by rw [← z]; simp [hx])
          simp only [List.mem_append, List.mem_cons, List.not_mem_nil, or_false] at z h1
          rcases z with ((z | z) | z) | z | z
          · exact h1 (.inl z)
          · exact h1 (.inr (.inl z))
          · exact h2 z
          · exact h1 (.inr (.inl z))
          · exact h1 (.inr (.inr z))
      | cons d A3 =>
        simp only [List.cons_append, List.cons.injEq] at e2
        obtain ⟨rfl, rfl⟩ := e2
        obtain ⟨k1, k2, k3⟩ := ih ((C ++ d :: A3) ++ p :: (I ++ p :: R)).length (by simp only [List.length_append, List.length_cons]; simp only [List.length_append, List.length_cons] at hlen hn; omega) rfl (by simpa using hr) hh hl
        refine ⟨?_, k2, fun x hx z => ?_⟩
        · have := Rnd.grow (C := C) (c := d) (D := A3 ++ p :: R) (y := y) (by simpa using k1) fun z => hy (by
            simp only [List.mem_append, List.mem_cons] at z ⊢
            rcases z with z | z | z | z | z
            · exact .inl z
            · exact .inr (.inl z)
            · exact .inr (.inr (.inl z))
            · exact .inr (.inr (.inr (.inl z)))
            · exact .inr (.inr (.inr (.inr (.inr (.inr z))))))
          simpa using this
        · have h1 := k3 x hx
          have h2 : x ≠ y := fun z => hyD (by rw [← z]; simp [hx])
          simp only [List.mem_append, List.mem_cons, List.not_mem_nil, or_false] at z h1
          rcases z with ((z | z) | z | z | z) | z | z
          · exact h1 (.inl (.inl z))
          · exact h1 (.inl (.inr (.inl z)))
          · exact h2 z
          · exact h1 (.inl (.inr (.inl z)))
          · exact h1 (.inl (.inr (.inr z)))
          · exact h1 (.inr (.inl z))
          · exact h1 (.inr (.inr z))
    · have hyp : y ≠ p := by
        rintro rfl
        obtain ⟨rfl, e2⟩ := split_at (Y1 := I ++ y :: R) hA hyC e'
        exact hyD (by rw [← e2]; simp)
      by_cases hI : y ∈ I
      · obtain ⟨I1, I2, rfl, hI1⟩ := List.eq_append_cons_of_mem hI
        obtain ⟨e1, e2⟩ := split_at (X1 := A ++ p :: I1) (Y1 := I2 ++ p :: R) (fun z => by
          simp only [List.mem_append, List.mem_cons] at z
          rcases z with z | z | z
          · exact hA z
          · exact hyp z
          · exact hI1 z) hyC (by simpa using e')
        rcases List.eq_nil_or_concat I1 with rfl | ⟨I3, c', rfl⟩
        · obtain ⟨rfl, e3⟩ : A = C ∧ p = c := by
            have := List.append_inj' e1 rfl
            exact ⟨this.1, by simpa using this.2⟩
          subst e3
          simp only [List.nil_append, List.head?_cons, Option.some.injEq] at hh
          subst hh
          have : I2 = [] := by
            rcases List.eq_nil_or_concat I2 with rfl | ⟨I4, z, rfl⟩
            · rfl
            · simp only [List.nil_append, List.concat_eq_append] at hl
              rw [← List.cons_append, List.getLast?_append] at hl
              simp at hl
              subst hl
              exact absurd (by rw [← e2]; simp) hyD
          subst this
          simp only [List.nil_append, List.cons.injEq, true_and] at e2
          subst e2
          refine ⟨hr, .one _, fun x hx => ?_⟩
          simp only [List.nil_append, List.mem_singleton] at hx
          subst hx
          exact hy
        · rw [List.concat_eq_append] at *
          obtain ⟨rfl, e3⟩ : A ++ p :: I3 = C ∧ c' = c := by
            have : (A ++ p :: I3) ++ [c'] = C ++ [c] := by rw [← e1]; simp
            have := List.append_inj' this rfl
            exact ⟨this.1, by simpa using this.2⟩
          subst e3
          cases I2 with
          | nil =>
            exfalso
            rw [List.getLast?_append] at hl
            simp at hl
            subst hl
            have : (I3 ++ [c']).head? = some y := by
              rw [List.head?_append] at hh ⊢
              cases hz : (I3 ++ [c']).head? with
              | none => simp at hz
              | some z =>
                rw [hz] at hh
                simp at hh
                rw [List.head?_append] at hz
                rw [hz, hh]
            exact hI1 (List.mem_of_mem_head? this)
          | cons d I4 =>
            simp only [List.cons_append, List.cons.injEq] at e2
            obtain ⟨rfl, rfl⟩ := e2
            obtain ⟨k1, k2, k3⟩ := ih (A ++ p :: ((I3 ++ d :: I4) ++ p :: R)).length (by simp only [List.length_append, List.length_cons]; simp only [List.length_append, List.length_cons, List.length_nil] at hlen hn; omega) rfl (by simpa using hr)
              (by
                cases I3 with
                | nil => simpa using hh
                | cons z I3 => simpa using hh)
              (by
                have : I3 ++ [d] ++ y :: d :: I4 = (I3 ++ [d, y]) ++ (d :: I4) := by simp
                rw [this, List.getLast?_append] at hl
                rw [List.getLast?_append]
                cases hz : (d :: I4).getLast? with
                | none => simp at hz
                | some z => rw [hz] at hl; simpa using hl)
            refine ⟨k1, ?_, fun x hx => ?_⟩
            · have := Rnd.grow (C := I3) (c := d) (D := I4) (y := y) k2 fun z => hy (by
                simp only [List.mem_append, List.mem_cons] at z ⊢
                rcases z with z | z | z
                · exact .inl (.inr (.inr z))
                · exact .inr (.inl z)
                · exact .inr (.inr (.inl z)))
              simpa using this
            · simp only [List.mem_append, List.mem_cons, List.not_mem_nil, or_false] at hx
              rcases hx with (hx | hx) | hx | hx | hx
              · exact k3 x (by simp [hx])
              · exact k3 x (by simp [hx])
              · subst hx
                intro z
                apply hy
                simp only [List.mem_append, List.mem_cons] at z ⊢
                rcases z with z | z | z
                · exact .inl (.inl z)
                · exact .inl (.inr (.inl z))
                · exact .inr (.inr (.inr (.inr z)))
              · exact k3 x (by simp [hx])
              · exact k3 x (by simp [hx])
      · have hR : y ∈ R := by
          have : y ∈ A ++ p :: (I ++ p :: R) := by rw [e]; simp
          simp only [List.mem_append, List.mem_cons] at this
          rcases this with z | z | z | z | z
          · exact absurd z hA
          · exact absurd z hyp
          · exact absurd z hI
          · exact absurd z hyp
          · exact z
        obtain ⟨R1, R2, rfl, hR1⟩ := List.eq_append_cons_of_mem hR
        obtain ⟨e1, e2⟩ := split_at (X1 := A ++ p :: (I ++ p :: R1)) (Y1 := R2) (fun z => by
          simp only [List.mem_append, List.mem_cons] at z
          rcases z with z | z | z | z | z
          · exact hA z
          · exact hyp z
          · exact hI z
          · exact hyp z
          · exact hR1 z) hyC (by simpa using e')
        subst e2
        rcases List.eq_nil_or_concat R1 with rfl | ⟨R3, c', rfl⟩
        · obtain ⟨rfl, e3⟩ : A ++ p :: I = C ∧ p = c := by
            have : (A ++ p :: I) ++ [p] = C ++ [c] := by rw [← e1]; simp
            have := List.append_inj' this rfl
            exact ⟨this.1, by simpa using this.2⟩
          subst e3
          obtain ⟨k1, k2, k3⟩ := ih (A ++ p :: (I ++ p :: D)).length (by simp only [List.length_append, List.length_cons]; simp only [List.length_append, List.length_cons, List.length_nil] at hlen hn; omega) rfl (by simpa using hr) hh hl
          refine ⟨?_, k2, fun x hx z => ?_⟩
          · exact k1.grow (y := y) fun z => hy (by
              simp only [List.mem_append, List.mem_cons] at z ⊢
              rcases z with z | z | z
              · exact .inl (.inl z)
              · exact .inr (.inl z)
              · exact .inr (.inr z))
          · have h1 := k3 x hx
            have h2 : x ≠ y := fun z => hI (by rw [← z]; exact hx)
            simp only [List.mem_append, List.mem_cons, List.nil_append] at z h1
            rcases z with z | z | z | z | z
            · exact h1 (.inl z)
            · exact h1 (.inr (.inl z))
            · exact h2 z
            · exact h1 (.inr (.inl z))
            · exact h1 (.inr (.inr z))
        · rw [List.concat_eq_append] at *
          obtain ⟨rfl, e3⟩ : A ++ p :: (I ++ p :: R3) = C ∧ c' = c := by
            have : (A ++ p :: (I ++ p :: R3)) ++ [c'] = C ++ [c] := by rw [← e1]; simp
            have := List.append_inj' this rfl
            exact ⟨this.1, by simpa using this.2⟩
          subst e3
          obtain ⟨k1, k2, k3⟩ := ih (A ++ p :: (I ++ p :: (R3 ++ c' :: D))).length (by simp only [List.length_append, List.length_cons]; simp only [List.length_append, List.length_cons, List.length_nil] at hlen hn; omega) rfl (by simpa using hr) hh hl
          refine ⟨?_, k2, fun x hx z => ?_⟩
          · have := Rnd.grow (C := A ++ p :: R3) (c := c') (D := D) (y := y) (by simpa using k1) fun z => hy (by
              simp only [List.mem_append, List.mem_cons] at z ⊢
              rcases z with (z | z | z) | z | z
              · exact .inl (.inl z)
              · exact .inl (.inr (.inl z))
              · exact .inl (.inr (.inr (.inr (.inr z))))
              · exact .inr (.inl z)
              · exact .inr (.inr z))
            simpa using this
          · have h1 := k3 x hx
            have h2 : x ≠ y := fun z => hI (by rw [← z]; exact hx)
            simp only [List.mem_append, List.mem_cons, List.not_mem_nil, or_false] at z h1
            rcases z with z | z | (z | z) | z | z | z
            · exact h1 (.inl z)
            · exact h1 (.inr (.inl z))
            · exact h1 (.inr (.inr (.inl z)))
            · exact h1 (.inr (.inr (.inr (.inl z))))
            · exact h2 z
            · exact h1 (.inr (.inr (.inr (.inl z))))
            · exact h1 (.inr (.inr (.inr (.inr z))))
end
end Tw
/-! The ties of a round; a while by its word. -/
namespace Tw
def prs : List Int → List PP
  | a :: b :: r => (a, b) :: prs (b :: r)
  | _ => []
theorem prs_app (a : Int) (B : List Int) : ∀ A : List Int, prs (A ++ a :: B) = prs (A ++ [a]) ++ prs (a :: B)
  | [] => rfl
  | [x] => rfl
  | x :: y :: A => by
    show (x, y) :: prs ((y :: A) ++ a :: B) = (x, y) :: prs ((y :: A) ++ [a]) ++ prs (a :: B)
    rw [prs_app a B (y :: A)]
    rfl
theorem prs_len : ∀ r : List Int, (prs r).length = r.length - 1
  | [] => rfl
  | [x] => rfl
  | x :: y :: r => by
    show (prs (y :: r)).length + 1 = _
    rw [prs_len (y :: r)]
    simp
theorem prs_get : ∀ {r : List Int} {i : Nat} {a b : Int}, (prs r)[i]? = some (a, b) ↔ r[i]? = some a ∧ r[i + 1]? = some b
  | [], i, a, b => by simp [prs]
  | [x], i, a, b => by
    cases i <;> simp [prs]
  | x :: y :: r, 0, a, b => by simp [prs]
  | x :: y :: r, i + 1, a, b => by
    show (prs (y :: r))[i]? = _ ↔ (y :: r)[i]? = _ ∧ (y :: r)[i + 1]? = _
    exact prs_get
theorem prs_mem {r : List Int} {a b : Int} : (a, b) ∈ prs r ↔ Adj r a b := by
  rw [List.mem_iff_getElem?]
  exact ⟨fun ⟨i, h⟩ => ⟨i, prs_get.mp h⟩, fun ⟨i, h⟩ => ⟨i, prs_get.mpr h⟩⟩
def tie (a b : Int) : PP := (min a b, max a b)
theorem tie_comm (a b : Int) : tie a b = tie b a := by unfold tie; rw [Int.min_comm, Int.max_comm]
theorem tie_lt {a b : Int} (h : a ≠ b) : (tie a b).1 < (tie a b).2 := by show min a b < max a b; omega
theorem tie_eq {a b c d : Int} : tie a b = tie c d ↔ (a = c ∧ b = d) ∨ (a = d ∧ b = c) := by
  unfold tie
  rw [Prod.mk.injEq]
  omega
def eds (r : List Int) : List PP := (prs r).filter fun x => decide (x.1 < x.2)
theorem eds_leaf {A B : List Int} {a x : Int} (h : a ≠ x) : (tie x a :: eds (A ++ a :: B)).Perm (eds (A ++ a :: x :: a :: B)) := by
  unfold eds
  rw [prs_app a B A, prs_app a (x :: a :: B) A]
  show (_ :: _).Perm (List.filter _ (prs (A ++ [a]) ++ ((a, x) :: (x, a) :: prs (a :: B))))
  rw [List.filter_append, List.filter_append]
  have : List.filter (fun z : PP => decide (z.1 < z.2)) ((a, x) :: (x, a) :: prs (a :: B)) = tie x a :: List.filter (fun z : PP => decide (z.1 < z.2)) (prs (a :: B)) := by
    unfold tie
    by_cases hl : a < x
    · rw [List.filter_cons_of_pos (by simpa using hl), List.filter_cons_of_neg (by simp; omega), Int.min_eq_right (by omega), Int.max_eq_left (by omega)]
    · rw [List.filter_cons_of_neg (by simpa using hl), List.filter_cons_of_pos (by simp; omega), Int.min_eq_left (by omega), Int.max_eq_right (by omega)]
  rw [this]
  exact List.perm_middle.symm
theorem eds_cut {A B T : List Int} {a b : Int} (hab : a ≠ b) (hh : T.head? = some b) (hl : T.getLast? = some b) : (eds (A ++ a :: (T ++ a :: B))).Perm (eds (A ++ a :: B) ++ eds T ++ [tie a b]) := by
  have h1 : prs (a :: (T ++ a :: B)) = (a, b) :: prs T ++ (b, a) :: prs (a :: B) := by
    cases T with
    | nil => cases hh
    | cons c T =>
      simp only [List.head?_cons, Option.some.injEq] at hh
      subst hh
      obtain ⟨T', e⟩ : ∃ T', c :: T = T' ++ [c] := by
        rcases List.eq_nil_or_concat (c :: T) with z | ⟨T', z, e⟩
        · cases z
        · rw [e, List.concat_eq_append, List.getLast?_append] at hl
          simp at hl
          exact ⟨T', by rw [e, hl, List.concat_eq_append]⟩
      show (a, c) :: prs ((c :: T) ++ a :: B) = _
      rw [e, List.append_assoc]
      show (a, c) :: prs (T' ++ c :: (a :: B)) = _
      rw [prs_app c (a :: B) T']
      rfl
  unfold eds
  rw [prs_app a B A, prs_app a (T ++ a :: B) A, h1]
  simp only [List.filter_append, List.cons_append, List.filter_cons]
  have ht : tie a b = if a < b then (a, b) else (b, a) := by
    unfold tie
    by_cases h : a < b
    · rw [if_pos h, Int.min_eq_left (by omega), Int.max_eq_right (by omega)]
    · rw [if_neg h, Int.min_eq_right (by omega), Int.max_eq_left (by omega)]
  rw [ht]
  rw [List.perm_iff_count]
  intro z
  by_cases h : a < b
  · have h2 : ¬ b < a := by omega
    simp only [h, h2, decide_true, decide_false, if_true, if_false, List.count_append, List.count_cons, List.count_nil, Bool.false_eq_true]
    omega
  · have h2 : b < a := by omega
    simp only [h, h2, decide_true, decide_false, if_true, if_false, List.count_append, List.count_cons, List.count_nil, Bool.false_eq_true]
    omega
theorem sort_perm {xs ys : List PP} (h : xs.Perm ys) : sortP xs = sortP ys :=
  uniq_sortedP (((perm_sortP xs).trans h).trans (perm_sortP ys).symm) (sorted_sortP xs) (sorted_sortP ys)
def Leaf (r : List Int) (i : Nat) : Prop := ∃ A a x B, r = A ++ a :: x :: a :: B ∧ A.length + 1 = i ∧ x ∉ A ++ a :: B
theorem Rnd.has_leaf {r : List Int} (h : Rnd r) (hl : 1 < r.length) : ∃ i, Leaf r i := by
  obtain ⟨C, c, y, D, e, _, hy⟩ := h.shrink hl
  exact ⟨_, C, c, y, D, e, rfl, hy⟩
theorem leaf_lt {r : List Int} {i : Nat} (h : Leaf r i) : 1 ≤ i ∧ i + 1 < r.length := by
  obtain ⟨A, a, x, B, rfl, hi, _⟩ := h
  simp only [List.length_append, List.length_cons]
  omega
theorem leaf_of {r : List Int} {k : Nat} (h1 : 1 ≤ k) (h2 : k + 1 < r.length) (e : r[k - 1]'(by omega) = r[k + 1]) (c : r.count (r[k]'(by omega)) = 1) : Leaf r k := by
  have e1 : r = r.take (k - 1) ++ r[k - 1]'(by omega) :: r[k]'(by omega) :: r[k - 1]'(by omega) :: r.drop (k + 2) := by
    conv => lhs; rw [← List.take_append_drop (k - 1) r]
    congr 1
    rw [List.drop_eq_getElem_cons (by omega)]
    congr 1
    have : k - 1 + 1 = k := by omega
    simp only [this]
    rw [List.drop_eq_getElem_cons (by omega), List.drop_eq_getElem_cons (by omega), e]
  refine ⟨_, _, _, _, e1, by rw [List.length_take]; omega, ?_⟩
  generalize hA : r.take (k - 1) = A at *
  generalize hB : r.drop (k + 2) = B at *
  generalize ha : r[k - 1]'(by omega) = a at *
  generalize hx : r[k]'(by omega) = x at *
  rw [e1] at c
  simp only [List.count_append, List.count_cons, beq_self_eq_true, if_true] at c
  have hne : ¬ (a == x) = true := fun z => by simp only [z, if_true] at c; omega
  simp only [hne, Bool.false_eq_true, if_false] at c
  intro hm
  rcases List.mem_append.mp hm with z | z
  · have := List.count_pos_iff.mpr z
    omega
  · rcases List.mem_cons.mp z with z | z
    · exact hne (by simp [z])
    · have := List.count_pos_iff.mpr z
      omega
theorem leaf_at {r : List Int} {k : Nat} (h : Leaf r k) : ∃ (h1 : k - 1 < r.length) (h2 : k < r.length) (h3 : k + 1 < r.length), r[k - 1] = r[k + 1] ∧ r.count r[k] = 1 := by
  have := leaf_lt h
  obtain ⟨A, a, x, B, rfl, hi, hx⟩ := h
  refine ⟨by omega, by omega, this.2, ?_, ?_⟩
  · subst hi
    have e1 : (A ++ a :: x :: a :: B)[A.length + 1 - 1]? = some a := by
      rw [Nat.add_sub_cancel, List.getElem?_append_right (Nat.le_refl _), Nat.sub_self]; rfl
    have e2 : (A ++ a :: x :: a :: B)[A.length + 1 + 1]? = some a := by
      rw [List.getElem?_append_right (by omega), show A.length + 1 + 1 - A.length = 2 by omega]; rfl
    rw [List.getElem?_eq_getElem (by omega)] at e1 e2
    exact (Option.some.inj e1).trans (Option.some.inj e2).symm
  · subst hi
    have e1 : (A ++ a :: x :: a :: B)[A.length + 1]? = some x := by
      rw [List.getElem?_append_right (by omega), show A.length + 1 - A.length = 1 by omega]; rfl
    rw [List.getElem?_eq_getElem (by omega)] at e1
    rw [Option.some.inj e1]
    have hA : A.count x = 0 := List.count_eq_zero.mpr fun z => hx (by simp [z])
    have hB : B.count x = 0 := List.count_eq_zero.mpr fun z => hx (by simp [z])
    have ha : ¬ (a == x) = true := fun z => hx (by simp at z; simp [z])
    simp only [List.count_append, List.count_cons, hA, hB, ha, beq_self_eq_true, if_true, Bool.false_eq_true, if_false]
theorem leaf_keep {A B : List Int} {a x : Int} {j : Nat} (hx : x ∉ A ++ a :: B) (hj : j < A.length) (h : Leaf (A ++ a :: B) j) : Leaf (A ++ a :: x :: a :: B) j := by
  obtain ⟨h1, h2, h3, e, c⟩ := leaf_at h
  have hl := leaf_lt h
  have q : ∀ (i : Nat) (h' : i < (A ++ a :: B).length), i ≤ A.length → (A ++ a :: x :: a :: B)[i]'(by simp only [List.length_append, List.length_cons] at *; omega) = (A ++ a :: B)[i] := by
    intro i h' hi
    have : (A ++ a :: x :: a :: B)[i]? = (A ++ a :: B)[i]? := by
      by_cases hi2 : i < A.length
      · rw [List.getElem?_append_left hi2, List.getElem?_append_left hi2]
      · have : i = A.length := by omega
        subst this
        rw [List.getElem?_append_right (Nat.le_refl _), List.getElem?_append_right (Nat.le_refl _), Nat.sub_self]
        rfl
    rw [List.getElem?_eq_getElem h', List.getElem?_eq_getElem (by simp only [List.length_append, List.length_cons] at *; omega)] at this
    exact Option.some.inj this
  refine leaf_of hl.1 (by simp only [List.length_append, List.length_cons] at *; omega) ?_ ?_
  · rw [q _ h1 (by omega), q _ h3 (by omega), e]
  · rw [q _ h2 (by omega)]
    generalize hy : (A ++ a :: B)[j] = y at *
    have hyx : ¬ (x == y) = true := fun z => hx (by simp at z; rw [z, ← hy]; exact List.getElem_mem h2)
    have hyA : y ∈ A := by
      rw [List.getElem_append_left hj] at hy
      rw [← hy]; exact List.getElem_mem hj
    have hc := List.count_pos_iff.mpr hyA
    simp only [List.count_append, List.count_cons] at c
    have hya : ¬ (a == y) = true := fun z => by simp only [z, if_true] at c; omega
    simp only [hya, Bool.false_eq_true, if_false] at c
    simp only [List.count_append, List.count_cons, hya, hyx, Bool.false_eq_true, if_false]
    omega
/-- a while by its word and a measure -/
theorem while_by {S ρ τ : Type} {G : Option τ → Prop} {c : S → Option Bool} {f : S → Option (Flow S ρ)} {k : S → Option τ} {d : ρ → Option τ} (I : S → Prop) (μ : S → Nat)
    (step : ∀ s, I s → (c s = some false ∧ G (k s)) ∨ (c s = some true ∧ ((∃ s', f s = some (.nx s') ∧ I s' ∧ μ s' < μ s) ∨ (∃ s', f s = some (.bk s') ∧ G (k s')) ∨ ∃ r, f s = some (.dn r) ∧ G (d r)))) :
    ∀ (n : Nat) {s : S}, I s → μ s < n → G (after (whileM c f n s) k d)
  | 0, s, _, h => absurd h (Nat.not_lt_zero _)
  | n + 1, s, h0, hn => by
    rcases step s h0 with ⟨e, g⟩ | ⟨e, ⟨s', e2, h', hm⟩ | ⟨s', e2, g⟩ | ⟨r, e2, g⟩⟩
    · simp only [whileM]; rw [e]; exact g
    · have := while_by I μ step n h' (by omega)
      simp only [whileM]
      rw [e, bind_s, if_pos rfl, e2]
      exact this
    · simp only [whileM]; rw [e, bind_s, if_pos rfl, e2]; exact g
    · simp only [whileM]; rw [e, bind_s, if_pos rfl, e2]; exact g
theorem while_fuel {S ρ τ : Type} {G : Option τ → Prop} {c : S → Option Bool} {f : S → Option (Flow S ρ)} {k : S → Option τ} {d : ρ → Option τ} {s : S} (I : S → Prop) (μ : S → Nat) (h0 : I s) (hn : μ s < 1000000)
    (step : ∀ s, I s → (c s = some false ∧ G (k s)) ∨ (c s = some true ∧ ((∃ s', f s = some (.nx s') ∧ I s' ∧ μ s' < μ s) ∨ (∃ s', f s = some (.bk s') ∧ G (k s')) ∨ ∃ r, f s = some (.dn r) ∧ G (d r)))) :
    G (after (whileM c f fuel s) k d) := while_by I μ step fuel h0 (by unfold fuel; exact hn)
@[simp] theorem osortP_s (xs : List PP) : osortP (some xs) = some (sortP xs) := (rfl)
@[simp] theorem ocnt_s (xs : List Int) (y : Int) : ocnt (some xs) (some y) = some ((xs.count y : Nat) : Int) := (rfl)
theorem eds_len (r : List Int) : (eds r).length ≤ r.length := by
  unfold eds
  have := List.length_filter_le (fun x : PP => decide (x.1 < x.2)) (prs r)
  have := prs_len r
  omega
end Tw
namespace Tw
open PySem L2
theorem dput_keys {κ β : Type} [DecidableEq κ] (kvs : List (κ × β)) (k : κ) (v : β) : (dput kvs k v).map (·.1) = if k ∈ kvs.map (·.1) then kvs.map (·.1) else kvs.map (·.1) ++ [k] := by
  unfold dput
  by_cases h : (kvs.any fun x => decide (x.1 = k)) = true
  · rw [if_pos h, List.map_map, if_pos]
    · refine List.map_congr_left fun x _ => ?_
      show (if x.1 = k then (x.1, v) else x).1 = x.1
      split <;> rfl
    · obtain ⟨x, hx, e⟩ := List.any_eq_true.mp h
      exact List.mem_map.mpr ⟨x, hx, by simpa using e⟩
  · rw [if_neg h, List.map_append, if_neg]
    · rfl
    · intro z
      obtain ⟨x, hx, e⟩ := List.mem_map.mp z
      exact h (List.any_eq_true.mpr ⟨x, hx, by simpa using e⟩)
theorem nodup_range {n : Int} {xs : List Int} (nd : xs.Nodup) (rg : ∀ x ∈ xs, 0 ≤ x ∧ x < n) : xs.length ≤ n.toNat := by
  have := nd.length_le_of_subset (l₂ := upto n.toNat 0 1) fun x hx => by
    obtain ⟨h1, h2⟩ := rg x hx
    unfold upto
    exact List.mem_map.mpr ⟨x.toNat, List.mem_range.mpr (by omega), by omega⟩
  rw [upto_len] at this
  exact this
/-- what is reached step by step -/
inductive Rch (R : Int → Int → Prop) (x : Int) : Int → Prop
  | refl : Rch R x x
  | tail {y z : Int} : Rch R x y → R y z → Rch R x z
theorem Rch.trans {R : Int → Int → Prop} {x y z : Int} (h : Rch R x y) (g : Rch R y z) : Rch R x z := by
  induction g with
  | refl => exact h
  | tail _ r ih => exact .tail ih r
theorem Rch.symm {R : Int → Int → Prop} (sy : ∀ x y, R x y → R y x) {x y : Int} (h : Rch R x y) : Rch R y x := by
  induction h with
  | refl => exact .refl
  | tail _ r ih => exact (Rch.tail .refl (sy _ _ r)).trans ih
theorem cell_s (ns : List Int) (k : Nat) : ∃ c, u_cellat (ns, (k : Int), ()) = some c := by
  rw [ue_cellat]
  unfold m_cellat
  simp only [olt_s, oite_s, oix_s]
  by_cases h : (k : Int) < ns.length
  · simp only [h, decide_true, if_true]
    rw [atI_nat' (i := k) (by omega)]
    exact ⟨_, rfl⟩
  · simp only [h, decide_false]
    exact ⟨0, rfl⟩
theorem cell_0 (ns : List Int) : ∃ c, u_cellat (ns, 0, ()) = some c := cell_s ns 0
theorem cell_1 (ns : List Int) : ∃ c, u_cellat (ns, 1, ()) = some c := cell_s ns 1
theorem cell_2 (ns : List Int) : ∃ c, u_cellat (ns, 2, ()) = some c := cell_s ns 2
theorem cell_3 (ns : List Int) : ∃ c, u_cellat (ns, 3, ()) = some c := cell_s ns 3
theorem whole_int (i : Int) : u_whole (em i, ()) = some true := by
  rw [ue_whole]
  unfold m_whole
  show Option.map _ (oand (some (isiD "int" (.int i))) (onot (some (isiD "bool" (.int i))))) = _
  rw [isi_int, isi_int_bool]
  rfl
def TieOk (n : Int) (t : PP) : Prop := 0 ≤ t.1 ∧ t.1 < t.2 ∧ t.2 < n
theorem app_s {α : Type} {xs : List α} {y : α} (h : xs.length < 100000) : Option.map (locR xs).upd (oapp (locR xs).y y) = some (xs ++ [y]) := by
  show Option.map _ (oapp xs y) = _
  rw [oapp_s h]
  rfl
theorem put_s {κ β : Type} [DecidableEq κ] {kvs : List (κ × β)} {k : κ} {v : β} (h : kvs.length < 100000) : Option.map (locR kvs).upd (odput (locR kvs).y k v) = some (dput kvs k v) := by
  show Option.map _ (odput kvs k v) = _
  rw [odput_s h]
  rfl
theorem count_s (c : Int) : ∃ n, u_count (c, ()) = some n ∧ 1 ≤ n ∧ n ≤ 200 := by
  rw [ue_count]
  unfold m_count
  rw [omod_s (a := c) (b := 4) (by decide), ofdiv_s (a := c) (b := 4) (by decide) (by decide), omod_s (a := c / 4) (b := 200) (by decide), omod_s (a := c / 4) (b := 12) (by decide)]
  simp only [oeq_s, oadd_s, oite_s, map_s]
  have a0 := Int.emod_nonneg (c / 4) (b := 200) (by decide)
  have a1 := Int.emod_lt_of_pos (c / 4) (b := 200) (by decide)
  have b0 := Int.emod_nonneg (c / 4) (b := 12) (by decide)
  have b1 := Int.emod_lt_of_pos (c / 4) (b := 12) (by decide)
  split
  · exact ⟨_, rfl, by omega, by omega⟩
  · exact ⟨_, rfl, by omega, by omega⟩
theorem digits_in {c b : Int} {n : Nat} (hb : 0 < b) (hb2 : b < 1000000) (hn : n ≤ 100) : ∃ r, u_digits (c, b, (n : Int), ()) = some r ∧ r.length = n ∧ ∀ x ∈ r, 0 ≤ x ∧ x < b := by
  rw [ue_digits]
  unfold m_digits
  simp only [bind_s]
  rw [orange1_s (by omega), Int.toNat_natCast]
  simp only [bind_s]
  refine after_by (G := fun o => ∃ r : List Int, o = some r ∧ r.length = n ∧ ∀ x ∈ r, 0 ≤ x ∧ x < b) (fun pre (s : Int × List Int) => s.2.length = pre.length ∧ ∀ x ∈ s.2, 0 ≤ x ∧ x < b) ⟨rfl, fun x hx => by cases hx⟩ ?_ ?_
  · rintro pre x post ⟨cc, r⟩ hx ⟨hs, hm⟩
    obtain ⟨_, hx2⟩ := upto_split hx
    simp only at hs hm
    simp only
    rw [omod_s hb, ofdiv_s hb (by omega)]
    simp only [bind_s]
    rw [app_s (by omega)]
    simp only [bind_s]
    refine ⟨_, rfl, by simp only [List.length_append, List.length_singleton]; omega, fun y hy => ?_⟩
    rcases List.mem_append.mp hy with hy | hy
    · exact hm y hy
    · rw [List.mem_singleton] at hy
      subst hy
      exact ⟨Int.emod_nonneg _ (by omega), Int.emod_lt_of_pos _ hb⟩
  · rintro s ⟨hs, hm⟩
    rw [upto_len] at hs
    exact ⟨_, rfl, hs, hm⟩
theorem ties_in {cs : List Int} {n : Int} {most : Nat} (h0 : 1 ≤ n) (h1 : n ≤ 200) (hl : cs.length ≤ 63) (hm : most ≤ 100) : ∃ r, u_ties (cs, n, (most : Int), ()) = some r ∧ r.length ≤ most ∧ ∀ x ∈ r, TieOk n x := by
  rw [ue_ties]
  unfold m_ties
  simp only [bind_s, olen_s]
  rw [orange1_s (by omega), Int.toNat_natCast]
  simp only [bind_s]
  refine after_by (G := fun o => ∃ r : List PP, o = some r ∧ r.length ≤ most ∧ ∀ x ∈ r, TieOk n x) (fun pre (s : List PP) => s.length ≤ most ∧ ∀ x ∈ s, TieOk n x) ⟨by simp, fun x hx => by cases hx⟩ ?_ ?_
  · rintro pre x post s hx ⟨hs, hi⟩
    obtain ⟨hx1, hx2⟩ := upto_split hx
    have hx1 : x = (pre.length : Int) := by omega
    subst hx1
    rw [oix_s, atI_nat' hx2, omod_s (a := cs[pre.length]) (b := n) (by omega), ofdiv_s (a := cs[pre.length]) (b := n) (by omega) (by omega), omul_l (a := 7) (by decide)]
    simp only [oadd_s, bind_s]
    rw [omod_s (b := n) (by omega)]
    generalize cs[pre.length] = c
    have a0 := Int.emod_nonneg c (b := n) (by omega)
    have a1 := Int.emod_lt_of_pos c (b := n) (by omega)
    have b0 := Int.emod_nonneg (c / n + 7 * (pre.length : Int) + 1) (b := n) (by omega)
    have b1 := Int.emod_lt_of_pos (c / n + 7 * (pre.length : Int) + 1) (b := n) (by omega)
    generalize c % n = a at *
    generalize (c / n + 7 * (pre.length : Int) + 1) % n = b at *
    simp only [bind_s, omin2_s, omax2_s, otup2_s, one_s, onind_s, olen_s, olt_s, oand_s, oite_s]
    split
    · rename_i hc
      simp only [Bool.and_eq_true, Bool.not_eq_true', decide_eq_true_eq, decide_eq_false_iff_not] at hc
      rw [app_s (by omega)]
      simp only [bind_s]
      refine ⟨_, rfl, by simp only [List.length_append, List.length_singleton]; omega, fun y hy => ?_⟩
      rcases List.mem_append.mp hy with hy | hy
      · exact hi y hy
      · rw [List.mem_singleton] at hy
        subst hy
        refine ⟨?_, ?_, ?_⟩
        · show 0 ≤ min a b; omega
        · show min a b < max a b; omega
        · show max a b < n; omega
    · exact ⟨_, rfl, hs, hi⟩
  · rintro s ⟨hs, hi⟩
    exact ⟨_, rfl, hs, hi⟩
theorem net_in (ns : List Int) {n : Int} (h0 : 1 ≤ n) (h1 : n ≤ 200) (hl : ns.length ≤ 63) : ∃ r, u_net (ns, n, ()) = some r ∧ r.length ≤ 60 ∧ ∀ x ∈ r, TieOk n x := by
  rw [ue_net]
  unfold m_net
  obtain ⟨c0, e0⟩ := cell_0 ns
  obtain ⟨c1, e1⟩ := cell_1 ns
  obtain ⟨c2, e2⟩ := cell_2 ns
  simp only [oarg_s, bind_s, e0, e1, e2, map_s, ocut_s]
  rw [omod_s (a := c0) (b := 2) (by decide), omod_s (a := c2) (b := 61) (by decide), omul_l (a := n) (by omega)]
  simp only [oeq_s, oite_s, oarg_s, bind_s]
  split
  · have hc := cutG_le ns (some 1) (some 63)
    obtain ⟨r, h, q⟩ := ties_in (cs := cutG ns (some 1) (some 63)) (most := 60) h0 h1 (by omega) (by omega)
    exact ⟨r, by rw [show ((60 : Nat) : Int) = 60 from rfl] at h; rw [h]; rfl, q⟩
  · have s0 := Int.emod_nonneg c2 (b := 61) (by decide)
    have s1 := Int.emod_lt_of_pos c2 (b := 61) (by decide)
    generalize c2 % 61 = m at *
    obtain ⟨m, rfl⟩ := Int.eq_ofNat_of_zero_le s0
    have hnn : n * n ≤ 200 * 200 := Int.mul_le_mul h1 h1 (by omega) (by omega)
    have hnp : 0 < n * n := Int.mul_pos (by omega) (by omega)
    obtain ⟨ds, ed, dl, dm⟩ := digits_in (c := c1) (b := n * n) (n := m) hnp (by omega) (by omega)
    rw [ed]
    simp only [bind_s]
    refine after_by (G := fun o => ∃ r : List PP, o = some r ∧ r.length ≤ 60 ∧ ∀ x ∈ r, TieOk n x) (fun pre (s : List PP) => s.length ≤ pre.length ∧ ∀ x ∈ s, TieOk n x) ⟨by simp, fun x hx => by cases hx⟩ ?_ ?_
    · rintro pre x post s hx ⟨hs, hi⟩
      have hxm : x ∈ ds := by rw [hx]; simp
      have hpl : pre.length < ds.length := by rw [hx]; simp
      obtain ⟨x0, x1⟩ := dm x hxm
      rw [ofdiv_s (a := x) (b := n) (by omega) (by omega), omod_s (a := x) (b := n) (by omega)]
      have a0 : 0 ≤ x / n := Int.ediv_nonneg x0 (by omega)
      have a1 : x / n < n := Int.ediv_lt_of_lt_mul (by omega) x1
      have b0 := Int.emod_nonneg x (b := n) (by omega)
      have b1 := Int.emod_lt_of_pos x (b := n) (by omega)
      generalize x / n = a at *
      generalize x % n = b at *
      simp only [bind_s, map_s, omin2_s, omax2_s, otup2_s, one_s, onind_s, oand_s, oite_s]
      split
      · rename_i hc
        simp only [Bool.and_eq_true, Bool.not_eq_true', decide_eq_true_eq, decide_eq_false_iff_not] at hc
        rw [app_s (by omega)]
        simp only [bind_s]
        refine ⟨_, rfl, by simp only [List.length_append, List.length_singleton]; omega, fun y hy => ?_⟩
        rcases List.mem_append.mp hy with hy | hy
        · exact hi y hy
        · rw [List.mem_singleton] at hy
          subst hy
          refine ⟨?_, ?_, ?_⟩
          · show 0 ≤ min a b; omega
          · show min a b < max a b
            have := hc.1
            omega
          · show max a b < n; omega
      · exact ⟨_, rfl, by simp only [List.length_append, List.length_singleton]; omega, hi⟩
    · rintro s ⟨hs, hi⟩
      exact ⟨_, rfl, by omega, hi⟩
def Nb (ts : List PP) (x y : Int) : Prop := (x, y) ∈ ts ∨ (y, x) ∈ ts
theorem at_set {α : Type} {xs : List α} {a : Int} (h0 : 0 ≤ a) (h1 : a < xs.length) : ∃ row, xs[a.toNat]? = some row ∧ atI xs a = some row ∧ ∀ r', oset xs a r' = some (xs.set a.toNat r') := by
  refine ⟨xs[a.toNat]'(by omega), List.getElem?_eq_getElem (by omega), atI_of h0 h1, fun r' => ?_⟩
  unfold oset ixN
  rw [if_pos h0, if_pos h1]
  rfl
theorem loc_at {α : Type} {xs : List α} {a : Int} {row : α} (h0 : 0 ≤ a) (h : xs[a.toNat]? = some row) : locIx (locR xs) a = some ⟨row, fun y => xs.set a.toNat y⟩ := by
  show (ixN xs.length a).bind _ = _
  unfold ixN
  have := (List.getElem?_eq_some_iff.mp h).1
  rw [if_pos h0, if_pos (by omega)]
  show (xs[a.toNat]?.map _) = _
  rw [h]
  rfl
theorem near_s {n : Int} {ts : List PP} (h0 : 1 ≤ n) (h1 : n ≤ 200) (hl : ts.length ≤ 60) (ht : ∀ t ∈ ts, TieOk n t) : ∃ near, u_neighbours (n, ts, ()) = some near ∧ near.length = n.toNat ∧
    ∀ (i : Nat) row, near[i]? = some row → (∀ y, y ∈ row ↔ Nb ts i y) ∧ row.length ≤ 2 * ts.length := by
  rw [ue_neighbours]
  unfold m_neighbours
  rw [orange1_s (by omega)]
  have e : olc (some (upto n.toNat 0 1)) (fun (x1 : Int) => (some true)) (fun (x1 : Int) => (some ([] : List Int))) = some ((upto n.toNat 0 1).map fun _ => []) :=
    olc_all (by rw [upto_len]; omega) fun x _ => ⟨rfl, rfl⟩
  rw [e]
  simp only [bind_s]
  refine after_by (G := fun o => ∃ near : List (List Int), o = some near ∧ near.length = n.toNat ∧ ∀ (i : Nat) row, near[i]? = some row → (∀ y, y ∈ row ↔ Nb ts i y) ∧ row.length ≤ 2 * ts.length)
    (fun pre (s : List (List Int)) => s.length = n.toNat ∧ ∀ (i : Nat) row, s[i]? = some row → (∀ y, y ∈ row ↔ Nb pre i y) ∧ row.length ≤ 2 * pre.length) ⟨by rw [List.length_map, upto_len], fun i row hr => ?_⟩ ?_ ?_
  · rw [List.getElem?_map] at hr
    cases hz : (upto n.toNat 0 1)[i]? with
    | none => rw [hz] at hr; cases hr
    | some z =>
      rw [hz] at hr
      cases hr
      exact ⟨fun y => by unfold Nb; simp, by simp⟩
  · rintro pre ⟨a, b⟩ post s hx ⟨hs, hi⟩
    have hpl : pre.length < ts.length := by rw [hx]; simp
    obtain ⟨t1, t2, t3⟩ := ht (a, b) (by rw [hx]; simp)
    simp only at t1 t2 t3
    simp only [bind_s]
    obtain ⟨ra, ga, aa, sa⟩ := at_set (xs := s) (a := a) (by omega) (by omega)
    obtain ⟨m1, l1⟩ := hi _ _ ga
    rw [loc_at (by omega) ga]
    simp only [bind_s]
    rw [oapp_s (by omega)]
    simp only [map_s, bind_s]
    obtain ⟨rb, gb, ab, sb⟩ := at_set (xs := s.set a.toNat (ra ++ [b])) (a := b) (by omega) (by rw [List.length_set]; omega)
    have gb2 : s[b.toNat]? = some rb := by rw [List.getElem?_set_ne (by omega)] at gb; exact gb
    obtain ⟨m2, l2⟩ := hi _ _ gb2
    rw [loc_at (by omega) gb]
    simp only [bind_s]
    rw [oapp_s (by omega)]
    simp only [map_s, bind_s]
    refine ⟨_, rfl, by rw [List.length_set, List.length_set]; exact hs, fun i row hr => ?_⟩
    have nb : ∀ x y : Int, Nb (pre ++ [(a, b)]) x y ↔ Nb pre x y ∨ (x = a ∧ y = b) ∨ (x = b ∧ y = a) := fun x y => by
      unfold Nb
      simp only [List.mem_append, List.mem_singleton, Prod.mk.injEq]
      constructor
      · rintro ((z | z) | z | z)
        · exact .inl (.inl z)
        · exact .inr (.inl z)
        · exact .inl (.inr z)
        · exact .inr (.inr ⟨z.2, z.1⟩)
      · rintro ((z | z) | z | z)
        · exact .inl (.inl z)
        · exact .inr (.inl z)
        · exact .inl (.inr z)
        · exact .inr (.inr ⟨z.2, z.1⟩)
    have hsl : s.length = n.toNat := hs
    by_cases hib : i = b.toNat
    · subst hib
      rw [List.getElem?_set_self (by rw [List.length_set]; omega)] at hr
      cases hr
      refine ⟨fun y => ?_, by simp only [List.length_append, List.length_singleton]; omega⟩
      rw [nb, List.mem_append, List.mem_singleton, m2]
      constructor
      · rintro (z | z)
        · exact .inl z
        · exact .inr (.inr ⟨by omega, z⟩)
      · rintro (z | z | z)
        · exact .inl z
        · omega
        · exact .inr z.2
    · rw [List.getElem?_set_ne (fun e => hib e.symm)] at hr
      by_cases hia : i = a.toNat
      · subst hia
        rw [List.getElem?_set_self (by omega)] at hr
        cases hr
        refine ⟨fun y => ?_, by simp only [List.length_append, List.length_singleton]; omega⟩
        rw [nb, List.mem_append, List.mem_singleton, m1]
        constructor
        · rintro (z | z)
          · exact .inl z
          · exact .inr (.inl ⟨by omega, z⟩)
        · rintro (z | z | z)
          · exact .inl z
          · exact .inr z.2
          · omega
      · rw [List.getElem?_set_ne (fun e => hia e.symm)] at hr
        obtain ⟨m3, l3⟩ := hi _ _ hr
        refine ⟨fun y => ?_, by simp only [List.length_append, List.length_singleton]; omega⟩
        rw [nb, m3]
        constructor
        · exact .inl
        · rintro (z | z | z)
          · exact z
          · omega
          · omega
  · rintro s ⟨hs, hi⟩
    exact ⟨_, rfl, hs, hi⟩
structure BF (R : Int → Int → Prop) (a n : Int) (far : List (Int × Int)) (k : Nat) : Prop where
  nd : (far.map (·.1)).Nodup
  rg : ∀ x ∈ far, 0 ≤ x.1 ∧ x.1 < n
  hd : far[0]? = some (a, 0)
  mono : ∀ (i j : Nat) xi xj, i ≤ j → far[i]? = some xi → far[j]? = some xj → xi.2 ≤ xj.2
  top : ∀ xk, far[k]? = some xk → ∀ x ∈ far, x.2 ≤ xk.2 + 1
  dn : ∀ i < k, ∀ xi, far[i]? = some xi → ∀ y, R xi.1 y → ∃ d, (y, d) ∈ far ∧ d ≤ xi.2 + 1
  pr : ∀ x ∈ far, x.1 ≠ a → 1 ≤ x.2 ∧ ∃ y, (y, x.2 - 1) ∈ far ∧ R x.1 y
theorem dgetI_mem {β : Type} : ∀ {far : List (Int × β)} {x : Int} {d : β}, (far.map (·.1)).Nodup → (x, d) ∈ far → dget far x = some d
  | [], _, _, _, h => by cases h
  | (y, e) :: far, x, d, nd, h => by
    rw [List.map_cons, List.nodup_cons] at nd
    unfold dget
    by_cases hy : y = x
    · subst hy
      rw [List.find?_cons_of_pos (by simp)]
      rcases List.mem_cons.mp h with h | h
      · cases h; rfl
      · exact absurd (List.mem_map.mpr ⟨_, h, rfl⟩) nd.1
    · rw [List.find?_cons_of_neg (by simpa using hy)]
      rcases List.mem_cons.mp h with h | h
      · cases h; exact absurd rfl hy
      · exact dgetI_mem nd.2 h
theorem dgetI_iff {β : Type} {kvs : List (Int × β)} {k : Int} : (dget kvs k).isSome = true ↔ k ∈ kvs.map (·.1) := by
  unfold dget
  rw [Option.isSome_map, List.find?_isSome, List.mem_map]
  constructor
  · rintro ⟨x, hx, e⟩; exact ⟨x, hx, by simpa using e⟩
  · rintro ⟨x, hx, e⟩; exact ⟨x, hx, by simpa using e⟩
theorem dputI_new {β : Type} {kvs : List (Int × β)} {k : Int} {v : β} (h : k ∉ kvs.map (·.1)) : dput kvs k v = kvs ++ [(k, v)] := by
  unfold dput
  rw [if_neg]
  intro hc
  obtain ⟨x, hx, e⟩ := List.any_eq_true.mp hc
  exact h (List.mem_map.mpr ⟨x, hx, by simpa using e⟩)
theorem BF.len {R : Int → Int → Prop} {a n : Int} {far : List (Int × Int)} {k : Nat} (b : BF R a n far k) : far.length ≤ n.toNat := by
  have : (far.map (·.1)).length ≤ (upto n.toNat 0 1).length := b.nd.length_le_of_subset fun x hx => by
    obtain ⟨y, hy, rfl⟩ := List.mem_map.mp hx
    obtain ⟨h1, h2⟩ := b.rg y hy
    unfold upto
    exact List.mem_map.mpr ⟨y.1.toNat, List.mem_range.mpr (by omega), by omega⟩
  rw [List.length_map, upto_len] at this
  exact this
/-- one place more -/
theorem BF.add {R : Int → Int → Prop} (sy : ∀ x y, R x y → R y x) {a n : Int} {far : List (Int × Int)} {k : Nat} (b : BF R a n far k) {h dh y : Int} (hk : far[k]? = some (h, dh)) (hy : y ∉ far.map (·.1)) (ry : R h y) (r0 : 0 ≤ y ∧ y < n) : BF R a n (far ++ [(y, dh + 1)]) k := by
  have hkl := (List.getElem?_eq_some_iff.mp hk).1
  have hh : (h, dh) ∈ far := List.mem_of_getElem? hk
  have ha : (a, (0 : Int)) ∈ far := List.mem_of_getElem? b.hd
  have d0 : 0 ≤ dh := b.mono 0 k _ _ (Nat.zero_le _) b.hd hk
  refine ⟨?_, fun x hx => ?_, ?_, fun i j xi xj hij hi hj => ?_, fun xk hxk x hx => ?_, fun i hi xi hxi z hz => ?_, fun x hx hne => ?_⟩
  · rw [List.map_append]
    exact List.nodup_append.mpr ⟨b.nd, by simp, fun x hx z hz e => hy (by simp at hz; rw [← hz, ← e]; exact hx)⟩
  · rcases List.mem_append.mp hx with hx | hx
    · exact b.rg x hx
    · rw [List.mem_singleton] at hx; subst hx; exact r0
  · rw [List.getElem?_append_left (by omega)]; exact b.hd
  · have hjl := (List.getElem?_eq_some_iff.mp hj).1
    rw [List.length_append, List.length_singleton] at hjl
    by_cases hj2 : j < far.length
    · rw [List.getElem?_append_left hj2] at hj
      rw [List.getElem?_append_left (by omega)] at hi
      exact b.mono i j xi xj hij hi hj
    · have : j = far.length := by omega
      subst this
      rw [List.getElem?_append_right (Nat.le_refl _), Nat.sub_self] at hj
      cases hj
      by_cases hi2 : i < far.length
      · rw [List.getElem?_append_left hi2] at hi
        exact b.top _ hk xi (List.mem_of_getElem? hi)
      · have : i = far.length := by omega
        subst this
        rw [List.getElem?_append_right (Nat.le_refl _), Nat.sub_self] at hi
        cases hi
        exact Int.le_refl _
  · rw [List.getElem?_append_left hkl, hk] at hxk
    cases hxk
    rcases List.mem_append.mp hx with hx | hx
    · exact b.top _ hk x hx
    · rw [List.mem_singleton] at hx; subst hx; exact Int.le_refl _
  · rw [List.getElem?_append_left (by omega)] at hxi
    obtain ⟨d, h1, h2⟩ := b.dn i hi xi hxi z hz
    exact ⟨d, List.mem_append.mpr (.inl h1), h2⟩
  · rcases List.mem_append.mp hx with hx | hx
    · obtain ⟨h1, z, h2, h3⟩ := b.pr x hx hne
      exact ⟨h1, z, List.mem_append.mpr (.inl h2), h3⟩
    · rw [List.mem_singleton] at hx
      subst hx
      refine ⟨by show 1 ≤ dh + 1; omega, h, List.mem_append.mpr (.inl ?_), sy _ _ ry⟩
      show (h, dh + 1 - 1) ∈ far
      rw [show dh + 1 - 1 = dh by omega]
      exact hh
theorem reached_s {R : Int → Int → Prop} (sy : ∀ x y, R x y → R y x) {n a : Int} {near : List (List Int)} (h0 : 1 ≤ n) (h1 : n ≤ 200) (hn : near.length = n.toNat) (hr : ∀ (i : Nat) row, near[i]? = some row → ∀ y, y ∈ row ↔ R i y) (rr : ∀ x y, R x y → 0 ≤ y ∧ y < n) (a0 : 0 ≤ a) (a1 : a < n) :
    ∃ far, u_reached (near, a, ()) = some far ∧ BF R a n far far.length := by
  rw [ue_reached]
  unfold m_reached
  show ∃ far, Option.bind (some [(a, (0 : Int))]) _ = some far ∧ _
  simp only [bind_s, ocons_s]
  refine while_fuel (G := fun o => ∃ far : List (Int × Int), o = some far ∧ BF R a n far far.length) (fun s => ∃ k : Nat, s.2.2 = (k : Int) ∧ k ≤ s.1.length ∧ s.2.1 = s.1.map (·.1) ∧ BF R a n s.1 k) (fun s => n.toNat - s.2.2.toNat)
    ⟨0, rfl, by simp, rfl, ⟨by simp, fun x hx => by rw [List.mem_singleton] at hx; subst hx; exact ⟨a0, a1⟩, rfl, fun i j xi xj _ hi hj => ?_, fun xk hxk x hx => ?_, fun i hi => absurd hi (Nat.not_lt_zero _), fun x hx hne => by rw [List.mem_singleton] at hx; subst hx; exact absurd rfl hne⟩⟩ (by simp only; omega) ?_
  · have hi := List.mem_of_getElem? hi
    have hj := List.mem_of_getElem? hj
    rw [List.mem_singleton] at hi hj
    rw [hi, hj]
    exact Int.le_refl _
  · have hk := List.mem_of_getElem? hxk
    rw [List.mem_singleton] at hk hx
    rw [hk, hx]
    show (0 : Int) ≤ 0 + 1
    decide
  · rintro ⟨far, w, kk⟩ ⟨k, hk, hkl, hw, b⟩
    simp only at hk hkl hw b
    subst hk
    subst hw
    have hlen := b.len
    simp only [olen_s, olt_s, List.length_map]
    by_cases hc : k < far.length
    · refine .inr ⟨by rw [decide_eq_true (by omega)], .inl ?_⟩
      obtain ⟨⟨h, dh⟩, hkx⟩ : ∃ x, far[k]? = some x := ⟨_, List.getElem?_eq_getElem hc⟩
      have hm := List.mem_of_getElem? hkx
      obtain ⟨g0, g1⟩ := b.rg _ hm
      simp only at g0 g1
      have e1 : oix (some (far.map (·.1))) (some (k : Int)) = some h := by
        rw [oix_s, atI_nat (by rw [List.getElem?_map, hkx]; rfl)]
      rw [e1]
      simp only [bind_s]
      have e2 : oix (some near) (some h) = some (near[h.toNat]'(by omega)) := by rw [oix_s, atI_of g0 (by omega)]
      rw [e2]
      have hrow := hr h.toNat _ (List.getElem?_eq_getElem (by omega))
      rw [show ((h.toNat : Nat) : Int) = h by omega] at hrow
      generalize near[h.toNat]'(by omega) = row at *
      simp only [bind_s]
      refine after_by (G := fun o => ∃ s' : List (Int × Int) × (List Int × Int), o = some (Flow.nx s') ∧ (∃ k : Nat, s'.2.2 = (k : Int) ∧ k ≤ s'.1.length ∧ s'.2.1 = s'.1.map (·.1) ∧ BF R a n s'.1 k) ∧ n.toNat - s'.2.2.toNat < n.toNat - ((k : Int)).toNat)
        (fun pre (s : List (Int × Int) × List Int) => s.2 = s.1.map (·.1) ∧ BF R a n s.1 k ∧ s.1[k]? = some (h, dh) ∧ ∀ y ∈ pre, ∃ d, (y, d) ∈ s.1 ∧ d ≤ dh + 1) ⟨rfl, b, hkx, fun y hy => by cases hy⟩ ?_ ?_
      · rintro pre y post ⟨fa, wa⟩ hx ⟨i1, i2, i3, i4⟩
        simp only at i1 i2 i3 i4
        subst i1
        have hfl := i2.len
        have ry := (hrow y).mp (by rw [hx]; simp)
        show ∃ s', oite (some (!(dget fa y).isSome)) _ _ = some (Flow.nx s') ∧ _
        simp only [oite_s]
        by_cases hy : (dget fa y).isSome = true
        · rw [hy, Bool.not_true, if_neg (by decide)]
          refine ⟨_, rfl, rfl, i2, i3, fun z hz => ?_⟩
          rcases List.mem_append.mp hz with hz | hz
          · exact i4 z hz
          · rw [List.mem_singleton] at hz
            subst hz
            obtain ⟨⟨z', d⟩, hx1, hx2⟩ := List.mem_map.mp (dgetI_iff.mp hy)
            simp only at hx2
            subst hx2
            exact ⟨d, hx1, i2.top _ i3 _ hx1⟩
        · have hny : y ∉ fa.map (·.1) := fun z => hy (dgetI_iff.mpr z)
          rw [Bool.not_eq_true] at hy
          rw [hy, Bool.not_false, if_pos rfl, show odgetB (some fa) (some h) = some dh from dgetI_mem i2.nd (List.mem_of_getElem? i3)]
          simp only [oadd_s, bind_s]
          rw [put_s (by omega), dputI_new hny]
          simp only [map_s, bind_s]
          rw [app_s (by rw [List.length_map]; omega)]
          simp only [map_s, bind_s]
          have hkl2 := (List.getElem?_eq_some_iff.mp i3).1
          refine ⟨_, rfl, by simp, i2.add sy i3 hny ry (rr _ _ ry), by simp only; rw [List.getElem?_append_left hkl2]; exact i3, fun z hz => ?_⟩
          rcases List.mem_append.mp hz with hz | hz
          · obtain ⟨d, q1, q2⟩ := i4 z hz
            exact ⟨d, List.mem_append.mpr (.inl q1), q2⟩
          · rw [List.mem_singleton] at hz
            subst hz
            exact ⟨dh + 1, List.mem_append.mpr (.inr (by simp)), Int.le_refl _⟩
      · rintro ⟨fa, wa⟩ ⟨i1, i2, i3, i4⟩
        simp only at i1 i2 i3 i4
        subst i1
        have hkl2 := (List.getElem?_eq_some_iff.mp i3).1
        simp only [map_s, bind_s]
        refine ⟨_, rfl, ⟨k + 1, rfl, by simp only; omega, rfl, ⟨i2.nd, i2.rg, i2.hd, i2.mono, fun xk hxk x hx => ?_, fun i hi xi hxi y hy => ?_, i2.pr⟩⟩, ?_⟩
        · have q1 := i2.top _ i3 x hx
          have q2 := i2.mono k (k + 1) _ _ (Nat.le_succ _) i3 hxk
          simp only at q1 q2
          omega
        · by_cases hik : i = k
          · subst hik
            rw [i3] at hxi
            cases hxi
            exact i4 y ((hrow y).mpr hy)
          · exact i2.dn i (by omega) xi hxi y hy
        · have := i2.len
          simp only
          omega
    · refine .inl ⟨by rw [decide_eq_false (by omega)], far, rfl, ?_⟩
      have : k = far.length := by omega
      rw [← this]
      exact b
/-! ### groups -/
theorem upto_pw (n : Nat) : (upto n 0 1).Pairwise (· < ·) := by
  unfold upto
  rw [List.pairwise_map]
  exact (List.pairwise_lt_range (n := n)).imp fun h => by omega
theorem mem_u {n : Nat} {x : Int} : x ∈ upto n 0 1 ↔ 0 ≤ x ∧ x < n := by
  constructor
  · intro h
    have := mem_upto1 h
    omega
  · intro h
    unfold upto
    exact List.mem_map.mpr ⟨x.toNat, List.mem_range.mpr (by omega), by omega⟩
theorem pre_u {n : Nat} {pre post : List Int} {x : Int} (h : upto n 0 1 = pre ++ x :: post) : x = (pre.length : Int) ∧ pre.length < n ∧ ∀ y, y ∈ pre ↔ 0 ≤ y ∧ y < x := by
  obtain ⟨h1, h2⟩ := upto_split h
  have h1 : x = (pre.length : Int) := by omega
  refine ⟨h1, h2, fun y => ?_⟩
  have pw := upto_pw n
  rw [h, List.pairwise_append] at pw
  constructor
  · intro hy
    have := (mem_u (n := n) (x := y)).mp (by rw [h]; simp [hy])
    exact ⟨this.1, pw.2.2 y hy x (by simp)⟩
  · rintro ⟨h3, h4⟩
    have : y ∈ upto n 0 1 := mem_u.mpr ⟨h3, by omega⟩
    rw [h] at this
    rcases List.mem_append.mp this with z | z
    · exact z
    · rcases List.mem_cons.mp z with z | z
      · omega
      · have := (List.pairwise_cons.mp pw.2.1).1 y z
        omega
section
open Classical
noncomputable def cls (n : Nat) (C : Int → Int → Prop) (a : Int) : List Int := (upto n 0 1).filter fun x => decide (C a x)
noncomputable def isF (C : Int → Int → Prop) (a : Int) : Bool := decide (∀ b, 0 ≤ b → b < a → ¬ C b a)
noncomputable def rowsOf (n : Nat) (C : Int → Int → Prop) (pre : List Int) : List (List Int) := (pre.filter (isF C)).map (cls n C)
theorem isF_iff {C : Int → Int → Prop} {a : Int} : isF C a = true ↔ ∀ b, 0 ≤ b → b < a → ¬ C b a := by
  unfold isF
  exact decide_eq_true_iff
theorem pw_cls (n : Nat) (C : Int → Int → Prop) (a : Int) : (cls n C a).Pairwise (· < ·) := (upto_pw n).filter _
theorem mem_cls {n : Nat} {C : Int → Int → Prop} {a x : Int} : x ∈ cls n C a ↔ (0 ≤ x ∧ x < n) ∧ C a x := by
  unfold cls
  rw [List.mem_filter, mem_u, decide_eq_true_iff]
theorem rows_snoc {n : Nat} {C : Int → Int → Prop} {pre : List Int} {a : Int} : rowsOf n C (pre ++ [a]) = if isF C a = true then rowsOf n C pre ++ [cls n C a] else rowsOf n C pre := by
  unfold rowsOf
  rw [List.filter_append, List.map_append]
  by_cases h : isF C a = true
  · rw [if_pos h, List.filter_cons_of_pos h]; rfl
  · rw [if_neg h, List.filter_cons_of_neg h]; simp
end
theorem Rch.mono {R Q : Int → Int → Prop} (f : ∀ x y, R x y → Q x y) {x y : Int} (h : Rch R x y) : Rch Q x y := by
  induction h with
  | refl => exact .refl
  | tail _ k ih => exact .tail ih (f _ _ k)
theorem nb_symm {ts : List PP} {x y : Int} (h : Nb ts x y) : Nb ts y x := h.symm
theorem nb_in {n : Int} {ts : List PP} (ht : ∀ t ∈ ts, TieOk n t) {x y : Int} (h : Nb ts x y) : (0 ≤ x ∧ x < n) ∧ 0 ≤ y ∧ y < n := by
  rcases h with h | h
  · obtain ⟨h1, h2, h3⟩ := ht _ h
    simp only at h1 h2 h3
    omega
  · obtain ⟨h1, h2, h3⟩ := ht _ h
    simp only at h1 h2 h3
    omega
/-- what the looking for places from one on has found -/
theorem bf_mem {n a : Int} {ts : List PP} {far : List (Int × Int)} (b : BF (Nb ts) a n far far.length) (x : Int) : x ∈ far.map (·.1) ↔ Rch (Nb ts) a x := by
  constructor
  · intro h
    have : ∀ (m : Nat) (y d : Int), d.toNat = m → (y, d) ∈ far → Rch (Nb ts) a y := by
      intro m
      induction m with
      | zero =>
        intro y d hd hm
        by_cases e : y = a
        · rw [e]; exact .refl
        · have := (b.pr _ hm e).1
          simp only at this
          omega
      | succ m ih =>
        intro y d hd hm
        by_cases e : y = a
        · rw [e]; exact .refl
        · obtain ⟨h1, z, h2, h3⟩ := b.pr _ hm e
          simp only at h1 h2 h3
          exact .tail (ih z (d - 1) (by omega) h2) (nb_symm h3)
    obtain ⟨⟨y, d⟩, hy, rfl⟩ := List.mem_map.mp h
    exact this d.toNat y d rfl hy
  · intro h
    induction h with
    | refl => exact List.mem_map.mpr ⟨_, List.mem_of_getElem? b.hd, rfl⟩
    | @tail y z _ k ih =>
      obtain ⟨p, hp, rfl⟩ := List.mem_map.mp ih
      obtain ⟨i, hi⟩ := List.mem_iff_getElem?.mp hp
      obtain ⟨d, h1, _⟩ := b.dn i (List.getElem?_eq_some_iff.mp hi).1 p hi z k
      exact List.mem_map.mpr ⟨_, h1, rfl⟩
theorem bf_few {n a : Int} {ts : List PP} (ht : ∀ t ∈ ts, TieOk n t) {far : List (Int × Int)} (b : BF (Nb ts) a n far far.length) : far.length ≤ ts.length + 1 := by
  have cut : ∃ rest, far = (a, 0) :: rest := by
    cases far with
    | nil => have := b.hd; cases this
    | cons p rest =>
      have := b.hd
      rw [List.getElem?_cons_zero] at this
      exact ⟨rest, by rw [Option.some.inj this]⟩
  obtain ⟨rest, e⟩ := cut
  have nd := b.nd
  rw [e, List.map_cons, List.nodup_cons] at nd
  have par : ∀ p : {p // p ∈ rest}, ∃ y, (y, p.1.2 - 1) ∈ far ∧ Nb ts p.1.1 y := fun ⟨p, hp⟩ => by
    obtain ⟨_, y, h1, h2⟩ := b.pr p (by rw [e]; simp [hp]) fun z => nd.1 (List.mem_map.mpr ⟨p, hp, z⟩)
    exact ⟨y, h1, h2⟩
  let f : {p // p ∈ rest} → PP := fun p => tie p.1.1 (par p).choose
  have uniq : ∀ {x d d' : Int}, (x, d) ∈ far → (x, d') ∈ far → d = d' := fun h1 h2 => by
    have := dgetI_mem b.nd h1
    rw [dgetI_mem b.nd h2] at this
    exact (Option.some.inj this).symm
  have hin : ∀ p, f p ∈ ts := fun p => by
    have := (par p).choose_spec.2
    show tie p.1.1 (par p).choose ∈ ts
    rcases this with h | h
    · obtain ⟨_, h2, _⟩ := ht _ h
      simp only at h2
      have e : tie p.1.1 (par p).choose = (p.1.1, (par p).choose) := by unfold tie; apply Prod.ext <;> simp only <;> omega
      rw [e]; exact h
    · obtain ⟨_, h2, _⟩ := ht _ h
      simp only at h2
      have e : tie p.1.1 (par p).choose = ((par p).choose, p.1.1) := by unfold tie; apply Prod.ext <;> simp only <;> omega
      rw [e]; exact h
  have inj : ∀ p q, f p = f q → p.1.1 = q.1.1 := fun p q h => by
    apply Classical.byContradiction
    intro ne
    have hp := (par p).choose_spec.1
    have hq := (par q).choose_spec.1
    have h1 : min p.1.1 (par p).choose = min q.1.1 (par q).choose := congrArg Prod.fst h
    have h2 : max p.1.1 (par p).choose = max q.1.1 (par q).choose := congrArg Prod.snd h
    have e1 : p.1.1 = (par q).choose := by omega
    have e2 : q.1.1 = (par p).choose := by omega
    rw [← e2] at hp
    rw [← e1] at hq
    have mp : p.1 ∈ far := by rw [e]; simp [p.2]
    have mq : q.1 ∈ far := by rw [e]; simp [q.2]
    have u1 := uniq (x := q.1.1) (d := q.1.2) mq hp
    have u2 := uniq (x := p.1.1) (d := p.1.2) mp hq
    omega
  have nd2 : (rest.attach.map f).Nodup := by
    have h3 : rest.attach.Pairwise fun p q => p.1.1 ≠ q.1.1 := by
      have e2 : rest.attach.map (fun q => q.1.1) = rest.map (·.1) := by
        have := congrArg (List.map (·.1)) (List.attach_map_subtype_val rest)
        rw [List.map_map] at this
        exact this
      have h4 : (rest.attach.map fun q => q.1.1).Pairwise (· ≠ ·) := by rw [e2]; exact nd.2
      exact List.pairwise_map.mp h4
    exact List.pairwise_map.mpr (h3.imp fun h z => h (inj _ _ z))
  have := nd2.length_le_of_subset fun t h => by
    obtain ⟨p, _, rfl⟩ := List.mem_map.mp h
    exact hin p
  rw [List.length_map, List.length_attach] at this
  rw [e, List.length_cons]
  omega
theorem groups_s {n : Nat} {ts : List PP} (h0 : 1 ≤ n) (h1 : n ≤ 200) (hl : ts.length ≤ 60) (ht : ∀ t ∈ ts, TieOk n t) : u_groups ((n : Int), ts, ()) = some (rowsOf n (Rch (Nb ts)) (upto n 0 1)) := by
  obtain ⟨near, e1, nl, nr⟩ := near_s (n := n) (by omega) (by omega) hl ht
  rw [ue_groups]
  unfold m_groups
  simp only [oarg_s, bind_s, e1]
  rw [orange1_s (by omega), Int.toNat_natCast]
  simp only [bind_s]
  have sy : ∀ x y, Rch (Nb ts) x y → Rch (Nb ts) y x := fun x y h => h.symm fun _ _ => nb_symm
  refine after_by (G := fun o => o = some (rowsOf n (Rch (Nb ts)) (upto n 0 1))) (fun pre (s : List (Int × Bool) × List (List Int)) => s.2 = rowsOf n (Rch (Nb ts)) pre ∧ (s.1.map (·.1)).Nodup ∧ ∀ x, x ∈ s.1.map (·.1) ↔ ∃ b ∈ pre, Rch (Nb ts) b x) ⟨rfl, List.nodup_nil, fun x => by simp⟩ ?_ ?_
  · rintro pre a post ⟨seen, rows⟩ hx ⟨i1, i2, i3⟩
    simp only at i1 i2 i3
    obtain ⟨pa, pl, pm⟩ := pre_u hx
    have a0 : 0 ≤ a := by omega
    have a1 : a < n := by omega
    obtain ⟨far, ef, b⟩ := reached_s (R := Nb ts) (fun x y => nb_symm) (n := n) (a := a) (near := near) (by omega) (by omega) nl (fun i row hr => (nr i row hr).1) (fun x y h => (nb_in ht h).2) a0 a1
    have few := bf_few ht b
    have rin : ∀ {x y : Int}, 0 ≤ x ∧ x < n → Rch (Nb ts) x y → 0 ≤ y ∧ y < n := fun hx h => by
      induction h with
      | refl => exact hx
      | tail _ k _ => exact (nb_in ht k).2
    have sl : seen.length ≤ n := by
      have := nodup_range (n := (n : Int)) i2 fun x hx => by
        obtain ⟨c, hc, hr⟩ := (i3 x).mp hx
        have := (pm c).mp hc
        exact rin (by omega) hr
      rw [List.length_map] at this
      omega
    have hF : (dget seen a).isSome = true ↔ ¬ isF (Rch (Nb ts)) a = true := by
      rw [dgetI_iff, i3, isF_iff]
      constructor
      · rintro ⟨c, hc, hr⟩ h
        obtain ⟨h2, h3⟩ := (pm c).mp hc
        exact h c h2 h3 hr
      · intro h
        apply Classical.byContradiction
        intro h2
        exact h fun c c0 c1 hr => h2 ⟨c, (pm c).mpr ⟨c0, c1⟩, hr⟩
    show ∃ s', oite (some (!(dget seen a).isSome)) _ _ = some (Flow.nx s') ∧ _
    rw [oite_s]
    by_cases hs : (dget seen a).isSome = true
    · rw [hs, Bool.not_true, if_neg (by decide)]
      refine ⟨_, rfl, ?_, i2, fun x => ?_⟩
      · rw [rows_snoc, if_neg (hF.mp hs)]; exact i1
      · rw [i3]
        constructor
        · rintro ⟨c, hc, hr⟩
          exact ⟨c, by simp [hc], hr⟩
        · rintro ⟨c, hc, hr⟩
          rcases List.mem_append.mp hc with hc | hc
          · exact ⟨c, hc, hr⟩
          · rw [List.mem_singleton] at hc
            subst hc
            obtain ⟨c', h2, h3⟩ := (i3 c).mp (dgetI_iff.mp hs)
            exact ⟨c', h2, h3.trans hr⟩
    · have hf : isF (Rch (Nb ts)) a = true := Classical.byContradiction fun z => hs (hF.mpr z)
      rw [Bool.not_eq_true] at hs
      rw [hs, Bool.not_false, if_pos rfl]
      have em_ : sortI (far.map (·.1)) = cls n (Rch (Nb ts)) a := by
        refine uniqU (((sorted_sortI _).and ((perm_sortI _).nodup_iff.mpr b.nd)).imp fun h => by have := h.1; have := h.2; omega) (pw_cls _ _ _) fun z => ?_
        rw [(perm_sortI _).mem_iff, bf_mem b, mem_cls]
        exact ⟨fun h => ⟨rin ⟨a0, a1⟩ h, h⟩, fun h => h.2⟩
      have e3 : okeysI (u_reached (near, a, ())) = some (cls n (Rch (Nb ts)) a) := by
        rw [ef]
        show (if far.length < 64 then some (sortI (far.map (·.1))) else none) = _
        rw [if_pos (by omega), em_]
      rw [e3]
      simp only [bind_s]
      have cl : (cls n (Rch (Nb ts)) a).length ≤ n := by
        have := List.length_filter_le (fun x => @decide (Rch (Nb ts) a x) (Classical.propDecidable _)) (upto n 0 1)
        rw [upto_len] at this
        exact this
      refine after_by (G := fun o => ∃ s' : List (Int × Bool) × List (List Int), o = some (Flow.nx s') ∧ (s'.2 = rowsOf n (Rch (Nb ts)) (pre ++ [a]) ∧ (s'.1.map (·.1)).Nodup ∧ ∀ x, x ∈ s'.1.map (·.1) ↔ ∃ b ∈ pre ++ [a], Rch (Nb ts) b x))
        (fun p2 (sn : List (Int × Bool)) => (sn.map (·.1)).Nodup ∧ sn.length ≤ seen.length + p2.length ∧ ∀ x, x ∈ sn.map (·.1) ↔ x ∈ seen.map (·.1) ∨ x ∈ p2) ⟨i2, by simp, fun x => by simp⟩ ?_ ?_
      · rintro p2 x q2 sn h2 ⟨j1, j2, j3⟩
        have pl2 : p2.length < (cls n (Rch (Nb ts)) a).length := by rw [h2]; simp
        rw [put_s (by omega)]
        refine ⟨_, rfl, ?_, ?_, fun y => ?_⟩
        · rw [dput_keys]
          split
          · exact j1
          · rename_i hn
            exact List.nodup_append.mpr ⟨j1, by simp, fun u hu v hv e => hn (by rw [List.mem_singleton] at hv; rw [← hv, ← e]; exact hu)⟩
        · have := dput_len sn x true
          rw [List.length_append]
          simp only [List.length_singleton]
          omega
        · rw [dput_keys]
          split
          · rename_i hm
            rw [j3, List.mem_append, List.mem_singleton]
            constructor
            · rintro (h | h)
              · exact .inl h
              · exact .inr (.inl h)
            · rintro (h | h | h)
              · exact .inl h
              · exact .inr h
              · rw [h]; exact (j3 x).mp hm
          · rw [List.mem_append, List.mem_singleton, List.mem_append, List.mem_singleton, j3]
            constructor
            · rintro ((h | h) | h)
              · exact .inl h
              · exact .inr (.inl h)
              · exact .inr (.inr h)
            · rintro (h | h | h)
              · exact .inl (.inl h)
              · exact .inl (.inr h)
              · exact .inr h
      · rintro sn ⟨j1, j2, j3⟩
        have rl : rows.length ≤ n := by
          rw [i1]
          unfold rowsOf
          rw [List.length_map]
          have := List.length_filter_le (isF (Rch (Nb ts))) pre
          omega
        rw [oapp_s (by omega)]
        refine ⟨_, rfl, ?_, j1, fun x => ?_⟩
        · rw [rows_snoc, if_pos hf, ← i1]
        · rw [j3, i3, mem_cls]
          constructor
          · rintro (⟨c, hc, hr⟩ | ⟨_, hr⟩)
            · exact ⟨c, by simp [hc], hr⟩
            · exact ⟨a, by simp, hr⟩
          · rintro ⟨c, hc, hr⟩
            rcases List.mem_append.mp hc with hc | hc
            · exact .inl ⟨c, hc, hr⟩
            · rw [List.mem_singleton] at hc
              subst hc
              exact .inr ⟨rin ⟨a0, a1⟩ hr, hr⟩
  · rintro ⟨seen, rows⟩ ⟨i1, _, _⟩
    exact congrArg some i1
theorem oned_same {α : Type} [Em α] [DecidableEq α] [Eqv α] (x : α) : oned (some x) (some x) = some false := by rw [oned_s, eqv_em]; simp
theorem oeqd_same {α : Type} [Em α] [DecidableEq α] [Eqv α] (x : α) : oeqd (some x) (some x) = some true := by rw [oeqd_s, eqv_em]; simp
theorem rch_none {x y : Int} (h : Rch (Nb []) x y) : x = y := by
  induction h with
  | refl => rfl
  | tail _ k _ => rcases k with k | k <;> cases k
theorem rch_snoc {pre : List PP} {a b x y : Int} : Rch (Nb (pre ++ [(a, b)])) x y ↔ Rch (Nb pre) x y ∨ ((Rch (Nb pre) x a ∨ Rch (Nb pre) x b) ∧ (Rch (Nb pre) y a ∨ Rch (Nb pre) y b)) := by
  have sy : ∀ {x y}, Rch (Nb pre) x y → Rch (Nb pre) y x := fun h => h.symm fun _ _ => nb_symm
  have nb : ∀ {x y : Int}, Nb (pre ++ [(a, b)]) x y → Nb pre x y ∨ (x = a ∧ y = b) ∨ (x = b ∧ y = a) := fun {x y} h => by
    rcases h with h | h
    · rcases List.mem_append.mp h with h | h
      · exact .inl (.inl h)
      · rw [List.mem_singleton] at h
        exact .inr (.inl ⟨congrArg Prod.fst h, congrArg Prod.snd h⟩)
    · rcases List.mem_append.mp h with h | h
      · exact .inl (.inr h)
      · rw [List.mem_singleton] at h
        exact .inr (.inr ⟨congrArg Prod.snd h, congrArg Prod.fst h⟩)
  have up : ∀ {x y : Int}, Rch (Nb pre) x y → Rch (Nb (pre ++ [(a, b)])) x y := fun h => h.mono fun _ _ k => k.imp (fun z => List.mem_append.mpr (.inl z)) fun z => List.mem_append.mpr (.inl z)
  have ab : Rch (Nb (pre ++ [(a, b)])) a b := .tail .refl (.inl (by simp))
  have sy2 : ∀ {x y}, Rch (Nb (pre ++ [(a, b)])) x y → Rch (Nb (pre ++ [(a, b)])) y x := fun h => h.symm fun _ _ => nb_symm
  constructor
  · intro h
    induction h with
    | refl => exact .inl .refl
    | @tail y z _ k ih =>
      rcases nb k with k | ⟨rfl, rfl⟩ | ⟨rfl, rfl⟩
      · have zy : Rch (Nb pre) z y := .tail .refl (nb_symm k)
        rcases ih with ih | ⟨h1, h2⟩
        · exact .inl (.tail ih k)
        · exact .inr ⟨h1, h2.imp (fun q => zy.trans q) fun q => zy.trans q⟩
      · rcases ih with ih | ⟨h1, _⟩
        · exact .inr ⟨.inl ih, .inr .refl⟩
        · exact .inr ⟨h1, .inr .refl⟩
      · rcases ih with ih | ⟨h1, _⟩
        · exact .inr ⟨.inr ih, .inl .refl⟩
        · exact .inr ⟨h1, .inl .refl⟩
  · rintro (h | ⟨h1 | h1, h2 | h2⟩)
    · exact up h
    · exact (up h1).trans (up (sy h2))
    · exact (up h1).trans (ab.trans (up (sy h2)))
    · exact (up h1).trans ((sy2 ab).trans (up (sy h2)))
    · exact (up h1).trans (up (sy h2))
def MarksOk (n : Nat) (C : Int → Int → Prop) (marks : List Int) : Prop := marks.length = n ∧ ∀ i j : Nat, i < n → j < n → (marks[i]? = marks[j]? ↔ C i j)
theorem first_of {C : Int → Int → Prop} (rf : ∀ x, C x x) (tr : ∀ x y z, C x y → C y z → C x z) : ∀ (m : Nat) (a : Int), 0 ≤ a → a.toNat = m → ∃ b, 0 ≤ b ∧ b ≤ a ∧ isF C b = true ∧ C b a := by
  intro m
  induction m using Nat.strongRecOn with
  | _ m ih =>
    intro a a0 am
    by_cases h : isF C a = true
    · exact ⟨a, a0, Int.le_refl _, h, rf a⟩
    · rw [isF_iff] at h
      have : ∃ c, 0 ≤ c ∧ c < a ∧ C c a := Classical.byContradiction fun z => h fun b b0 b1 k => z ⟨b, b0, b1, k⟩
      obtain ⟨c, c0, c1, k⟩ := this
      obtain ⟨b, b0, b1, b2, b3⟩ := ih c.toNat (by omega) c c0 rfl
      exact ⟨b, b0, by omega, b2, tr _ _ _ b3 k⟩
section
open Classical
noncomputable def kvOf (C : Int → Int → Prop) (mk : Int → Int) (pre : List Int) : List (Int × List Int) := (pre.filter (isF C)).map fun b => (mk b, pre.filter fun x => decide (C b x))
theorem kv_rows (n : Nat) (C : Int → Int → Prop) (mk : Int → Int) : (kvOf C mk (upto n 0 1)).map (·.2) = rowsOf n C (upto n 0 1) := by
  unfold kvOf rowsOf
  rw [List.map_map]
  rfl
theorem kv_step {n : Nat} {C : Int → Int → Prop} {mk : Int → Int} (rf : ∀ x, C x x) (sy : ∀ x y, C x y → C y x) (tr : ∀ x y z, C x y → C y z → C x z) (hm : ∀ x y : Int, 0 ≤ x ∧ x < n → 0 ≤ y ∧ y < n → (mk x = mk y ↔ C x y)) {pre post : List Int} {a : Int} (hx : upto n 0 1 = pre ++ a :: post) (hn : n ≤ 200) :
    osdapp (kvOf C mk pre) (mk a) a = some (kvOf C mk (pre ++ [a])) := by
  obtain ⟨pa, pl, pm⟩ := pre_u hx
  have ar : 0 ≤ a ∧ a < n := by omega
  have pr : ∀ {x}, x ∈ pre → 0 ≤ x ∧ x < n := fun h => by have := (pm _).mp h; omega
  have pw : pre.Pairwise (· < ·) := by
    have := upto_pw n
    rw [hx, List.pairwise_append] at this
    exact this.1
  have kl : (kvOf C mk pre).length ≤ n := by
    unfold kvOf
    rw [List.length_map]
    have := List.length_filter_le (isF C) pre
    omega
  have fl : (pre.filter fun x => decide (C a x)).length ≤ pre.length := List.length_filter_le _ _
  unfold osdapp
  rw [if_pos (by omega)]
  by_cases hf : isF C a = true
  · have no : ∀ b ∈ pre, ¬ C b a := fun b hb => isF_iff.mp hf b ((pm b).mp hb).1 ((pm b).mp hb).2
    have hk : kIx (kvOf C mk pre) (mk a) = none := by
      cases e : kIx (kvOf C mk pre) (mk a) with
      | none => rfl
      | some i =>
        obtain ⟨w, q, _⟩ := ix_dget e
        unfold kvOf at q
        rw [List.getElem?_map] at q
        obtain ⟨b, hb, q⟩ := Option.map_eq_some_iff.mp q
        have hb2 := (List.mem_filter.mp (List.mem_of_getElem? hb)).1
        exact absurd ((hm b a (pr hb2) ar).mp (congrArg Prod.fst q)) (no b hb2)
    have e1 : sdk (kvOf C mk pre) (mk a) = kvOf C mk pre ++ [(mk a, [])] := if_neg (by rw [hk]; decide)
    rw [e1, kIx_end hk]
    show ((kvOf C mk pre ++ [(mk a, [])])[(kvOf C mk pre).length]?).bind _ = _
    rw [List.getElem?_append_right (Nat.le_refl _), Nat.sub_self]
    rw [show ([(mk a, ([] : List Int))])[0]? = some (mk a, []) from rfl, bind_s, oapp_s (by show 0 < 100000; decide)]
    show some _ = some _
    congr 1
    show (kvOf C mk pre ++ [(mk a, [])]).set (kvOf C mk pre).length (mk a, [a]) = _
    rw [List.set_append_right _ _ (Nat.le_refl _), Nat.sub_self]
    unfold kvOf
    rw [List.filter_append, List.filter_cons_of_pos hf, List.map_append]
    congr 1
    · refine List.map_congr_left fun b hb => ?_
      have hb2 := (List.mem_filter.mp hb).1
      rw [List.filter_append, List.filter_cons_of_neg (by simpa using no b hb2)]
      simp
    · show [(mk a, [] ++ [a])] = [(mk a, (pre ++ [a]).filter fun x => decide (C a x))]
      rw [List.filter_append, List.filter_cons_of_pos (by simpa using rf a), List.filter_eq_nil_iff.mpr fun x hx => by simpa using fun k => no x hx (sy _ _ k)]
      rfl
  · obtain ⟨b0, h1, h2, h3, h4⟩ := first_of rf tr a.toNat a ar.1 rfl
    have ne : b0 ≠ a := fun z => hf (by rw [← z]; exact h3)
    have hb0 : b0 ∈ pre.filter (isF C) := List.mem_filter.mpr ⟨(pm b0).mpr ⟨h1, by omega⟩, h3⟩
    have hs : (dget (kvOf C mk pre) (mk a)).isSome = true := dgetI_iff.mpr (by
      unfold kvOf
      rw [List.map_map]
      exact List.mem_map.mpr ⟨b0, hb0, (hm b0 a (by omega) ar).mpr h4⟩)
    obtain ⟨w, hw⟩ := Option.isSome_iff_exists.mp hs
    obtain ⟨i, i1, i2⟩ := dget_ix hw
    have e1 : sdk (kvOf C mk pre) (mk a) = kvOf C mk pre := if_pos (by rw [i1]; rfl)
    rw [e1, i1]
    show ((kvOf C mk pre)[i]?).bind _ = _
    rw [i2]
    have i3 := i2
    unfold kvOf at i3
    rw [List.getElem?_map] at i3
    obtain ⟨b, hb, q⟩ := Option.map_eq_some_iff.mp i3
    have hb2 := List.mem_filter.mp (List.mem_of_getElem? hb)
    have kb : C b a := (hm b a (pr hb2.1) ar).mp (congrArg Prod.fst q)
    have ew : w = pre.filter fun x => decide (C b x) := (congrArg Prod.snd q).symm
    have wl : w.length ≤ pre.length := by rw [ew]; exact List.length_filter_le _ _
    show Option.map _ (oapp w a) = _
    rw [oapp_s (by omega)]
    show some _ = some _
    congr 1
    have e2 : (pre ++ [a]).filter (isF C) = pre.filter (isF C) := by rw [List.filter_append, List.filter_cons_of_neg hf]; simp
    unfold kvOf
    rw [e2]
    have nd : (pre.filter (isF C)).Pairwise (· < ·) := pw.filter _
    apply List.ext_getElem?
    intro j
    rw [List.getElem?_map]
    by_cases hj : j = i
    · subst hj
      rw [List.getElem?_set_self (by rw [List.length_map]; exact (List.getElem?_eq_some_iff.mp hb).1), hb]
      show some _ = some _
      congr 1
      have : mk b = mk a := congrArg Prod.fst q
      show (mk a, w ++ [a]) = (mk b, (pre ++ [a]).filter fun x => decide (C b x))
      rw [this, ew, List.filter_append, List.filter_cons_of_pos (by simpa using kb)]
      rfl
    · rw [List.getElem?_set_ne (fun z => hj z.symm), List.getElem?_map]
      cases hc : (pre.filter (isF C))[j]? with
      | none => rfl
      | some c =>
        show some _ = some _
        congr 2
        have hc2 := List.mem_filter.mp (List.mem_of_getElem? hc)
        have nk : ¬ C c a := fun k => by
          have cb : C c b := tr _ _ _ k (sy _ _ kb)
          have e3 : c = b := by
            rcases Int.lt_trichotomy c b with z | z | z
            · exact absurd cb (isF_iff.mp hb2.2 c (pr hc2.1).1 z)
            · exact z
            · exact absurd (sy _ _ cb) (isF_iff.mp hc2.2 b (pr hb2.1).1 z)
          subst e3
          obtain ⟨l1, g1⟩ := List.getElem?_eq_some_iff.mp hc
          obtain ⟨l2, g2⟩ := List.getElem?_eq_some_iff.mp hb
          rcases Nat.lt_or_gt_of_ne hj with z | z
          · have := List.pairwise_iff_getElem.mp nd j i l1 l2 z
            rw [g1, g2] at this
            omega
          · have := List.pairwise_iff_getElem.mp nd i j l2 l1 z
            rw [g1, g2] at this
            omega
        show (mk c, pre.filter fun x => decide (C c x)) = (mk c, (pre ++ [a]).filter fun x => decide (C c x))
        rw [List.filter_append, List.filter_cons_of_neg (by simpa using nk)]
        simp
end
theorem due_s {n : Nat} {ts : List PP} (h0 : 1 ≤ n) (h1 : n ≤ 200) (hl : ts.length ≤ 60) (ht : ∀ t ∈ ts, TieOk n t) : u_due ((n : Int), ts, ()) = some (rowsOf n (Rch (Nb ts)) (upto n 0 1)) := by
  rw [ue_due]
  unfold m_due
  rw [orange1_s (by omega), Int.toNat_natCast]
  have e : olc (some (upto n 0 1)) (fun (x1 : Int) => (some true)) (fun (x1 : Int) => some x1) = some (upto n 0 1) := by
    rw [olc_all (f := fun x => x) (by rw [upto_len]; omega) fun x _ => ⟨rfl, rfl⟩, List.map_id']
  rw [e]
  simp only [bind_s]
  have uat : ∀ i : Nat, i < n → (upto n 0 1)[i]? = some (i : Int) := fun i hi => by
    unfold upto
    rw [List.getElem?_map, List.getElem?_eq_getElem (by simpa using hi)]
    simp
  refine after_by (G := fun o => o = some (rowsOf n (Rch (Nb ts)) (upto n 0 1))) (fun pre (s : List Int) => MarksOk n (Rch (Nb pre)) s) ⟨upto_len _ _ _, fun i j hi hj => ?_⟩ ?_ ?_
  · rw [uat i hi, uat j hj]
    constructor
    · intro h
      have := Option.some.inj h
      rw [this]; exact .refl
    · intro h; rw [rch_none h]
  · rintro pre ⟨a, b⟩ post s hx ⟨sl, hs⟩
    obtain ⟨t1, t2, t3⟩ := ht (a, b) (by rw [hx]; simp)
    simp only at t1 t2 t3
    have aa : ((a.toNat : Nat) : Int) = a := by omega
    have bb : ((b.toNat : Nat) : Int) = b := by omega
    have ga : s[a.toNat]? = some (s[a.toNat]'(by omega)) := List.getElem?_eq_getElem (by omega)
    have gb : s[b.toNat]? = some (s[b.toNat]'(by omega)) := List.getElem?_eq_getElem (by omega)
    have oa : atI s a = some (s[a.toNat]'(by omega)) := atI_of t1 (by omega)
    have ob : atI s b = some (s[b.toNat]'(by omega)) := atI_of (by omega) (by omega)
    generalize s[a.toNat]'(by omega) = ma at *
    generalize s[b.toNat]'(by omega) = mb at *
    simp only [oix_s, oa, ob, one_s, oite_s]
    have sy : ∀ {x y}, Rch (Nb pre) x y → Rch (Nb pre) y x := fun h => h.symm fun _ _ => nb_symm
    by_cases hm : ma = mb
    · rw [decide_eq_true hm]
      refine ⟨_, rfl, sl, fun i j hi hj => ?_⟩
      have kab : Rch (Nb pre) a b := by
        have := (hs a.toNat b.toNat (by omega) (by omega)).mp (by rw [ga, gb, hm])
        rwa [aa, bb] at this
      rw [hs i j hi hj, rch_snoc]
      constructor
      · exact .inl
      · rintro (h | ⟨h | h, k | k⟩)
        · exact h
        · exact h.trans (sy k)
        · exact h.trans (kab.trans (sy k))
        · exact h.trans ((sy kab).trans (sy k))
        · exact h.trans (sy k)
    · rw [decide_eq_false hm, Bool.not_false, if_pos rfl]
      simp only [omax2_s, omin2_s, bind_s]
      rw [olc_all (f := fun x => if x = max ma mb then min ma mb else x) (by omega) fun x _ => ⟨rfl, by simp only [oeq_s, oite_s, decide_eq_true_eq]; split <;> rfl⟩]
      refine ⟨_, rfl, by rw [List.length_map]; exact sl, fun i j hi hj => ?_⟩
      have gi : s[i]? = some (s[i]'(by omega)) := List.getElem?_eq_getElem (by omega)
      have gj : s[j]? = some (s[j]'(by omega)) := List.getElem?_eq_getElem (by omega)
      have hij := hs i j hi hj
      have hia := hs i a.toNat hi (by omega)
      have hib := hs i b.toNat hi (by omega)
      have hja := hs j a.toNat hj (by omega)
      have hjb := hs j b.toNat hj (by omega)
      rw [gi, gj, Option.some.injEq] at hij
      rw [gi, ga, Option.some.injEq, aa] at hia
      rw [gi, gb, Option.some.injEq, bb] at hib
      rw [gj, ga, Option.some.injEq, aa] at hja
      rw [gj, gb, Option.some.injEq, bb] at hjb
      rw [List.getElem?_map, List.getElem?_map, gi, gj, rch_snoc, ← hij, ← hia, ← hib, ← hja, ← hjb, Option.map_some, Option.map_some, Option.some.injEq]
      generalize s[i]'(by omega) = x
      generalize s[j]'(by omega) = y
      constructor
      · intro h
        split at h <;> split at h <;> omega
      · intro h
        split <;> split <;> omega
  · rintro marks ⟨ml, hm⟩
    have mr : ∀ x : Int, 0 ≤ x ∧ x < n → atI marks x = some (marks.getD x.toNat 0) := fun x hx => by
      rw [atI_of hx.1 (by omega), List.getD_eq_getElem?_getD, List.getElem?_eq_getElem (by omega)]
      rfl
    have hmk : ∀ x y : Int, 0 ≤ x ∧ x < n → 0 ≤ y ∧ y < n → (marks.getD x.toNat 0 = marks.getD y.toNat 0 ↔ Rch (Nb ts) x y) := fun x y hx hy => by
      have := hm x.toNat y.toNat (by omega) (by omega)
      rw [show ((x.toNat : Nat) : Int) = x by omega, show ((y.toNat : Nat) : Int) = y by omega, List.getElem?_eq_getElem (by omega), List.getElem?_eq_getElem (by omega), Option.some.injEq] at this
      rw [← this, List.getD_eq_getElem?_getD, List.getD_eq_getElem?_getD, List.getElem?_eq_getElem (by omega), List.getElem?_eq_getElem (by omega)]
      rfl
    have sy : ∀ x y, Rch (Nb ts) x y → Rch (Nb ts) y x := fun x y h => h.symm fun _ _ => nb_symm
    refine after_by (G := fun o => o = some (rowsOf n (Rch (Nb ts)) (upto n 0 1))) (fun pre (s : List (Int × List Int)) => s = kvOf (Rch (Nb ts)) (fun x => marks.getD x.toNat 0) pre) rfl ?_ ?_
    · rintro pre a post s hx rfl
      obtain ⟨pa, pl, pm⟩ := pre_u hx
      rw [oix_s, mr a (by omega)]
      simp only [bind_s]
      rw [kv_step (mk := fun x => marks.getD x.toNat 0) (fun x => .refl) sy (fun x y z h k => h.trans k) hmk hx h1]
      exact ⟨_, rfl, rfl⟩
    · rintro s rfl
      rw [← kv_rows n (Rch (Nb ts)) fun x => marks.getD x.toNat 0]
      generalize hkv : kvOf (Rch (Nb ts)) (fun x => marks.getD x.toNat 0) (upto n 0 1) = kvs
      have kl : kvs.length ≤ n := by
        rw [← hkv]
        unfold kvOf
        rw [List.length_map]
        have := List.length_filter_le (isF (Rch (Nb ts))) (upto n 0 1)
        rw [upto_len] at this
        exact this
      have nd : (kvs.map (·.1)).Nodup := by
        rw [← hkv]
        unfold kvOf
        rw [List.map_map]
        refine List.pairwise_map.mpr (((upto_pw n).filter _).imp_of_mem fun {x y} hx hy lt z => ?_)
        have hx2 := List.mem_filter.mp hx
        have hy2 := List.mem_filter.mp hy
        have k := (hmk x y (mem_u.mp hx2.1) (mem_u.mp hy2.1)).mp z
        exact isF_iff.mp hy2.2 x (mem_u.mp hx2.1).1 lt k
      have e3 : olc (okeysK (some kvs)) (fun (x14 : Int) => some true) (fun (x14 : Int) => odgetB (some kvs) (some x14)) = some ((kvs.map (·.1)).map fun k => (dget kvs k).getD []) := by
        refine olc_all (by rw [List.length_map]; omega) fun k hk => ⟨rfl, ?_⟩
        obtain ⟨⟨k', w⟩, hw, rfl⟩ := List.mem_map.mp hk
        show dget kvs k' = some ((dget kvs k').getD [])
        rw [dgetI_mem nd hw]
        rfl
      rw [e3, map_s, List.map_map]
      congr 1
      refine List.map_congr_left fun ⟨k, w⟩ hw => ?_
      show (dget kvs k).getD [] = w
      rw [dgetI_mem nd hw]
      rfl
theorem alike_s {xs : List (List Int)} (h : xs.length ≤ 1000) (hr : ∀ r ∈ xs, r.length ≤ 1000) : u_alike (xs, xs, ()) = some true := by
  rw [ue_alike]
  unfold m_alike
  have il : isiD "list" (em xs) = true := isi_list _
  simp only [oisi_s, il, onot_s, Bool.not_true, oor_f, olen_s, one_s, decide_true, oite_f]
  rw [orange1_s (by omega)]
  simp only [bind_s]
  refine after_all (G := fun o => o = some true) (fun x hx => ?_) (by rw [oeqd_same]; rfl)
  obtain ⟨h1, h2⟩ := mem_upto1 hx
  have e1 : atI xs x = some (xs[x.toNat]'(by omega)) := atI_of h1 (by omega)
  have hm := List.getElem_mem (l := xs) (n := x.toNat) (by omega)
  generalize xs[x.toNat]'(by omega) = row at e1 hm
  have il2 : isiD "list" (em row) = true := isi_list _
  have hrow := hr row hm
  rw [oix_s, e1]
  simp only [oisi_s, il2, onot_s, Bool.not_true, oor_f]
  rw [olc_all (f := fun _ => true) (by omega) fun y _ => ⟨rfl, by simp only [map_s, oarg_s, bind_s, whole_int]⟩]
  simp only [oall_s, onot_s]
  have : (row.map fun _ => true).all id = true := by simp
  rw [this]
  rfl
theorem fm_congr {α β : Type} {f g : α → Option β} : ∀ {xs : List α}, (∀ x ∈ xs, f x = g x) → xs.filterMap f = xs.filterMap g
  | [], _ => rfl
  | x :: xs, h => by
    rw [List.filterMap_cons, List.filterMap_cons, h x (by simp), fm_congr fun y hy => h y (by simp [hy])]
theorem pick_self {α : Type} : ∀ ys : List α, (List.range ys.length).filterMap (fun k => ys[k]?) = ys
  | [] => rfl
  | y :: ys => by
    rw [List.length_cons, List.range_succ_eq_map, List.filterMap_cons]
    show y :: (List.filterMap (fun k => (y :: ys)[k]?) (List.map Nat.succ (List.range ys.length))) = _
    rw [List.filterMap_map]
    congr 1
    exact pick_self ys
theorem step_rev {α : Type} (xs : List α) : ostep (some xs) (some none) (some none) (some (some (-1))) = some xs.reverse := by
  show (if (some (-1) : Option Int) ≠ some 0 then some (pickG xs none none (some (-1))) else none) = _
  rw [if_pos (by decide)]
  congr 1
  have e1 : sliceRange ((xs.length : Int) - 1) (-1) (-1) = (List.range xs.length).map fun k => xs.length - 1 - k := by
    unfold sliceRange
    have e2 : ((if (-1 : Int) > 0 then (if (xs.length : Int) - 1 < -1 then (-1 - ((xs.length : Int) - 1) + -1 - 1) / -1 else 0) else (if (xs.length : Int) - 1 > -1 then ((xs.length : Int) - 1 - -1 - -1 - 1) / (- -1) else 0)) : Int).toNat = xs.length := by
      rw [if_neg (by decide), show (- -1 : Int) = 1 from rfl, Int.ediv_one]
      split <;> omega
    simp only [e2]
    refine List.map_congr_left fun k hk => ?_
    rw [List.mem_range] at hk
    omega
  show (sliceRange ((xs.length : Int) - 1) (-1) (-1)).filterMap (fun i => xs[i]?) = _
  rw [e1, List.filterMap_map]
  have e3 : (List.range xs.length).filterMap ((fun i => xs[i]?) ∘ fun k => xs.length - 1 - k) = (List.range xs.reverse.length).filterMap fun k => xs.reverse[k]? := by
    rw [List.length_reverse]
    refine fm_congr fun k hk => ?_
    rw [List.mem_range] at hk
    show xs[xs.length - 1 - k]? = _
    rw [List.getElem?_reverse hk]
  rw [e3, pick_self]
theorem nb_rev (ts : List PP) : Nb ts.reverse = Nb ts := by
  funext x y
  unfold Nb
  simp only [List.mem_reverse]
theorem law_holds : ∀ ns : List Int, ns.length ≤ 63 → u_law (ns, ()) = some true := by
  intro ns hns
  rw [ue_law]
  unfold m_law
  obtain ⟨c0, e0⟩ := cell_0 ns
  have e0 : u_cellat (ns, (0 : Int), ()) = some c0 := e0
  simp only [oarg_s, bind_s, e0]
  rw [ofdiv_s (by decide) (by decide)]
  simp only [oarg_s, bind_s]
  obtain ⟨n', en, n0, n1⟩ := count_s (c0 / 2)
  obtain ⟨n, rfl⟩ := Int.eq_ofNat_of_zero_le (show 0 ≤ n' by omega)
  rw [en]
  simp only [oarg_s, bind_s]
  obtain ⟨ts, et, tl, tm⟩ := net_in ns n0 n1 hns
  rw [et]
  have h0 : 1 ≤ n := by omega
  have h1 : n ≤ 200 := by omega
  have tr : ∀ t ∈ ts.reverse, TieOk n t := fun t h => tm t (List.mem_reverse.mp h)
  have g1 := groups_s h0 h1 tl tm
  have g2 := groups_s (ts := ts.reverse) h0 h1 (by rw [List.length_reverse]; exact tl) tr
  rw [nb_rev] at g2
  have d1 := due_s h0 h1 tl tm
  simp only [bind_s, oarg_s, d1, g1]
  generalize hR : rowsOf n (Rch (Nb ts)) (upto n 0 1) = rows at *
  have rl : rows.length ≤ n := by
    rw [← hR]
    unfold rowsOf
    rw [List.length_map]
    have := List.length_filter_le (isF (Rch (Nb ts))) (upto n 0 1)
    rw [upto_len] at this
    exact this
  have rr : ∀ r ∈ rows, r.length ≤ n := fun r hr => by
    rw [← hR] at hr
    obtain ⟨b, _, rfl⟩ := List.mem_map.mp hr
    have := List.length_filter_le (fun x => @decide (Rch (Nb ts) b x) (Classical.propDecidable _)) (upto n 0 1)
    rw [upto_len] at this
    exact this
  have al := alike_s (xs := rows) (by omega) fun r hr => by have := rr r hr; omega
  rw [al, oned_same]
  simp only [onot_s, Bool.not_true, oor_f, oite_f]
  obtain ⟨r0, rest, er⟩ : ∃ r0 rest, rows = r0 :: rest := by
    have : (0 : Int) ∈ (upto n 0 1).filter (isF (Rch (Nb ts))) := List.mem_filter.mpr ⟨mem_u.mpr (by omega), isF_iff.mpr fun b b0 b1 => by omega⟩
    cases rows with
    | nil =>
      have e : rowsOf n (Rch (Nb ts)) (upto n 0 1) = [] := hR
      unfold rowsOf at e
      rw [List.map_eq_nil_iff] at e
      rw [e] at this
      cases this
    | cons r0 rest => exact ⟨r0, rest, rfl⟩
  have lr0 := rr r0 (by rw [er]; simp)
  rw [loc_at (a := 0) (by decide) (row := r0) (by rw [er]; rfl)]
  simp only [bind_s]
  rw [oapp_s (by omega)]
  simp only [map_s, bind_s, ocons_s]
  rw [app_s (by rw [List.length_set]; omega)]
  simp only [bind_s, oneg_s, map_s]
  rw [step_rev]
  simp only [oarg_s, bind_s, g2, al, oand_s]
  rfl
end Tw
namespace Tw
open PySem L2
theorem all_mk {K : PySem.W.Frag} {h : Heap} {mg : Str → Option Value} {f0 f1 f2 f3 f4 f5 f6 f7 f8 f9 f10 f11 : Addr} (X : K.In h) (G : h.Ns mainGlobals mg)
    {od0 an0 od1 an1 od2 an2 od3 an3 od4 an4 od5 an5 od6 an6 od7 an7 od8 an8 od9 an9 od10 an10 od11 an11 : Option Addr} {sl0 sl1 sl2 sl3 sl4 sl5 sl6 sl7 sl8 sl9 sl10 sl11 : Array (Option Value)} {oc0 kV0 dc0 pm0 cd0 ct0 oc1 kV1 dc1 pm1 cd1 ct1 oc2 kV2 dc2 pm2 cd2 ct2 oc3 kV3 dc3 pm3 cd3 ct3 oc4 kV4 dc4 pm4 cd4 ct4 oc5 kV5 dc5 pm5 cd5 ct5 oc6 kV6 dc6 pm6 cd6 ct6 oc7 kV7 dc7 pm7 cd7 ct7 oc8 kV8 dc8 pm8 cd8 ct8 oc9 kV9 dc9 pm9 cd9 ct9 oc10 kV10 dc10 pm10 cd10 ct10 oc11 kV11 dc11 pm11 cd11 ct11 : Value}
    (a0 : PySem.W.nsIn K mainGlobals "_law_count" = some (some (.ref f0))) (l0 : K.lookup f0 = some ⟨oc0, od0, .func (PySem.W.fnOf "_law_count" "_law_count" (defArgs s_count) (defBody s_count) (defScope s_count) .none kV0 dc0 pm0 an0 cd0 ct0), sl0⟩) (x0 : PySem.W.codeIn K cd0 "_law_count" = true) (k0 : PySem.W.keepIn K (.ref f0) = true)
    (a1 : PySem.W.nsIn K mainGlobals "_law_digits" = some (some (.ref f1))) (l1 : K.lookup f1 = some ⟨oc1, od1, .func (PySem.W.fnOf "_law_digits" "_law_digits" (defArgs s_digits) (defBody s_digits) (defScope s_digits) .none kV1 dc1 pm1 an1 cd1 ct1), sl1⟩) (x1 : PySem.W.codeIn K cd1 "_law_digits" = true) (k1 : PySem.W.keepIn K (.ref f1) = true)
    (a2 : PySem.W.nsIn K mainGlobals "_law_ties" = some (some (.ref f2))) (l2 : K.lookup f2 = some ⟨oc2, od2, .func (PySem.W.fnOf "_law_ties" "_law_ties" (defArgs s_ties) (defBody s_ties) (defScope s_ties) .none kV2 dc2 pm2 an2 cd2 ct2), sl2⟩) (x2 : PySem.W.codeIn K cd2 "_law_ties" = true) (k2 : PySem.W.keepIn K (.ref f2) = true)
    (a3 : PySem.W.nsIn K mainGlobals "_law_cell_at" = some (some (.ref f3))) (l3 : K.lookup f3 = some ⟨oc3, od3, .func (PySem.W.fnOf "_law_cell_at" "_law_cell_at" (defArgs s_cellat) (defBody s_cellat) (defScope s_cellat) .none kV3 dc3 pm3 an3 cd3 ct3), sl3⟩) (x3 : PySem.W.codeIn K cd3 "_law_cell_at" = true) (k3 : PySem.W.keepIn K (.ref f3) = true)
    (a4 : PySem.W.nsIn K mainGlobals "_law_net" = some (some (.ref f4))) (l4 : K.lookup f4 = some ⟨oc4, od4, .func (PySem.W.fnOf "_law_net" "_law_net" (defArgs s_net) (defBody s_net) (defScope s_net) .none kV4 dc4 pm4 an4 cd4 ct4), sl4⟩) (x4 : PySem.W.codeIn K cd4 "_law_net" = true) (k4 : PySem.W.keepIn K (.ref f4) = true)
    (a5 : PySem.W.nsIn K mainGlobals "_law_due" = some (some (.ref f5))) (l5 : K.lookup f5 = some ⟨oc5, od5, .func (PySem.W.fnOf "_law_due" "_law_due" (defArgs s_due) (defBody s_due) (defScope s_due) .none kV5 dc5 pm5 an5 cd5 ct5), sl5⟩) (x5 : PySem.W.codeIn K cd5 "_law_due" = true) (k5 : PySem.W.keepIn K (.ref f5) = true)
    (a6 : PySem.W.nsIn K mainGlobals "neighbours" = some (some (.ref f6))) (l6 : K.lookup f6 = some ⟨oc6, od6, .func (PySem.W.fnOf "neighbours" "neighbours" (defArgs s_neighbours) (defBody s_neighbours) (defScope s_neighbours) .none kV6 dc6 pm6 an6 cd6 ct6), sl6⟩) (x6 : PySem.W.codeIn K cd6 "neighbours" = true) (k6 : PySem.W.keepIn K (.ref f6) = true)
    (a7 : PySem.W.nsIn K mainGlobals "reached" = some (some (.ref f7))) (l7 : K.lookup f7 = some ⟨oc7, od7, .func (PySem.W.fnOf "reached" "reached" (defArgs s_reached) (defBody s_reached) (defScope s_reached) .none kV7 dc7 pm7 an7 cd7 ct7), sl7⟩) (x7 : PySem.W.codeIn K cd7 "reached" = true) (k7 : PySem.W.keepIn K (.ref f7) = true)
    (a8 : PySem.W.nsIn K mainGlobals "groups" = some (some (.ref f8))) (l8 : K.lookup f8 = some ⟨oc8, od8, .func (PySem.W.fnOf "groups" "groups" (defArgs s_groups) (defBody s_groups) (defScope s_groups) .none kV8 dc8 pm8 an8 cd8 ct8), sl8⟩) (x8 : PySem.W.codeIn K cd8 "groups" = true) (k8 : PySem.W.keepIn K (.ref f8) = true)
    (a9 : PySem.W.nsIn K mainGlobals "_law_whole" = some (some (.ref f9))) (l9 : K.lookup f9 = some ⟨oc9, od9, .func (PySem.W.fnOf "_law_whole" "_law_whole" (defArgs s_whole) (defBody s_whole) (defScope s_whole) .none kV9 dc9 pm9 an9 cd9 ct9), sl9⟩) (x9 : PySem.W.codeIn K cd9 "_law_whole" = true) (k9 : PySem.W.keepIn K (.ref f9) = true)
    (a10 : PySem.W.nsIn K mainGlobals "_law_alike" = some (some (.ref f10))) (l10 : K.lookup f10 = some ⟨oc10, od10, .func (PySem.W.fnOf "_law_alike" "_law_alike" (defArgs s_alike) (defBody s_alike) (defScope s_alike) .none kV10 dc10 pm10 an10 cd10 ct10), sl10⟩) (x10 : PySem.W.codeIn K cd10 "_law_alike" = true) (k10 : PySem.W.keepIn K (.ref f10) = true)
    (a11 : PySem.W.nsIn K mainGlobals "law" = some (some (.ref f11))) (l11 : K.lookup f11 = some ⟨oc11, od11, .func (PySem.W.fnOf "law" "law" (defArgs s_law) (defBody s_law) (defScope s_law) .none kV11 dc11 pm11 an11 cd11 ct11), sl11⟩) (x11 : PySem.W.codeIn K cd11 "law" = true) (k11 : PySem.W.keepIn K (.ref f11) = true)
    (z_all : PySem.W.nsIn K mainGlobals "all" = some none) (z_bool : PySem.W.nsIn K mainGlobals "bool" = some none) (z_int : PySem.W.nsIn K mainGlobals "int" = some none) (z_isinstance : PySem.W.nsIn K mainGlobals "isinstance" = some none) (z_len : PySem.W.nsIn K mainGlobals "len" = some none) (z_list : PySem.W.nsIn K mainGlobals "list" = some none) (z_max : PySem.W.nsIn K mainGlobals "max" = some none) (z_min : PySem.W.nsIn K mainGlobals "min" = some none) (z_range : PySem.W.nsIn K mainGlobals "range" = some none) (z_sorted : PySem.W.nsIn K mainGlobals "sorted" = some none)  :
    ∃ T : Txt K mg, T.a_law = f11 ∧ ∀ (s : Shared) (v : Value), BindsTo s T.fd_law ⟨[v], []⟩ [("_law_script", v)] := by
  have F0 := fun_mk (st := s_count) l0 x0 k0
  have b0 := F0.binds (ps := P_count) fun _ _ _ _ _ _ us hl => match us, hl with | [_], _ => rfl
  have F1 := fun_mk (st := s_digits) l1 x1 k1
  have b1 := F1.binds (ps := P_digits) fun _ _ _ _ _ _ us hl => match us, hl with | [_, _, _], _ => rfl
  have F2 := fun_mk (st := s_ties) l2 x2 k2
  have b2 := F2.binds (ps := P_ties) fun _ _ _ _ _ _ us hl => match us, hl with | [_, _, _], _ => rfl
  have F3 := fun_mk (st := s_cellat) l3 x3 k3
  have b3 := F3.binds (ps := P_cellat) fun _ _ _ _ _ _ us hl => match us, hl with | [_, _], _ => rfl
  have F4 := fun_mk (st := s_net) l4 x4 k4
  have b4 := F4.binds (ps := P_net) fun _ _ _ _ _ _ us hl => match us, hl with | [_, _], _ => rfl
  have F5 := fun_mk (st := s_due) l5 x5 k5
  have b5 := F5.binds (ps := P_due) fun _ _ _ _ _ _ us hl => match us, hl with | [_, _], _ => rfl
  have F6 := fun_mk (st := s_neighbours) l6 x6 k6
  have b6 := F6.binds (ps := P_neighbours) fun _ _ _ _ _ _ us hl => match us, hl with | [_, _], _ => rfl
  have F7 := fun_mk (st := s_reached) l7 x7 k7
  have b7 := F7.binds (ps := P_reached) fun _ _ _ _ _ _ us hl => match us, hl with | [_, _], _ => rfl
  have F8 := fun_mk (st := s_groups) l8 x8 k8
  have b8 := F8.binds (ps := P_groups) fun _ _ _ _ _ _ us hl => match us, hl with | [_, _], _ => rfl
  have F9 := fun_mk (st := s_whole) l9 x9 k9
  have b9 := F9.binds (ps := P_whole) fun _ _ _ _ _ _ us hl => match us, hl with | [_], _ => rfl
  have F10 := fun_mk (st := s_alike) l10 x10 k10
  have b10 := F10.binds (ps := P_alike) fun _ _ _ _ _ _ us hl => match us, hl with | [_, _], _ => rfl
  have F11 := fun_mk (st := s_law) l11 x11 k11
  have b11 := F11.binds (ps := P_law) fun _ _ _ _ _ _ us hl => match us, hl with | [_], _ => rfl
  exact ⟨{ a_count := f0, fd_count := _, F_count := F0, b_count := b0, a_digits := f1, fd_digits := _, F_digits := F1, b_digits := b1, a_ties := f2, fd_ties := _, F_ties := F2, b_ties := b2, a_cellat := f3, fd_cellat := _, F_cellat := F3, b_cellat := b3, a_net := f4, fd_net := _, F_net := F4, b_net := b4, a_due := f5, fd_due := _, F_due := F5, b_due := b5, a_neighbours := f6, fd_neighbours := _, F_neighbours := F6, b_neighbours := b6, a_reached := f7, fd_reached := _, F_reached := F7, b_reached := b7, a_groups := f8, fd_groups := _, F_groups := F8, b_groups := b8, a_whole := f9, fd_whole := _, F_whole := F9, b_whole := b9, a_alike := f10, fd_alike := _, F_alike := F10, b_alike := b10, a_law := f11, fd_law := _, F_law := F11, b_law := b11, m_count := PySem.W.mg_of X G a0, m_digits := PySem.W.mg_of X G a1, m_ties := PySem.W.mg_of X G a2, m_cellat := PySem.W.mg_of X G a3, m_net := PySem.W.mg_of X G a4, m_due := PySem.W.mg_of X G a5, m_neighbours := PySem.W.mg_of X G a6, m_reached := PySem.W.mg_of X G a7, m_groups := PySem.W.mg_of X G a8, m_whole := PySem.W.mg_of X G a9, m_alike := PySem.W.mg_of X G a10, m_law := PySem.W.mg_of X G a11, n_all := PySem.W.mg_none_of X G z_all, n_bool := PySem.W.mg_none_of X G z_bool, n_int := PySem.W.mg_none_of X G z_int, n_isinstance := PySem.W.mg_none_of X G z_isinstance, n_len := PySem.W.mg_none_of X G z_len, n_list := PySem.W.mg_none_of X G z_list, n_max := PySem.W.mg_none_of X G z_max, n_min := PySem.W.mg_none_of X G z_min, n_range := PySem.W.mg_none_of X G z_range, n_sorted := PySem.W.mg_none_of X G z_sorted }, rfl, fun s v => .of_eq rfl⟩
end Tw
open PySem PySem.W PyProof.Rows
set_option maxRecDepth 100000 in
set_option maxHeartbeats 0 in
theorem PySem.Challenge.cw_tiewood_k03_groups_holds : PySem.Challenge.rw_tiewood_k03_groups.Holds := by
  w_on; o_law; k_head; (case hw => w_witness2)
  k_fill
  refine Tw.law_end (l := PySem.Challenge.rw_tiewood_k03_groups) (lv := 3) (x := "_law_script") (A := fun t => [.s t.1]) (g := Tw.u_law) rfl rfl ⟨rfl, by decide, by decide⟩ (fun w h Y => PySem.W.kIn_of Y) (fun _ => rfl) ?F Tw.law_holds
  case F =>
    intro w mg fa h KX G hmg
    refine' Exists.elim (Tw.all_mk KX G ?tw_a0 ?tw_l0 ?tw_x0 ?tw_k0 ?tw_a1 ?tw_l1 ?tw_x1 ?tw_k1 ?tw_a2 ?tw_l2 ?tw_x2 ?tw_k2 ?tw_a3 ?tw_l3 ?tw_x3 ?tw_k3 ?tw_a4 ?tw_l4 ?tw_x4 ?tw_k4 ?tw_a5 ?tw_l5 ?tw_x5 ?tw_k5 ?tw_a6 ?tw_l6 ?tw_x6 ?tw_k6 ?tw_a7 ?tw_l7 ?tw_x7 ?tw_k7 ?tw_a8 ?tw_l8 ?tw_x8 ?tw_k8 ?tw_a9 ?tw_l9 ?tw_x9 ?tw_k9 ?tw_a10 ?tw_l10 ?tw_x10 ?tw_k10 ?tw_a11 ?tw_l11 ?tw_x11 ?tw_k11 ?tw_z_all ?tw_z_bool ?tw_z_int ?tw_z_isinstance ?tw_z_len ?tw_z_list ?tw_z_max ?tw_z_min ?tw_z_range ?tw_z_sorted) ?fin
    (case tw_a0 => k_is)
    (case tw_l0 => k_is)
    (case tw_x0 => k_is)
    (case tw_k0 => k_is)
    (case tw_a1 => k_is)
    (case tw_l1 => k_is)
    (case tw_x1 => k_is)
    (case tw_k1 => k_is)
    (case tw_a2 => k_is)
    (case tw_l2 => k_is)
    (case tw_x2 => k_is)
    (case tw_k2 => k_is)
    (case tw_a3 => k_is)
    (case tw_l3 => k_is)
    (case tw_x3 => k_is)
    (case tw_k3 => k_is)
    (case tw_a4 => k_is)
    (case tw_l4 => k_is)
    (case tw_x4 => k_is)
    (case tw_k4 => k_is)
    (case tw_a5 => k_is)
    (case tw_l5 => k_is)
    (case tw_x5 => k_is)
    (case tw_k5 => k_is)
    (case tw_a6 => k_is)
    (case tw_l6 => k_is)
    (case tw_x6 => k_is)
    (case tw_k6 => k_is)
    (case tw_a7 => k_is)
    (case tw_l7 => k_is)
    (case tw_x7 => k_is)
    (case tw_k7 => k_is)
    (case tw_a8 => k_is)
    (case tw_l8 => k_is)
    (case tw_x8 => k_is)
    (case tw_k8 => k_is)
    (case tw_a9 => k_is)
    (case tw_l9 => k_is)
    (case tw_x9 => k_is)
    (case tw_k9 => k_is)
    (case tw_a10 => k_is)
    (case tw_l10 => k_is)
    (case tw_x10 => k_is)
    (case tw_k10 => k_is)
    (case tw_a11 => k_is)
    (case tw_l11 => k_is)
    (case tw_x11 => k_is)
    (case tw_k11 => k_is)
    (case tw_z_all => k_is)
    (case tw_z_bool => k_is)
    (case tw_z_int => k_is)
    (case tw_z_isinstance => k_is)
    (case tw_z_len => k_is)
    (case tw_z_list => k_is)
    (case tw_z_max => k_is)
    (case tw_z_min => k_is)
    (case tw_z_range => k_is)
    (case tw_z_sorted => k_is)
    case fin =>
      rintro T ⟨ha, hb⟩
      have e := hmg.symm.trans T.m_law
      cases e
      exact ⟨T.fd_law, hb, fun base _ _ => Tw.ok_law T⟩
