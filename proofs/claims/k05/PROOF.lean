import PyProof.Rows.All
import Wide.All
import OpenK.AllK
import Wide.FinOn
import HandS.ForMost
import HandS.IsInst
import HandS.Deep
import HandS.Walk
import HandS.SortInts
import HandS.SetFor
import HandS.SortRule
import HandS.NoneIn
import HandS.DictTup
import HandS.TupLen
import HandS.Style
import HandS.WideBits
import KE.KDictSum
import HandS.Conv
import HandS.Zip
import PySem.Challenge.RW_tiewood_k05_a_shortest_way
set_option Elab.async false
set_option linter.all false
set_option maxRecDepth 100000
set_option maxHeartbeats 4000000
/-! A layer over the readings: typed data, an environment of frozen and owned things, answers as optional values. -/
namespace Tw
open PySem L2

/-! ### data at a heap -/
mutual
inductive Rp (H : Hp) : V → PyData → Prop
  | non : Rp H .non .none
  | bl (b : Bool) : Rp H (.bl b) (.bool b)
  | int (i : Int) : Rp H (.int i) (.int i)
  | str (x : Str) : Rp H (.str x) (.str x)
  | lst {p : Addr} {vs : List V} {ds : List PyData} : H p = some (.lst vs) → RpA H vs ds → Rp H (.ref p) (.list ds)
  | tup {p : Addr} {vs : List V} {ds : List PyData} : H p = some (.tup vs) → RpA H vs ds → Rp H (.ref p) (.tuple ds)
inductive RpA (H : Hp) : List V → List PyData → Prop
  | nil : RpA H [] []
  | cons {v : V} {vs : List V} {d : PyData} {ds : List PyData} : Rp H v d → RpA H vs ds → RpA H (v :: vs) (d :: ds)
end

mutual
theorem Rp.mono {H H' : Hp} (s : Same H H') : ∀ {v : V} {d : PyData}, Rp H v d → Rp H' v d
  | _, _, .non => .non
  | _, _, .bl b => .bl b
  | _, _, .int i => .int i
  | _, _, .str x => .str x
  | _, _, .lst h r => .lst (s _ _ h) (RpA.mono s r)
  | _, _, .tup h r => .tup (s _ _ h) (RpA.mono s r)
theorem RpA.mono {H H' : Hp} (s : Same H H') : ∀ {vs : List V} {ds : List PyData}, RpA H vs ds → RpA H' vs ds
  | _, _, .nil => .nil
  | _, _, .cons h r => .cons (Rp.mono s h) (RpA.mono s r)
end
mutual
theorem Rp.dp (K : PySem.W.Frag) {H : Hp} : ∀ {v : V} {d : PyData}, Rp H v d → Dp K H v d
  | _, _, .non => .non
  | _, _, .bl b => .bl b
  | _, _, .int i => .int i
  | _, _, .str x => .str x
  | _, _, .lst h r => .lst (SqL.of h) (RpA.dp K r)
  | _, _, .tup h r => .tup (SqT.of h) (RpA.dp K r)
theorem RpA.dp (K : PySem.W.Frag) {H : Hp} : ∀ {vs : List V} {ds : List PyData}, RpA H vs ds → DpAll K H vs ds
  | _, _, .nil => .nil
  | _, _, .cons h r => .cons (Rp.dp K h) (RpA.dp K r)
end
theorem RpA.len {H : Hp} : ∀ {vs : List V} {ds : List PyData}, RpA H vs ds → vs.length = ds.length
  | _, _, .nil => rfl
  | _, _, .cons _ r => by rw [List.length_cons, List.length_cons, RpA.len r]
theorem RpA.get {H : Hp} : ∀ {vs : List V} {ds : List PyData} {i : Nat} {d : PyData}, RpA H vs ds → ds[i]? = some d → ∃ v, vs[i]? = some v ∧ Rp H v d
  | _, _, _, _, .nil, e => by simp at e
  | _, _, 0, _, .cons h _, e => by simp at e; subst e; exact ⟨_, rfl, h⟩
  | _, _, i + 1, _, .cons _ r, e => by
    obtain ⟨v, h1, h2⟩ := RpA.get (i := i) r (by simpa using e)
    exact ⟨v, by simpa using h1, h2⟩
theorem RpA.getV {H : Hp} : ∀ {vs : List V} {ds : List PyData} {i : Nat} {v : V}, RpA H vs ds → vs[i]? = some v → ∃ d, ds[i]? = some d ∧ Rp H v d
  | _, _, _, _, .nil, e => by simp at e
  | _, _, 0, _, .cons h _, e => by simp at e; subst e; exact ⟨_, rfl, h⟩
  | _, _, i + 1, _, .cons _ r, e => by
    obtain ⟨v, h1, h2⟩ := RpA.getV (i := i) r (by simpa using e)
    exact ⟨v, by simpa using h1, h2⟩
theorem RpA.app {H : Hp} : ∀ {vs ws : List V} {ds es : List PyData}, RpA H vs ds → RpA H ws es → RpA H (vs ++ ws) (ds ++ es)
  | _, _, _, _, .nil, q => q
  | _, _, _, _, .cons h r, q => .cons h (RpA.app r q)
theorem RpA.drop {H : Hp} : ∀ (n : Nat) {vs : List V} {ds : List PyData}, RpA H vs ds → RpA H (vs.drop n) (ds.drop n)
  | 0, _, _, r => r
  | _ + 1, _, _, .nil => .nil
  | n + 1, _, _, .cons _ r => RpA.drop n r
theorem RpA.take {H : Hp} : ∀ (n : Nat) {vs : List V} {ds : List PyData}, RpA H vs ds → RpA H (vs.take n) (ds.take n)
  | 0, _, _, _ => .nil
  | _ + 1, _, _, .nil => .nil
  | n + 1, _, _, .cons h r => .cons h (RpA.take n r)
theorem RpA.set {H : Hp} {v : V} {d : PyData} (h : Rp H v d) : ∀ (n : Nat) {vs : List V} {ds : List PyData}, RpA H vs ds → RpA H (vs.set n v) (ds.set n d)
  | _, _, _, .nil => .nil
  | 0, _, _, .cons _ r => .cons h r
  | n + 1, _, _, .cons q r => .cons q (RpA.set h n r)
theorem RpA.ints {H : Hp} : ∀ {vs : List V} {ns : List Int}, RpA H vs (ns.map PyData.int) → vs = ns.map V.int
  | _, [], h => by cases h; rfl
  | _, n :: ns, h => by
    cases h with
    | cons h r => cases h; rw [RpA.ints r]; rfl
theorem RpA.ofInts {H : Hp} : ∀ (ns : List Int), RpA H (ns.map V.int) (ns.map PyData.int)
  | [] => .nil
  | n :: ns => .cons (.int n) (RpA.ofInts ns)
theorem RpA.bools {H : Hp} : ∀ {vs : List V} {ns : List Bool}, RpA H vs (ns.map PyData.bool) → vs = ns.map V.bl
  | _, [], h => by cases h; rfl
  | _, n :: ns, h => by
    cases h with
    | cons h r => cases h; rw [RpA.bools r]; rfl

/-! ### typed data -/
class Em (α : Type) where
  em : α → PyData
abbrev em {α : Type} [Em α] (x : α) : PyData := Em.em x
structure T3 (α β γ : Type) where
  a : α
  b : β
  c : γ
deriving DecidableEq
structure T4 (α β γ δ : Type) where
  a : α
  b : β
  c : γ
  d : δ
deriving DecidableEq
instance : Em Int := ⟨.int⟩
instance : Em Bool := ⟨.bool⟩
instance : Em Str := ⟨.str⟩
instance : Em Unit := ⟨fun _ => .none⟩
instance : Em PyData := ⟨id⟩
instance {α : Type} [Em α] : Em (List α) := ⟨fun xs => .list (xs.map em)⟩
instance {α β : Type} [Em α] [Em β] : Em (α × β) := ⟨fun x => .tuple [em x.1, em x.2]⟩
instance {α β γ : Type} [Em α] [Em β] [Em γ] : Em (T3 α β γ) := ⟨fun x => .tuple [em x.a, em x.b, em x.c]⟩
instance {α β γ δ : Type} [Em α] [Em β] [Em γ] [Em δ] : Em (T4 α β γ δ) := ⟨fun x => .tuple [em x.a, em x.b, em x.c, em x.d]⟩
/-- a thing or None -/
instance {α : Type} [Em α] : Em (Option α) := ⟨fun x => match x with | none => .none | some y => em y⟩

/-- the data that == may be asked of -/
class Shp (α : Type) [Em α] where
  dep : Nat
  lay : ∀ x : α, (em x).canLay0 = true
  le : ∀ x : α, (em x).depth ≤ dep
instance : Shp Int := ⟨0, fun x => show PyData.canLay0 (.int x) = true by simp [PyData.canLay0], fun x => show PyData.depth (.int x) ≤ 0 by simp [PyData.depth]⟩
instance : Shp Bool := ⟨0, fun x => show PyData.canLay0 (.bool x) = true by simp [PyData.canLay0], fun x => show PyData.depth (.bool x) ≤ 0 by simp [PyData.depth]⟩
instance : Shp Unit := ⟨0, fun x => show PyData.canLay0 .none = true by simp [PyData.canLay0], fun x => show PyData.depth .none ≤ 0 by simp [PyData.depth]⟩
theorem layAll {α : Type} [Em α] [Shp α] : ∀ xs : List α, PyData.canLayAll0 (xs.map em) = true
  | [] => by simp [PyData.canLayAll0]
  | x :: xs => by
    have h1 := Shp.lay x
    have h2 := layAll xs
    simp only [List.map_cons, PyData.canLayAll0]
    rw [h2]
    simpa using h1
theorem depAll {α : Type} [Em α] [Shp α] : ∀ xs : List α, PyData.depthAll (xs.map em) ≤ Shp.dep α
  | [] => by simp [PyData.depthAll]
  | x :: xs => by
    have h1 := depAll xs
    have h2 := Shp.le x
    simp only [List.map_cons, PyData.depthAll]
    exact Nat.max_le.mpr ⟨h2, h1⟩
instance {α : Type} [Em α] [Shp α] : Shp (List α) := ⟨Shp.dep α + 1, fun xs => by
  show PyData.canLay0 (.list (xs.map em)) = true
  simp only [PyData.canLay0]; exact layAll xs, fun xs => by
  show PyData.depth (.list (xs.map em)) ≤ _
  have := depAll xs
  simp only [PyData.depth]
  omega⟩
theorem lay_tup {ds : List PyData} (h : ∀ d ∈ ds, d.canLay0 = true) : PyData.canLay0 (.tuple ds) = true := by
  simp only [PyData.canLay0]
  induction ds with
  | nil => simp [PyData.canLayAll0]
  | cons d ds ih =>
    simp only [PyData.canLayAll0]
    rw [h d (by simp), ih fun e he => h e (by simp [he])]
    rfl
theorem dep_tup {n : Nat} {ds : List PyData} (h : ∀ d ∈ ds, d.depth ≤ n) : PyData.depth (.tuple ds) ≤ n + 1 := by
  have : PyData.depthAll ds ≤ n := by
    induction ds with
    | nil => simp [PyData.depthAll]
    | cons d ds ih =>
      simp only [PyData.depthAll]
      exact Nat.max_le.mpr ⟨h d (by simp), ih fun e he => h e (by simp [he])⟩
  simp only [PyData.depth]
  omega
instance {α β : Type} [Em α] [Shp α] [Em β] [Shp β] : Shp (α × β) := ⟨max (Shp.dep α) (Shp.dep β) + 1, fun x => lay_tup fun d hd => by
  rcases List.mem_cons.mp hd with rfl | hd
  · exact Shp.lay x.1
  rcases List.mem_cons.mp hd with rfl | hd
  · exact Shp.lay x.2
  exact absurd hd List.not_mem_nil, fun x => dep_tup fun d hd => by
  rcases List.mem_cons.mp hd with rfl | hd
  · exact Nat.le_trans (Shp.le x.1) (by omega)
  rcases List.mem_cons.mp hd with rfl | hd
  · exact Nat.le_trans (Shp.le x.2) (by omega)
  exact absurd hd List.not_mem_nil⟩
instance {α β γ : Type} [Em α] [Shp α] [Em β] [Shp β] [Em γ] [Shp γ] : Shp (T3 α β γ) := ⟨max (Shp.dep α) (max (Shp.dep β) (Shp.dep γ)) + 1, fun x => lay_tup fun d hd => by
  rcases List.mem_cons.mp hd with rfl | hd
  · exact Shp.lay x.a
  rcases List.mem_cons.mp hd with rfl | hd
  · exact Shp.lay x.b
  rcases List.mem_cons.mp hd with rfl | hd
  · exact Shp.lay x.c
  exact absurd hd List.not_mem_nil, fun x => dep_tup fun d hd => by
  rcases List.mem_cons.mp hd with rfl | hd
  · exact Nat.le_trans (Shp.le x.a) (by omega)
  rcases List.mem_cons.mp hd with rfl | hd
  · exact Nat.le_trans (Shp.le x.b) (by omega)
  rcases List.mem_cons.mp hd with rfl | hd
  · exact Nat.le_trans (Shp.le x.c) (by omega)
  exact absurd hd List.not_mem_nil⟩
instance {α β γ δ : Type} [Em α] [Shp α] [Em β] [Shp β] [Em γ] [Shp γ] [Em δ] [Shp δ] : Shp (T4 α β γ δ) := ⟨max (max (Shp.dep α) (Shp.dep β)) (max (Shp.dep γ) (Shp.dep δ)) + 1, fun x => lay_tup fun d hd => by
  rcases List.mem_cons.mp hd with rfl | hd
  · exact Shp.lay x.a
  rcases List.mem_cons.mp hd with rfl | hd
  · exact Shp.lay x.b
  rcases List.mem_cons.mp hd with rfl | hd
  · exact Shp.lay x.c
  rcases List.mem_cons.mp hd with rfl | hd
  · exact Shp.lay x.d
  exact absurd hd List.not_mem_nil, fun x => dep_tup fun d hd => by
  rcases List.mem_cons.mp hd with rfl | hd
  · exact Nat.le_trans (Shp.le x.a) (by omega)
  rcases List.mem_cons.mp hd with rfl | hd
  · exact Nat.le_trans (Shp.le x.b) (by omega)
  rcases List.mem_cons.mp hd with rfl | hd
  · exact Nat.le_trans (Shp.le x.c) (by omega)
  rcases List.mem_cons.mp hd with rfl | hd
  · exact Nat.le_trans (Shp.le x.d) (by omega)
  exact absurd hd List.not_mem_nil⟩
instance {α : Type} [Em α] [Shp α] : Shp (Option α) := ⟨Shp.dep α, fun x => by
  cases x with
  | none => show PyData.canLay0 .none = true; simp [PyData.canLay0]
  | some y => exact Shp.lay y, fun x => by
  cases x with
  | none => show PyData.depth .none ≤ _; simp [PyData.depth]
  | some y => exact Shp.le y⟩
theorem shaped_em {α : Type} [Em α] [Shp α] (h : Shp.dep α ≤ 64) (x : α) : SeqAt.shaped (em x) = true := by
  show ((em x).canLay0 && decide ((em x).depth ≤ 64)) = true
  rw [Bool.and_eq_true]
  exact ⟨Shp.lay x, decide_eq_true (Nat.le_trans (Shp.le x) h)⟩

/-- data that stand at no address -/
class Scl (α : Type) [Em α] : Prop where
  any : ∀ (x : α) (H H' : Hp) (v : V), Rp H v (em x) → Rp H' v (em x)
instance : Scl Int := ⟨fun _ _ _ _ h => by cases h; exact .int _⟩
instance : Scl Bool := ⟨fun _ _ _ _ h => by cases h; exact .bl _⟩
instance : Scl Str := ⟨fun _ _ _ _ h => by cases h; exact .str _⟩
instance : Scl Unit := ⟨fun _ _ _ _ h => by cases h; exact .non⟩
instance {α : Type} [Em α] [Scl α] : Scl (Option α) := ⟨fun x H H' v h => by
  cases x with
  | none =>
    have h : Rp H v .none := h
    cases h
    exact .non
  | some y => exact Scl.any y H H' v h⟩
theorem rp_int {H : Hp} {v : V} {i : Int} (h : Rp H v (em i)) : v = .int i := by
  have h : Rp H v (.int i) := h
  cases h; rfl
theorem rp_bool {H : Hp} {v : V} {i : Bool} (h : Rp H v (em i)) : v = .bl i := by
  have h : Rp H v (.bool i) := h
  cases h; rfl
theorem rp_str {H : Hp} {v : V} {i : Str} (h : Rp H v (em i)) : v = .str i := by
  have h : Rp H v (.str i) := h
  cases h; rfl
theorem rp_unit {H : Hp} {v : V} {i : Unit} (h : Rp H v (em i)) : v = .non := by
  have h : Rp H v .none := h
  cases h; rfl
theorem rp_list {α : Type} [Em α] {H : Hp} {v : V} {xs : List α} (h : Rp H v (em xs)) : ∃ p vs, v = .ref p ∧ H p = some (.lst vs) ∧ RpA H vs (xs.map em) := by
  have h : Rp H v (.list (xs.map em)) := h
  cases h with
  | lst h1 r => exact ⟨_, _, rfl, h1, r⟩
theorem rp_pair {α β : Type} [Em α] [Em β] {H : Hp} {v : V} {x : α × β} (h : Rp H v (em x)) : ∃ p a b, v = .ref p ∧ H p = some (.tup [a, b]) ∧ Rp H a (em x.1) ∧ Rp H b (em x.2) := by
  have h : Rp H v (.tuple [em x.1, em x.2]) := h
  cases h with
  | tup h r =>
    cases r with
    | cons h1 r =>
      cases r with
      | cons h2 r => cases r; exact ⟨_, _, _, rfl, h, h1, h2⟩
theorem rp_t3 {α β γ : Type} [Em α] [Em β] [Em γ] {H : Hp} {v : V} {x : T3 α β γ} (h : Rp H v (em x)) : ∃ p a b c, v = .ref p ∧ H p = some (.tup [a, b, c]) ∧ Rp H a (em x.a) ∧ Rp H b (em x.b) ∧ Rp H c (em x.c) := by
  have h : Rp H v (.tuple [em x.a, em x.b, em x.c]) := h
  cases h with
  | tup h r =>
    cases r with
    | cons h1 r =>
      cases r with
      | cons h2 r =>
        cases r with
        | cons h3 r => cases r; exact ⟨_, _, _, _, rfl, h, h1, h2, h3⟩
theorem rp_t4 {α β γ δ : Type} [Em α] [Em β] [Em γ] [Em δ] {H : Hp} {v : V} {x : T4 α β γ δ} (h : Rp H v (em x)) : ∃ p a b c d, v = .ref p ∧ H p = some (.tup [a, b, c, d]) ∧ Rp H a (em x.a) ∧ Rp H b (em x.b) ∧ Rp H c (em x.c) ∧ Rp H d (em x.d) := by
  have h : Rp H v (.tuple [em x.a, em x.b, em x.c, em x.d]) := h
  cases h with
  | tup h r =>
    cases r with
    | cons h1 r =>
      cases r with
      | cons h2 r =>
        cases r with
        | cons h3 r =>
          cases r with
          | cons h4 r => cases r; exact ⟨_, _, _, _, _, rfl, h, h1, h2, h3, h4⟩

/-! ### dicts -/
/-- the pairs of a dict whose values are data at F -/
inductive KvR {κ : Type} (F : Hp) : List (κ × V) → List (κ × PyData) → Prop
  | nil : KvR F [] []
  | cons {k : κ} {v : V} {d : PyData} {xs : List (κ × V)} {ys : List (κ × PyData)} : Rp F v d → KvR F xs ys → KvR F ((k, v) :: xs) ((k, d) :: ys)
theorem KvR.mono {κ : Type} {F F' : Hp} (s : Same F F') : ∀ {xs : List (κ × V)} {ys : List (κ × PyData)}, KvR F xs ys → KvR F' xs ys
  | _, _, .nil => .nil
  | _, _, .cons h r => .cons (h.mono s) (KvR.mono s r)
/-- as it stands at an address: keys are whole numbers | pairs of these -/
def diO (kv : List (Int × V)) : HO := .dK (kv.map fun x => (Sum.inl x.1, x.2))
def dpO (kv : List ((Int × Int) × V)) : HO := .dT (kv.map fun x => ([Sum.inl x.1.1, Sum.inl x.1.2], x.2))

/-! ### slots, the environment -/
/-- val: in the frozen part; rd: in what stood at the entry; scr: the script; own: a list of this frame's own; res: anything with a footprint -/
structure Rs where
  h : Hp → Hp → V → (Addr → Prop) → Prop
  mono : ∀ {F H F' H' : Hp} {v : V} {M : Addr → Prop}, Same F F' → (∀ a o, M a → H a = some o → H' a = some o) → Same F H → Same F' H' → h F H v M → h F' H' v M
inductive Sl where
  | no
  | val (d : PyData)
  | rd (d : PyData)
  | scr (ns : List Int)
  | own (ds : List PyData)
  | di (kvs : List (Int × PyData))
  | dp (kvs : List ((Int × Int) × PyData))
  | rdi (kvs : List (Int × PyData))
  | rdp (kvs : List ((Int × Int) × PyData))
  | res (R : Rs)

def hold (K : PySem.W.Frag) (B F H : Hp) : Sl → Option (Option V) → (Addr → Prop) → Prop
  | .no, _, _ => True
  | .val d, s, _ => ∃ v, s = some (some v) ∧ Rp F v d
  | .rd d, s, _ => ∃ v, s = some (some v) ∧ Rp B v d
  | .scr ns, s, _ => ∃ a, s = some (some (.ref a)) ∧ SqL K B a (ns.map V.int)
  | .own ds, s, M => ∃ p vs, s = some (some (.ref p)) ∧ H p = some (.lst vs) ∧ RpA F vs ds ∧ M p
  | .di kvs, s, M => ∃ p kv, s = some (some (.ref p)) ∧ H p = some (diO kv) ∧ KvR F kv kvs ∧ M p
  | .dp kvs, s, M => ∃ p kv, s = some (some (.ref p)) ∧ H p = some (dpO kv) ∧ KvR F kv kvs ∧ M p
  | .rdi kvs, s, _ => ∃ p kv, s = some (some (.ref p)) ∧ B p = some (diO kv) ∧ KvR B kv kvs
  | .rdp kvs, s, _ => ∃ p kv, s = some (some (.ref p)) ∧ B p = some (dpO kv) ∧ KvR B kv kvs
  | .res R, s, M => ∃ v, s = some (some v) ∧ R.h F H v M

structure Env (K : PySem.W.Frag) (B F : Hp) (M : Addr → Prop) (H : Hp) (σ : L2.St) (ds : List Sl) : Prop where
  len : σ.length = ds.length
  sB : Same B H
  sF : Same F H
  mB : ∀ a, M a → B a = none
  mF : ∀ a, M a → F a = none
  mH : ∀ a, M a → H a ≠ none
  mT : ∀ a xs, M a → H a ≠ some (.tup xs)
  ft : ∃ foot : Nat → Addr → Prop, (∀ i a, foot i a → M a) ∧ (∀ i j a, foot i a → foot j a → i = j) ∧ ∀ i, hold K B F H (ds[i]?.getD .no) (σ[i]?) (foot i)

/-- a tuple stands there -/
def IsTp (H : Hp) (a : Addr) : Prop := ∃ xs, H a = some (.tup xs)
/-- the heap has grown; what is frozen anew is new, or a tuple -/
structure Ext (F H F' H' : Hp) : Prop where
  sF : Same F F'
  sH : Same H H'
  sub : Same F' H'
  new : ∀ a, F' a ≠ none → F a ≠ none ∨ (H a = none ∨ IsTp H a)
theorem Ext.refl {F H : Hp} (s : Same F H) : Ext F H F H := ⟨Same.refl _, Same.refl _, s, fun _ h => .inl h⟩
theorem none_of_same {H H' : Hp} (s : Same H H') {a : Addr} (h : H' a = none) : H a = none := by
  cases e : H a with
  | none => rfl
  | some o => rw [s a o e] at h; cases h
theorem some_of_same {H H' : Hp} (s : Same H H') {a : Addr} (h : H a ≠ none) : H' a ≠ none := fun e => h (none_of_same s e)
theorem Ext.trans {F H F1 H1 F2 H2 : Hp} (x : Ext F H F1 H1) (y : Ext F1 H1 F2 H2) : Ext F H F2 H2 :=
  ⟨x.sF.trans y.sF, x.sH.trans y.sH, y.sub, fun a h => by
    rcases y.new a h with h | h | ⟨ts, h⟩
    · exact x.new a h
    · exact .inr (.inl (none_of_same x.sH h))
    · cases e : H a with
      | none => exact .inr (.inl rfl)
      | some o =>
        have := x.sH a o e
        rw [h] at this
        cases this
        exact .inr (.inr ⟨ts, e⟩)⟩
theorem same_upd {H : Hp} {p : Addr} {o : HO} (h : H p = none) : Same H (upd H p o) := fun b u e => by
  rw [upd_ne (ne_of_none e h)]; exact e
theorem same_upd2 {H H' : Hp} {p : Addr} {o : HO} (s : Same H H') (h : H p = none) : Same H (upd H' p o) := fun b u e => by
  rw [upd_ne (ne_of_none e h)]; exact s b u e
/-- a new object, frozen at once -/
theorem Ext.new1 {F H : Hp} (s : Same F H) {p : Addr} {o : HO} (h : H p = none) : Ext F H (upd F p o) (upd H p o) := by
  have hF := none_of_same s h
  refine ⟨same_upd hF, same_upd h, fun b u e => ?_, fun a e => ?_⟩
  · unfold L2.upd at e ⊢
    split at e
    · rename_i hb; rw [if_pos hb]; exact e
    · rename_i hb; rw [if_neg hb]; exact s b u e
  · by_cases hb : a = p
    · subst hb; exact .inr (.inl h)
    · rw [upd_ne hb] at e; exact .inl e
/-- a new object, not frozen -/
theorem Ext.new0 {F H : Hp} (s : Same F H) {p : Addr} {o : HO} (h : H p = none) : Ext F H F (upd H p o) :=
  ⟨Same.refl _, same_upd h, same_upd2 s (none_of_same s h), fun _ e => .inl e⟩

section
variable {K : PySem.W.Frag} {B F H F' H' : Hp} {M : Addr → Prop} {σ : L2.St} {ds : List Sl}
theorem hold.mono {d : Sl} {s : Option (Option V)} {m : Addr → Prop} (sF : Same F F') (kp : ∀ a o, m a → H a = some o → H' a = some o) (s1 : Same F H) (s2 : Same F' H') (h : hold K B F H d s m) : hold K B F' H' d s m := by
  cases d with
  | no => trivial
  | val d => obtain ⟨v, e, r⟩ := h; exact ⟨v, e, r.mono sF⟩
  | rd d => exact h
  | scr ns => exact h
  | own ds => obtain ⟨p, vs, e, hp, r, hm⟩ := h; exact ⟨p, vs, e, kp p _ hm hp, r.mono sF, hm⟩
  | di kvs => obtain ⟨p, vs, e, hp, r, hm⟩ := h; exact ⟨p, vs, e, kp p _ hm hp, r.mono sF, hm⟩
  | dp kvs => obtain ⟨p, vs, e, hp, r, hm⟩ := h; exact ⟨p, vs, e, kp p _ hm hp, r.mono sF, hm⟩
  | rdi kvs => exact h
  | rdp kvs => exact h
  | res R => obtain ⟨v, e, r⟩ := h; exact ⟨v, e, R.mono sF kp s1 s2 r⟩
theorem Env.ext (E : Env K B F M H σ ds) (x : Ext F H F' H') : Env K B F' M H' σ ds := by
  obtain ⟨len, sB, sF, mB, mF, mH, mT, foot, f1, f2, f3⟩ := E
  refine ⟨len, sB.trans x.sH, x.sub, mB, fun a ha => ?_, fun a ha => some_of_same x.sH (mH a ha), fun a xs ha hz => ?_, foot, f1, f2, fun i => (f3 i).mono x.sF (fun a o _ e => x.sH a o e) sF x.sub⟩
  · cases e : F' a with
    | none => rfl
    | some o =>
      rcases x.new a (by rw [e]; exact fun z => nomatch z) with h | h | ⟨ts, h⟩
      · exact absurd (mF a ha) h
      · exact absurd h (mH a ha)
      · exact absurd h (mT a ts ha)
  · cases e : H a with
    | none => exact mH a ha e
    | some o =>
      have := x.sH a o e
      rw [hz] at this
      cases this
      exact mT a xs ha e
theorem Env.at (E : Env K B F M H σ ds) {i : Nat} {s : Sl} (h : ds[i]? = some s) : ∃ m : Addr → Prop, (∀ a, m a → M a) ∧ hold K B F H s (σ[i]?) m := by
  obtain ⟨foot, f1, _, f3⟩ := E.ft
  have := f3 i
  rw [h] at this
  exact ⟨foot i, f1 i, this⟩
theorem getD_set (ds : List Sl) (i j : Nat) (s : Sl) (hi : i < ds.length) : (ds.set i s)[j]?.getD .no = if j = i then s else ds[j]?.getD .no := by
  by_cases h : j = i
  · subst h; rw [List.getElem?_set_self hi, if_pos rfl]; rfl
  · rw [List.getElem?_set_ne (fun e => h e.symm), if_neg h]
/-- a slot is stored: what it owned before is forgotten -/
theorem Env.setv (E : Env K B F M H σ ds) {i : Nat} (hi : i < ds.length) {v : V} {d : PyData} (r : Rp F v d) : Env K B F M H (σ.set i (some v)) (ds.set i (.val d)) := by
  obtain ⟨len, sB, sF, mB, mF, mH, mT, foot, f1, f2, f3⟩ := E
  refine ⟨by rw [List.length_set, List.length_set, len], sB, sF, mB, mF, mH, mT, foot, f1, f2, fun j => ?_⟩
  rw [getD_set ds i j _ hi]
  by_cases h : j = i
  · subst h
    rw [if_pos rfl]
    exact ⟨v, List.getElem?_set_self (by omega), r⟩
  · rw [if_neg h, List.getElem?_set_ne (fun e => h e.symm)]
    exact f3 j
theorem Env.setrd (E : Env K B F M H σ ds) {i : Nat} (hi : i < ds.length) {v : V} {d : PyData} (r : Rp B v d) : Env K B F M H (σ.set i (some v)) (ds.set i (.rd d)) := by
  obtain ⟨len, sB, sF, mB, mF, mH, mT, foot, f1, f2, f3⟩ := E
  refine ⟨by rw [List.length_set, List.length_set, len], sB, sF, mB, mF, mH, mT, foot, f1, f2, fun j => ?_⟩
  rw [getD_set ds i j _ hi]
  by_cases h : j = i
  · subst h
    rw [if_pos rfl]
    exact ⟨v, List.getElem?_set_self (by omega), r⟩
  · rw [if_neg h, List.getElem?_set_ne (fun e => h e.symm)]
    exact f3 j
/-- a new own list is stored -/
theorem Env.setown (E : Env K B F M H σ ds) {i : Nat} (hi : i < ds.length) {p : Addr} {vs : List V} {es : List PyData} (hB : B p = none) (hF : F p = none) (hM : ¬ M p) (hp : H p = some (.lst vs)) (r : RpA F vs es) :
    Env K B F (fun a => M a ∨ a = p) H (σ.set i (some (.ref p))) (ds.set i (.own es)) := by
  obtain ⟨len, sB, sF, mB, mF, mH, mT, foot, f1, f2, f3⟩ := E
  refine ⟨by rw [List.length_set, List.length_set, len], sB, sF, fun a ha => ?_, fun a ha => ?_, fun a ha => ?_, fun a xs ha => ?_, fun j a => if j = i then a = p else foot j a, fun j a ha => ?_, fun j k a h1 h2 => ?_, fun j => ?_⟩
  · rcases ha with ha | rfl
    · exact mB a ha
    · exact hB
  · rcases ha with ha | rfl
    · exact mF a ha
    · exact hF
  · rcases ha with ha | rfl
    · exact mH a ha
    · rw [hp]; exact fun z => nomatch z
  · rcases ha with ha | rfl
    · exact mT a xs ha
    · rw [hp]; exact fun z => nomatch z
  · by_cases h : j = i
    · simp only [if_pos h] at ha; exact .inr ha
    · simp only [if_neg h] at ha; exact .inl (f1 j a ha)
  · by_cases hj : j = i
    · by_cases hk : k = i
      · rw [hj, hk]
      · simp only [if_pos hj] at h1
        simp only [if_neg hk] at h2
        exact absurd (h1 ▸ f1 k a h2) hM
    · by_cases hk : k = i
      · simp only [if_neg hj] at h1
        simp only [if_pos hk] at h2
        exact absurd (h2 ▸ f1 j a h1) hM
      · simp only [if_neg hj] at h1
        simp only [if_neg hk] at h2
        exact f2 j k a h1 h2
  · rw [getD_set ds i j _ hi]
    by_cases h : j = i
    · subst h
      rw [if_pos rfl]
      exact ⟨p, vs, List.getElem?_set_self (by omega), hp, r, by simp⟩
    · rw [if_neg h, List.getElem?_set_ne (fun e => h e.symm)]
      have := f3 j
      show hold K B F H _ _ (fun a => if j = i then a = p else foot j a)
      simp only [if_neg h]
      exact this
/-- some slots are forgotten -/
inductive Le : List Sl → List Sl → Prop
  | nil : Le [] []
  | same {s : Sl} {xs ys : List Sl} : Le xs ys → Le (s :: xs) (s :: ys)
  | drop {s : Sl} {xs ys : List Sl} : Le xs ys → Le (s :: xs) (.no :: ys)
theorem Le.len : ∀ {xs ys : List Sl}, Le xs ys → xs.length = ys.length
  | _, _, .nil => rfl
  | _, _, .same h => by simp [h.len]
  | _, _, .drop h => by simp [h.len]
theorem Le.refl : ∀ (xs : List Sl), Le xs xs
  | [] => .nil
  | _ :: xs => .same (Le.refl xs)
theorem Le.at : ∀ {xs ys : List Sl}, Le xs ys → ∀ i : Nat, ys[i]?.getD Sl.no = Sl.no ∨ ys[i]?.getD Sl.no = xs[i]?.getD Sl.no
  | _, _, .nil, _ => .inl rfl
  | _, _, .same _, 0 => .inr rfl
  | _, _, .drop _, 0 => .inl rfl
  | _, _, .same h, i + 1 => by simpa using h.at i
  | _, _, .drop h, i + 1 => by simpa using h.at i
theorem Env.le (E : Env K B F M H σ ds) {es : List Sl} (l : Le ds es) : Env K B F M H σ es := by
  obtain ⟨len, sB, sF, mB, mF, mH, mT, foot, f1, f2, f3⟩ := E
  refine ⟨by rw [len, l.len], sB, sF, mB, mF, mH, mT, foot, f1, f2, fun i => ?_⟩
  rcases l.at i with e | e
  · rw [e]; trivial
  · rw [e]; exact f3 i
end

/-! ### expressions -/
inductive Md | f | b | h
def hp (m : Md) (B F H : Hp) : Hp := match m with | .f => F | .b => B | .h => H
def Ev (K : PySem.W.Frag) (ds : List Sl) (m : Md) (te : TE) (d : PyData) : Prop :=
  ∀ B F M H σ Q, Env K B F M H σ ds → (∀ v F' H', Ext F H F' H' → Rp (hp m B F' H') v d → Q v H') → te σ H Q
def EvO (K : PySem.W.Frag) (ds : List Sl) (m : Md) (te : TE) {α : Type} [Em α] (o : Option α) : Prop := ∀ x, o = some x → Ev K ds m te (em x)
/-- a new list -/
def EvL (K : PySem.W.Frag) (ds : List Sl) (te : TE) {α : Type} [Em α] (o : Option (List α)) : Prop := ∀ xs, o = some xs →
  ∀ B F M H σ Q, Env K B F M H σ ds → (∀ p vs F' H', Ext F H F' H' → F' p = none → H p = none → H' p = some (.lst vs) → RpA F' vs (xs.map em) → Q (.ref p) H') → te σ H Q
def EvT (K : PySem.W.Frag) (ds : List Sl) (tt : TT) (o : Option Bool) : Prop := ∀ b, o = some b →
  ∀ B F M H σ (Q : Bool → Hp → Prop), Env K B F M H σ ds → (∀ F' H', Ext F H F' H' → Q b H') → tt σ H Q
/-- n items of one type -/
def EvI (K : PySem.W.Frag) (ds : List Sl) (n : Nat) (ta : TA) {α : Type} [Em α] (o : Option (List α)) : Prop := ∀ xs, o = some xs → xs.length = n ∧
  ∀ B F M H σ Q, Env K B F M H σ ds → (∀ vs F' H', Ext F H F' H' → RpA F' vs (xs.map em) → Q vs H') → ta σ H Q

def obin {α β γ : Type} (f : α → β → Option γ) (a : Option α) (b : Option β) : Option γ := a.bind fun x => b.bind fun y => f x y
theorem obin_some {α β γ : Type} {f : α → β → Option γ} {a : Option α} {b : Option β} {z : γ} (h : obin f a b = some z) : ∃ x y, a = some x ∧ b = some y ∧ f x y = some z := by
  cases a with
  | none => cases h
  | some x =>
    cases b with
    | none => cases h
    | some y => exact ⟨x, y, rfl, rfl, h⟩
theorem bind_some' {α β : Type} {o : Option α} {f : α → Option β} {z : β} (h : o.bind f = some z) : ∃ x, o = some x ∧ f x = some z := by
  cases o with
  | none => cases h
  | some x => exact ⟨x, rfl, h⟩

section
variable {K : PySem.W.Frag} {ds : List Sl} {ta tb tc te : TE} {m m1 m2 m3 : Md} {α β γ δ : Type} [Em α] [Em β] [Em γ] [Em δ]
theorem hp_mono {m : Md} {B F H F' H' : Hp} (x : Ext F H F' H') : Same (hp m B F H) (hp m B F' H') := by
  cases m with
  | f => exact x.sF
  | b => exact Same.refl _
  | h => exact x.sH
theorem hp_H {m : Md} {B F M H σ} (E : Env K B F M H σ ds) : Same (hp m B F H) H := by
  cases m with
  | f => exact E.sF
  | b => exact E.sB
  | h => exact Same.refl _
theorem ev_val {i : Nat} (x : α) (h : ds[i]? = some (.val (em x))) : EvO K ds .f (tVar i) (some x) := by
  intro y hy B F M H σ Q E q
  cases hy
  obtain ⟨m, _, v, e, r⟩ := E.at h
  exact ⟨v, e, q v F H (Ext.refl E.sF) r⟩
theorem ev_rd {i : Nat} (x : α) (h : ds[i]? = some (.rd (em x))) : EvO K ds .b (tVar i) (some x) := by
  intro y hy B F M H σ Q E q
  cases hy
  obtain ⟨m, _, v, e, r⟩ := E.at h
  exact ⟨v, e, q v F H (Ext.refl E.sF) r⟩
theorem ev_own {i : Nat} (xs : List α) (h : ds[i]? = some (.own (xs.map em))) : EvO K ds .h (tVar i) (some xs) := by
  intro y hy B F M H σ Q E q
  cases hy
  obtain ⟨m, _, p, vs, e, hp, r, _⟩ := E.at h
  exact ⟨.ref p, e, q _ F H (Ext.refl E.sF) (.lst hp (r.mono E.sF))⟩
theorem ev_sc [Scl α] {o : Option α} (h : EvO K ds m te o) : EvO K ds .f te o := fun x hx B F M H σ Q E q =>
  h x hx B F M H σ Q E fun v F' H' e r => q v F' H' e (Scl.any x _ _ v r)
theorem ev_h {o : Option α} (h : EvO K ds m te o) : EvO K ds .h te o := fun x hx B F M H σ Q E q =>
  h x hx B F M H σ Q E fun v F' H' e r => q v F' H' e (r.mono (hp_H (E.ext e)))
theorem Ext.froze {F H F' H' : Hp} (e : Ext F H F' H') {p : Addr} {o : HO} (h1 : F' p = none) (h2 : H p = none) (h3 : H' p = some o) : Ext F H (upd F' p o) H' := by
  refine ⟨e.sF.trans (same_upd h1), e.sH, fun b u z => ?_, fun a z => ?_⟩
  · unfold L2.upd at z
    split at z
    · rename_i hb; rw [hb, h3]; exact z
    · exact e.sub b u z
  · by_cases hb : a = p
    · rw [hb]; exact .inr (.inl h2)
    · rw [upd_ne hb] at z; exact e.new a z
/-- the frozen part, with all tuples -/
def tupF (F H : Hp) : Hp := fun a => match F a with
  | some o => some o
  | none => match H a with
    | some (.tup xs) => some (.tup xs)
    | _ => none
theorem tupF_ext {F H : Hp} (s : Same F H) : Ext F H (tupF F H) H := by
  refine ⟨fun a o e => by unfold tupF; rw [e], Same.refl _, fun a o e => ?_, fun a e => ?_⟩
  · unfold tupF at e
    cases hf : F a with
    | some u => rw [hf] at e; cases e; exact s a _ hf
    | none =>
      rw [hf] at e
      simp only at e
      split at e
      · rename_i xs hx; cases e; exact hx
      · cases e
  · unfold tupF at e
    cases hf : F a with
    | some u => exact .inl (fun z => nomatch z)
    | none =>
      rw [hf] at e
      simp only at e
      split at e
      · rename_i xs hx; exact .inr (.inr ⟨xs, hx⟩)
      · exact absurd rfl e
theorem tupF_at {F H : Hp} (s : Same F H) {a : Addr} {xs : List V} (h : H a = some (.tup xs)) : tupF F H a = some (.tup xs) := by
  unfold tupF
  cases hf : F a with
  | some u => simp only; rw [← h]; exact (s a u hf).symm
  | none => simp only [h]
theorem ev_L {o : Option (List α)} (h : EvL K ds te o) : EvO K ds .f te o := fun xs hx B F M H σ Q E q =>
  h xs hx B F M H σ Q E fun p vs F' H' e h1 h2 h3 r => q _ _ _ (e.froze h1 h2 h3) (.lst upd_same (r.mono (same_upd h1)))
theorem ev_c_int (i : Int) : EvO K ds .f (tC (.int i)) (some i) := fun x hx B F M H σ Q E q => by
  cases hx; exact q _ F H (Ext.refl E.sF) (.int i)
theorem ev_c_bl (i : Bool) : EvO K ds .f (tC (.bl i)) (some i) := fun x hx B F M H σ Q E q => by
  cases hx; exact q _ F H (Ext.refl E.sF) (.bl i)
theorem ev_c_str (i : Str) : EvO K ds .f (tC (.str i)) (some i) := fun x hx B F M H σ Q E q => by
  cases hx; exact q _ F H (Ext.refl E.sF) (.str i)
theorem ev_c_non : EvO K ds .f (tC .non) (some ()) := fun x hx B F M H σ Q E q => by
  cases hx; exact q _ F H (Ext.refl E.sF) .non
/-- None in the place of a thing -/
theorem ev_none {α : Type} [Em α] (h : EvO K ds m te (some ())) : EvO K ds m te (some (none : Option α)) := fun x hx => by
  cases hx; exact h () rfl
theorem ev_some {o : Option α} (h : EvO K ds m te o) : EvO K ds m te (o.map some) := fun x hx => by
  cases o with
  | none => cases hx
  | some y => cases hx; exact h y rfl

/-- two parts, one behind the other -/
theorem ev2 {o1 : Option α} {o2 : Option β} {x : α} {y : β} (h1 : EvO K ds m1 ta o1) (h2 : EvO K ds m2 tb o2) (e1 : o1 = some x) (e2 : o2 = some y) {B F M H σ} {Q : V → V → Hp → Prop} (E : Env K B F M H σ ds)
    (q : ∀ v w F' H', Ext F H F' H' → Rp (hp m1 B F' H') v (em x) → Rp (hp m2 B F' H') w (em y) → Q v w H') : ta σ H fun v H1 => tb σ H1 fun w H2 => Q v w H2 :=
  h1 x e1 B F M H σ _ E fun v F1 H1 x1 r1 => h2 y e2 B F1 M H1 σ _ (E.ext x1) fun w F2 H2 x2 r2 => q v w F2 H2 (x1.trans x2) (r1.mono (hp_mono x2)) r2
/-- an operator upon two numbers that asks nothing -/
theorem ev_ii0 {g : Int → Int → V} {k : Int → Int → γ} {o1 o2 : Option Int} (hg : ∀ i j H, Rp H (g i j) (em (k i j))) (h1 : EvO K ds m1 ta o1) (h2 : EvO K ds m2 tb o2) : EvO K ds .f (tOp (rI0 g) ta tb) (obin (fun i j => some (k i j)) o1 o2) := by
  intro z hz B F M H σ Q E q
  obtain ⟨i, j, e1, e2, e3⟩ := obin_some hz
  cases e3
  exact ev2 h1 h2 e1 e2 E fun v w F' H' x r1 r2 => ⟨i, j, rp_int r1, rp_int r2, q _ F' H' x (hg i j _)⟩
theorem ev_iiC {C : Int → Int → Prop} {g : Int → Int → V} {k : Int → Int → Option γ} {o1 o2 : Option Int} (hg : ∀ i j z, k i j = some z → C i j ∧ ∀ H, Rp H (g i j) (em z)) (h1 : EvO K ds m1 ta o1) (h2 : EvO K ds m2 tb o2) : EvO K ds .f (tOp (rI C g) ta tb) (obin k o1 o2) := by
  intro z hz B F M H σ Q E q
  obtain ⟨i, j, e1, e2, e3⟩ := obin_some hz
  exact ev2 h1 h2 e1 e2 E fun v w F' H' x r1 r2 => ⟨i, j, rp_int r1, rp_int r2, (hg i j z e3).1, q _ F' H' x ((hg i j z e3).2 _)⟩
end
/-! ### numbers -/
def oadd (a b : Option Int) : Option Int := obin (fun i j => some (i + j)) a b
def osub (a b : Option Int) : Option Int := obin (fun i j => some (i - j)) a b
def fmul (i j : Int) : Option Int := if i.natAbs < 2 ^ 64 ∨ j.natAbs < 2 ^ 64 then some (i * j) else none
def omul (a b : Option Int) : Option Int := obin fmul a b
def fmod (i j : Int) : Option Int := if 0 < j then some (i % j) else none
def omod (a b : Option Int) : Option Int := obin fmod a b
def ffdiv (i j : Int) : Option Int := if 0 < j ∧ j < 1073741824 then some (i / j) else none
def ofdiv (a b : Option Int) : Option Int := obin ffdiv a b
def fpow (i j : Int) : Option Int := if 0 ≤ j ∧ j ≤ 1000000 ∧ i.natAbs < 2 ^ 64 then some (i ^ j.toNat) else none
def opow (a b : Option Int) : Option Int := obin fpow a b
def oneg (a : Option Int) : Option Int := a.map fun i => -i
def olt (a b : Option Int) : Option Bool := obin (fun i j => some (decide (i < j))) a b
def ole (a b : Option Int) : Option Bool := obin (fun i j => some (decide (i ≤ j))) a b
def ogt (a b : Option Int) : Option Bool := obin (fun i j => some (decide (j < i))) a b
def oge (a b : Option Int) : Option Bool := obin (fun i j => some (decide (j ≤ i))) a b
section
variable {K : PySem.W.Frag} {ds : List Sl} {ta tb tc te : TE} {m m1 m2 m3 : Md}
section
variable {o1 o2 : Option Int}
theorem ev_add (h1 : EvO K ds m1 ta o1) (h2 : EvO K ds m2 tb o2) : EvO K ds .f (tOp (rI0 fun i j => .int (i + j)) ta tb) (oadd o1 o2) := ev_ii0 (fun _ _ _ => .int _) h1 h2
theorem ev_sub (h1 : EvO K ds m1 ta o1) (h2 : EvO K ds m2 tb o2) : EvO K ds .f (tOp (rI0 fun i j => .int (i - j)) ta tb) (osub o1 o2) := ev_ii0 (fun _ _ _ => .int _) h1 h2
theorem ev_mul (h1 : EvO K ds m1 ta o1) (h2 : EvO K ds m2 tb o2) : EvO K ds .f (tOp (rI CMul fun i j => .int (i * j)) ta tb) (omul o1 o2) := ev_iiC (fun i j z h => by
  unfold fmul at h
  split at h
  · rename_i c
    cases h
    refine ⟨?_, fun _ => .int _⟩
    rcases c with c | c
    · exact .inl (by omega)
    · exact .inr (by omega)
  · cases h) h1 h2
theorem ev_mod (h1 : EvO K ds m1 ta o1) (h2 : EvO K ds m2 tb o2) : EvO K ds .f (tOp (rI (fun _ j => 0 < j) fun i j => .int (i % j)) ta tb) (omod o1 o2) := ev_iiC (fun i j z h => by
  unfold fmod at h
  split at h
  · cases h; exact ⟨by assumption, fun _ => .int _⟩
  · cases h) h1 h2
theorem ev_fdiv (h1 : EvO K ds m1 ta o1) (h2 : EvO K ds m2 tb o2) : EvO K ds .f (tOp (rI CDiv fun i j => .int (i / j)) ta tb) (ofdiv o1 o2) := ev_iiC (fun i j z h => by
  unfold ffdiv at h
  split at h
  · cases h; exact ⟨by assumption, fun _ => .int _⟩
  · cases h) h1 h2
theorem ev_pow (h1 : EvO K ds m1 ta o1) (h2 : EvO K ds m2 tb o2) : EvO K ds .f (tOp (rI CPow fun i j => .int (i ^ j.toNat)) ta tb) (opow o1 o2) := ev_iiC (fun i j z h => by
  unfold fpow at h
  split at h
  · cases h; exact ⟨by assumption, fun _ => .int _⟩
  · cases h) h1 h2
theorem ev_neg (h1 : EvO K ds m1 ta o1) : EvO K ds .f (tUn (rU fun i => .int (-i)) ta) (oneg o1) := by
  intro z hz B F M H σ Q E q
  cases o1 with
  | none => cases hz
  | some i =>
    cases hz
    exact h1 i rfl B F M H σ _ E fun v F' H' x r => ⟨i, rp_int r, q _ F' H' x (.int _)⟩
theorem ev_lt (h1 : EvO K ds m1 ta o1) (h2 : EvO K ds m2 tb o2) : EvO K ds .f (tOp (rI0 fun i j => .bl (decide (i < j))) ta tb) (olt o1 o2) := ev_ii0 (fun _ _ _ => .bl _) h1 h2
theorem ev_le (h1 : EvO K ds m1 ta o1) (h2 : EvO K ds m2 tb o2) : EvO K ds .f (tOp (rI0 fun i j => .bl (decide (i ≤ j))) ta tb) (ole o1 o2) := ev_ii0 (fun _ _ _ => .bl _) h1 h2
theorem ev_gt (h1 : EvO K ds m1 ta o1) (h2 : EvO K ds m2 tb o2) : EvO K ds .f (tOp (rI0 fun i j => .bl (decide (j < i))) ta tb) (ogt o1 o2) := ev_ii0 (fun _ _ _ => .bl _) h1 h2
theorem ev_ge (h1 : EvO K ds m1 ta o1) (h2 : EvO K ds m2 tb o2) : EvO K ds .f (tOp (rI0 fun i j => .bl (decide (j ≤ i))) ta tb) (oge o1 o2) := ev_ii0 (fun _ _ _ => .bl _) h1 h2
end
/-! ### == by data; of things that are no lists by value -/
def oeqd {α β : Type} [Em α] [Em β] (a : Option α) (b : Option β) : Option Bool := obin (fun x y => some (PyData.eqv (em x) (em y))) a b
def oned {α β : Type} [Em α] [Em β] (a : Option α) (b : Option β) : Option Bool := obin (fun x y => some (!PyData.eqv (em x) (em y))) a b
def oeq {α : Type} [DecidableEq α] (a b : Option α) : Option Bool := obin (fun x y => some (decide (x = y))) a b
def one {α : Type} [DecidableEq α] (a b : Option α) : Option Bool := obin (fun x y => some (!decide (x = y))) a b
def oisN {α : Type} (a : Option (Option α)) : Option Bool := a.map fun x => x.isNone
def onotN {α : Type} (a : Option (Option α)) : Option Bool := a.map fun x => x.isSome
section
variable {α β : Type} [Em α] [Em β]
theorem ev_eqd [Shp α] [Shp β] {o1 : Option α} {o2 : Option β} (l1 : Shp.dep α ≤ 64) (l2 : Shp.dep β ≤ 64) (h1 : EvO K ds m1 ta o1) (h2 : EvO K ds m2 tb o2) : EvO K ds .f (tOp (rEqD K) ta tb) (oeqd o1 o2) := by
  intro z hz B F M H σ Q E q
  obtain ⟨x, y, e1, e2, e3⟩ := obin_some hz
  cases e3
  exact ev2 h1 h2 e1 e2 E fun v w F' H' e r1 r2 => ⟨em x, em y, (r1.mono (hp_H (E.ext e))).dp K, (r2.mono (hp_H (E.ext e))).dp K, shaped_em l1 x, shaped_em l2 y, q _ F' H' e (.bl _)⟩
theorem ev_ned [Shp α] [Shp β] {o1 : Option α} {o2 : Option β} (l1 : Shp.dep α ≤ 64) (l2 : Shp.dep β ≤ 64) (h1 : EvO K ds m1 ta o1) (h2 : EvO K ds m2 tb o2) : EvO K ds .f (tOp (rNeD K) ta tb) (oned o1 o2) := by
  intro z hz B F M H σ Q E q
  obtain ⟨x, y, e1, e2, e3⟩ := obin_some hz
  cases e3
  exact ev2 h1 h2 e1 e2 E fun v w F' H' e r1 r2 => ⟨em x, em y, (r1.mono (hp_H (E.ext e))).dp K, (r2.mono (hp_H (E.ext e))).dp K, shaped_em l1 x, shaped_em l2 y, q _ F' H' e (.bl _)⟩
end
/-- what == of the machine's own values tells -/
class Vq (α : Type) [Em α] [DecidableEq α] : Prop where
  eq : ∀ (x y : α) (H H' : Hp) (v w : V), Rp H v (em x) → Rp H' w (em y) → scal v w = true ∧ decide (v = w) = decide (x = y)
instance : Vq Int := ⟨fun x y H H' v w h1 h2 => by
  cases rp_int h1; cases rp_int h2
  exact ⟨rfl, by simp⟩⟩
instance : Vq Bool := ⟨fun x y H H' v w h1 h2 => by
  cases rp_bool h1; cases rp_bool h2
  exact ⟨rfl, by simp⟩⟩
instance : Vq Str := ⟨fun x y H H' v w h1 h2 => by
  cases rp_str h1; cases rp_str h2
  exact ⟨rfl, by simp⟩⟩
theorem ev_eq {α : Type} [Em α] [DecidableEq α] [Vq α] {o1 o2 : Option α} (h1 : EvO K ds m1 ta o1) (h2 : EvO K ds m2 tb o2) : EvO K ds .f (tOp rEq ta tb) (oeq o1 o2) := by
  intro z hz B F M H σ Q E q
  obtain ⟨x, y, e1, e2, e3⟩ := obin_some hz
  cases e3
  exact ev2 h1 h2 e1 e2 E fun v w F' H' e r1 r2 => ⟨(Vq.eq x y _ _ v w r1 r2).1, by rw [(Vq.eq x y _ _ v w r1 r2).2]; exact q _ F' H' e (.bl _)⟩
theorem ev_ne {α : Type} [Em α] [DecidableEq α] [Vq α] {o1 o2 : Option α} (h1 : EvO K ds m1 ta o1) (h2 : EvO K ds m2 tb o2) : EvO K ds .f (tOp rNe ta tb) (one o1 o2) := by
  intro z hz B F M H σ Q E q
  obtain ⟨x, y, e1, e2, e3⟩ := obin_some hz
  cases e3
  exact ev2 h1 h2 e1 e2 E fun v w F' H' e r1 r2 => ⟨(Vq.eq x y _ _ v w r1 r2).1, by rw [(Vq.eq x y _ _ v w r1 r2).2]; exact q _ F' H' e (.bl _)⟩
/-- a thing that is never None itself -/
class Nn (α : Type) [Em α] : Prop where
  nn : ∀ (x : α) (H : Hp) (v : V), Rp H v (em x) → v ≠ .non
instance : Nn Int := ⟨fun x H v h => by cases rp_int h; exact fun z => nomatch z⟩
instance : Nn Bool := ⟨fun x H v h => by cases rp_bool h; exact fun z => nomatch z⟩
instance : Nn Str := ⟨fun x H v h => by cases rp_str h; exact fun z => nomatch z⟩
instance {α : Type} [Em α] : Nn (List α) := ⟨fun x H v h => by obtain ⟨p, vs, rfl, _⟩ := rp_list h; exact fun z => nomatch z⟩
instance {α β : Type} [Em α] [Em β] : Nn (α × β) := ⟨fun x H v h => by obtain ⟨p, a, b, rfl, _⟩ := rp_pair h; exact fun z => nomatch z⟩
theorem ev_isN {α : Type} [Em α] [Nn α] {o : Option (Option α)} (h : EvO K ds m ta o) {r : V → V → Hp → VK → Prop} (hr : ∀ x H Q, Q (.bl (decide (x = .non))) H → r x .non H Q) : EvO K ds .f (tOp r ta (tC .non)) (oisN o) := by
  intro z hz B F M H σ Q E q
  cases o with
  | none => cases hz
  | some x =>
    cases hz
    refine h x rfl B F M H σ _ E fun v F' H' e r => hr _ _ _ ?_
    have : decide (v = V.non) = x.isNone := by
      cases x with
      | none =>
        have r : Rp _ v .none := r
        cases r; rfl
      | some y => exact decide_eq_false (Nn.nn y _ v r)
    rw [this]
    exact q _ F' H' e (.bl _)
theorem ev_notN {α : Type} [Em α] [Nn α] {o : Option (Option α)} (h : EvO K ds m ta o) {r : V → V → Hp → VK → Prop} (hr : ∀ x H Q, Q (.bl (!decide (x = .non))) H → r x .non H Q) : EvO K ds .f (tOp r ta (tC .non)) (onotN o) := by
  intro z hz B F M H σ Q E q
  cases o with
  | none => cases hz
  | some x =>
    cases hz
    refine h x rfl B F M H σ _ E fun v F' H' e r => hr _ _ _ ?_
    have : (!decide (v = V.non)) = x.isSome := by
      cases x with
      | none =>
        have r : Rp _ v .none := r
        cases r; rfl
      | some y => rw [decide_eq_false (Nn.nn y _ v r)]; rfl
    rw [this]
    exact q _ F' H' e (.bl _)

/-! ### truth -/
def oand (a b : Option Bool) : Option Bool := a.bind fun x => if x then b else some false
def oor (a b : Option Bool) : Option Bool := a.bind fun x => if x then some true else b
def onot (a : Option Bool) : Option Bool := a.map fun x => !x
def oite {α : Type} (c : Option Bool) (a b : Option α) : Option α := c.bind fun x => if x then a else b
theorem Env.q {B F M H σ F' H'} (E : Env K B F M H σ ds) (e : Ext F H F' H') : Env K B F' M H' σ ds := E.ext e
section
variable {t u : TT} {o o1 o2 : Option Bool}
theorem et_test (h : EvO K ds m te o) : EvT K ds (tTest te) o := fun b hb B F M H σ Q E q => h b hb B F M H σ _ E fun v F' H' e r => ⟨b, rp_bool r, q F' H' e⟩
theorem et_B (h : EvO K ds m te o) : EvT K ds (tB te) o := fun b hb B F M H σ Q E q => h b hb B F M H σ _ E fun v F' H' e r => ⟨b, rp_bool r, q F' H' e⟩
theorem et_and (h1 : EvT K ds t o1) (h2 : EvT K ds u o2) : EvT K ds (tAnd t u) (oand o1 o2) := by
  intro b hb B F M H σ Q E q
  obtain ⟨x, e1, e2⟩ := bind_some' hb
  refine h1 x e1 B F M H σ _ E fun F' H' e => ?_
  cases x with
  | false => cases e2; exact q F' H' e
  | true => exact h2 b e2 B F' M H' σ _ (E.ext e) fun F2 H2 e' => q F2 H2 (e.trans e')
theorem et_or (h1 : EvT K ds t o1) (h2 : EvT K ds u o2) : EvT K ds (tOr t u) (oor o1 o2) := by
  intro b hb B F M H σ Q E q
  obtain ⟨x, e1, e2⟩ := bind_some' hb
  refine h1 x e1 B F M H σ _ E fun F' H' e => ?_
  cases x with
  | true => cases e2; exact q F' H' e
  | false => exact h2 b e2 B F' M H' σ _ (E.ext e) fun F2 H2 e' => q F2 H2 (e.trans e')
theorem et_not (h : EvT K ds t o) : EvT K ds (tNot t) (onot o) := by
  intro b hb B F M H σ Q E q
  cases o with
  | none => cases hb
  | some x => cases hb; exact h x rfl B F M H σ _ E q
theorem ev_andV (h1 : EvO K ds m1 ta o1) (h2 : EvO K ds m2 tb o2) : EvO K ds .f (tAndV ta tb) (oand o1 o2) := by
  intro b hb B F M H σ Q E q
  obtain ⟨x, e1, e2⟩ := bind_some' hb
  refine h1 x e1 B F M H σ _ E fun v F' H' e r => ⟨x, rp_bool r, ?_⟩
  cases x with
  | false => cases e2; exact q _ F' H' e (.bl _)
  | true => exact h2 b e2 B F' M H' σ _ (E.ext e) fun w F2 H2 e' r' => q w F2 H2 (e.trans e') (Scl.any b _ _ w r')
theorem ev_orV (h1 : EvO K ds m1 ta o1) (h2 : EvO K ds m2 tb o2) : EvO K ds .f (tOrV ta tb) (oor o1 o2) := by
  intro b hb B F M H σ Q E q
  obtain ⟨x, e1, e2⟩ := bind_some' hb
  refine h1 x e1 B F M H σ _ E fun v F' H' e r => ⟨x, rp_bool r, ?_⟩
  cases x with
  | true => cases e2; exact q _ F' H' e (.bl _)
  | false => exact h2 b e2 B F' M H' σ _ (E.ext e) fun w F2 H2 e' r' => q w F2 H2 (e.trans e') (Scl.any b _ _ w r')
theorem ev_notV (h : EvO K ds m te o) : EvO K ds .f (tNotV te) (onot o) := by
  intro b hb B F M H σ Q E q
  cases o with
  | none => cases hb
  | some x => cases hb; exact h x rfl B F M H σ _ E fun v F' H' e r => ⟨x, rp_bool r, q _ F' H' e (.bl _)⟩
theorem ev_ite {α : Type} [Em α] {a b : Option α} (h : EvT K ds t o) (h1 : EvO K ds m ta a) (h2 : EvO K ds m tb b) : EvO K ds m (tIf t ta tb) (oite o a b) := by
  intro z hz B F M H σ Q E q
  obtain ⟨x, e1, e2⟩ := bind_some' hz
  refine h x e1 B F M H σ _ E fun F' H' e => ?_
  cases x with
  | true => exact h1 z e2 B F' M H' σ _ (E.ext e) fun w F2 H2 e' r' => q w F2 H2 (e.trans e') r'
  | false => exact h2 z e2 B F' M H' σ _ (E.ext e) fun w F2 H2 e' r' => q w F2 H2 (e.trans e') r'
end
end
end Tw
/-! Tuples, lists, calls of built-ins, comprehensions. -/
namespace Tw
open PySem L2

/-! ### short names for the kit's rules -/
section
variable {X : Cx}
def rLen (K : PySem.W.Frag) : List V → Hp → VK → Prop := fun xs H Q => ∃ p ys, xs = [V.ref p] ∧ (SqL K H p ys ∨ SqT K H p ys) ∧ Q (.int (ys.length : Nat)) H
theorem c_len : CallR X (.builtin "len") (rLen X.K) := call_len_seq
def rListOf (K : PySem.W.Frag) : List V → Hp → VK → Prop := fun xs H Q => ∃ p ys, xs = [V.ref p] ∧ (SqL K H p ys ∨ SqT K H p ys) ∧ ∀ l, H l = none → Q (.ref l) (upd H l (.lst ys))
theorem c_list : CallR X (.type "list") (rListOf X.K) := call_list_of
def rMax2 : List V → Hp → VK → Prop := fun xs H Q => ∃ i j, xs = [V.int i, V.int j] ∧ Q (.int (if j > i then j else i)) H
theorem c_max2 (hc : X.calm = true) : CallR X (.builtin "max") rMax2 := call_max2 hc
def rMin2 : List V → Hp → VK → Prop := fun xs H Q => ∃ i j, xs = [V.int i, V.int j] ∧ Q (.int (if j < i then j else i)) H
theorem c_min2 (hc : X.calm = true) : CallR X (.builtin "min") rMin2 := call_min2 hc
def rInt1 : List V → Hp → VK → Prop := fun xs H Q => (∃ i, xs = [V.int i] ∧ Q (.int i) H) ∨ ∃ k, xs = [V.bl k] ∧ Q (.int (if k then 1 else 0)) H
theorem c_int : CallR X (.type "int") rInt1 := call_int1
def rStr1 : List V → Hp → VK → Prop := fun xs H Q => ∃ i, xs = [V.int i] ∧ i.natAbs.log2 < 1920 ∧ Q (.str (toString i)) H
theorem c_str : CallR X (.type "str") rStr1 := call_str_int
def rIsN : R2 := fun x y H Q => y = .non ∧ Q (.bl (decide (x = .non))) H
theorem op_isN' : OpR X (compareOp .Is) rIsN := op_isN
def rNotN : R2 := fun x y H Q => y = .non ∧ Q (.bl (!decide (x = .non))) H
theorem op_notN' : OpR X (compareOp .IsNot) rNotN := op_notN
end

/-! ### index, slice -/
theorem atI_map {α β : Type} (f : α → β) (xs : List α) (i : Int) : atI (xs.map f) i = (atI xs i).map f := by
  unfold atI
  rw [List.length_map]
  cases ixN xs.length i with
  | none => rfl
  | some j => simp [List.getElem?_map]
def cutG {α : Type} (xs : List α) (lo hi : Option Int) : List α := (xs.drop (HT.sIx xs.length 0 lo)).take (HT.sIx xs.length xs.length hi - HT.sIx xs.length 0 lo)
theorem cutG_map {α β : Type} (f : α → β) (xs : List α) (lo hi : Option Int) : cutG (xs.map f) lo hi = (cutG xs lo hi).map f := by
  unfold cutG
  rw [List.length_map, List.map_take, List.map_drop]
theorem RpA.at {H : Hp} {vs : List V} {ds : List PyData} {i : Int} {d : PyData} (r : RpA H vs ds) (h : atI ds i = some d) : ∃ v, atI vs i = some v ∧ Rp H v d := by
  unfold atI at h ⊢
  rw [r.len]
  cases e : ixN ds.length i with
  | none => rw [e] at h; cases h
  | some j =>
    rw [e] at h
    exact r.get h
theorem RpA.cut {H : Hp} {vs : List V} {ds : List PyData} {lo hi : Option Int} (r : RpA H vs ds) : RpA H (cutV vs lo hi) (cutG ds lo hi) := by
  unfold cutV cutG
  rw [r.len]
  exact (r.drop _).take _

def olen {α : Type} (o : Option (List α)) : Option Int := o.map fun xs => (xs.length : Int)
def oix {α : Type} (o : Option (List α)) (i : Option Int) : Option α := obin atI o i
def obound : Option (Option Int) → Option (Option Int) := id
def ocut {α : Type} (o : Option (List α)) (lo hi : Option (Option Int)) : Option (List α) := o.bind fun xs => lo.bind fun l => hi.bind fun h => some (cutG xs l h)
def ocat {α : Type} (a b : Option (List α)) : Option (List α) := obin (fun xs ys => if xs.length + ys.length ≤ 100000 then some (xs ++ ys) else none) a b
def oind {α : Type} [Em α] (a : Option α) (b : Option (List α)) : Option Bool := obin (fun x xs => some (xs.any fun z => PyData.eqv (em z) (em x))) a b
def onind {α : Type} [Em α] (a : Option α) (b : Option (List α)) : Option Bool := obin (fun x xs => some (!xs.any fun z => PyData.eqv (em z) (em x))) a b
def omax2 (a b : Option Int) : Option Int := obin (fun i j => some (if j > i then j else i)) a b
def omin2 (a b : Option Int) : Option Int := obin (fun i j => some (if j < i then j else i)) a b
def ochain {α β γ : Type} (f : α → β → Option Bool) (g : β → γ → Option Bool) (a : Option α) (b : Option β) (c : Option γ) : Option Bool :=
  a.bind fun x => b.bind fun y => (f x y).bind fun k => if k then c.bind fun z => g y z else some false
def otup2 {α β : Type} (a : Option α) (b : Option β) : Option (α × β) := obin (fun x y => some (x, y)) a b
def otup3 {α β γ : Type} (a : Option α) (b : Option β) (c : Option γ) : Option (T3 α β γ) := a.bind fun x => b.bind fun y => c.bind fun z => some ⟨x, y, z⟩
def otup4 {α β γ δ : Type} (a : Option α) (b : Option β) (c : Option γ) (d : Option δ) : Option (T4 α β γ δ) := a.bind fun x => b.bind fun y => c.bind fun z => d.bind fun w => some ⟨x, y, z, w⟩
def oints (o : Option Bool) : Option Int := o.map fun k => if k then 1 else 0
def ostr (o : Option Int) : Option Str := o.bind fun i => if i.natAbs.log2 < 1920 then some (toString i) else none
/-- isinstance with a built-in class -/
def tyN : PyData → String
  | .none => "NoneType" | .bool _ => "bool" | .int _ => "int" | .str _ => "str" | .list _ => "list" | .tuple _ => "tuple" | .dict _ => "dict"
def isiD (T : String) (d : PyData) : Bool := (kitB (tyN d) T).getD false
def oisi {α : Type} [Em α] (T : String) (o : Option α) : Option Bool := o.map fun x => isiD T (em x)
abbrev KitOk (T : String) : Prop := ∀ a ∈ ["NoneType", "bool", "int", "str", "list", "tuple"], (kitB a T).isSome = true
theorem kit_int : KitOk "int" := by decide +kernel
theorem kit_bool : KitOk "bool" := by decide +kernel
theorem kit_list : KitOk "list" := by decide +kernel
theorem kit_tuple : KitOk "tuple" := by decide +kernel
theorem kit_str : KitOk "str" := by decide +kernel

section
variable {K : PySem.W.Frag} {ds : List Sl} {ta tb tc td te : TE} {m m1 m2 m3 m4 : Md} {α β γ δ : Type} [Em α] [Em β] [Em γ] [Em δ]

theorem rp_tupv {F : Hp} {p : Addr} {vs : List V} {es : List PyData} (h : F p = none) (r : RpA F vs es) : Rp (upd F p (.tup vs)) (.ref p) (.tuple es) := .tup upd_same (r.mono (same_upd h))
theorem small {n : Nat} (h : n ≤ 100000) : n ≤ sizeLine := Nat.le_trans h (by decide)
theorem ev_tup2 {o1 : Option α} {o2 : Option β} (h1 : EvO K ds .f ta o1) (h2 : EvO K ds .f tb o2) : EvO K ds .f (tTup (tCons ta (tCons tb tNil))) (otup2 o1 o2) := by
  intro z hz B F M H σ Q E q
  obtain ⟨x, y, e1, e2, e3⟩ := obin_some hz
  cases e3
  exact ev2 h1 h2 e1 e2 E fun v w F' H' e r1 r2 => ⟨by show 2 ≤ sizeLine; decide, fun p hp => q _ _ _ (e.trans (Ext.new1 e.sub hp)) (rp_tupv (none_of_same e.sub hp) (.cons r1 (.cons r2 .nil)))⟩
theorem ev_tup3 {o1 : Option α} {o2 : Option β} {o3 : Option γ} (h1 : EvO K ds .f ta o1) (h2 : EvO K ds .f tb o2) (h3 : EvO K ds .f tc o3) : EvO K ds .f (tTup (tCons ta (tCons tb (tCons tc tNil)))) (otup3 o1 o2 o3) := by
  intro z hz B F M H σ Q E q
  obtain ⟨x, e1, hz⟩ := bind_some' hz
  obtain ⟨y, e2, hz⟩ := bind_some' hz
  obtain ⟨w, e3, hz⟩ := bind_some' hz
  cases hz
  exact h1 x e1 B F M H σ _ E fun v1 F1 H1 x1 r1 => h2 y e2 B F1 M H1 σ _ (E.ext x1) fun v2 F2 H2 x2 r2 => h3 w e3 B F2 M H2 σ _ ((E.ext x1).ext x2) fun v3 F3 H3 x3 r3 =>
    ⟨by show 3 ≤ sizeLine; decide, fun p hp => q _ _ _ (((x1.trans x2).trans x3).trans (Ext.new1 x3.sub hp)) (rp_tupv (none_of_same x3.sub hp) (.cons ((r1.mono x2.sF).mono x3.sF) (.cons (r2.mono x3.sF) (.cons r3 .nil))))⟩
theorem ev_tup4 {o1 : Option α} {o2 : Option β} {o3 : Option γ} {o4 : Option δ} (h1 : EvO K ds .f ta o1) (h2 : EvO K ds .f tb o2) (h3 : EvO K ds .f tc o3) (h4 : EvO K ds .f td o4) : EvO K ds .f (tTup (tCons ta (tCons tb (tCons tc (tCons td tNil))))) (otup4 o1 o2 o3 o4) := by
  intro z hz B F M H σ Q E q
  obtain ⟨x, e1, hz⟩ := bind_some' hz
  obtain ⟨y, e2, hz⟩ := bind_some' hz
  obtain ⟨w, e3, hz⟩ := bind_some' hz
  obtain ⟨u, e4, hz⟩ := bind_some' hz
  cases hz
  exact h1 x e1 B F M H σ _ E fun v1 F1 H1 x1 r1 => h2 y e2 B F1 M H1 σ _ (E.ext x1) fun v2 F2 H2 x2 r2 => h3 w e3 B F2 M H2 σ _ ((E.ext x1).ext x2) fun v3 F3 H3 x3 r3 => h4 u e4 B F3 M H3 σ _ (((E.ext x1).ext x2).ext x3) fun v4 F4 H4 x4 r4 =>
    ⟨by show 4 ≤ sizeLine; decide, fun p hp => q _ _ _ ((((x1.trans x2).trans x3).trans x4).trans (Ext.new1 x4.sub hp)) (rp_tupv (none_of_same x4.sub hp) (.cons (((r1.mono x2.sF).mono x3.sF).mono x4.sF) (.cons ((r2.mono x3.sF).mono x4.sF) (.cons (r3.mono x4.sF) (.cons r4 .nil)))))⟩
theorem ei_nil : EvI K ds 0 tNil (some ([] : List α)) := fun xs hx => by
  cases hx
  exact ⟨rfl, fun B F M H σ Q E q => q [] F H (Ext.refl E.sF) .nil⟩
def ocons {α : Type} (a : Option α) (b : Option (List α)) : Option (List α) := obin (fun x xs => some (x :: xs)) a b
theorem ei_cons {n : Nat} {tr : TA} {o1 : Option α} {o2 : Option (List α)} (h1 : EvO K ds .f ta o1) (h2 : EvI K ds n tr o2) : EvI K ds (n + 1) (tCons ta tr) (ocons o1 o2) := fun zs hz => by
  obtain ⟨x, xs, e1, e2, e3⟩ := obin_some hz
  cases e3
  obtain ⟨hl, h2⟩ := h2 xs e2
  exact ⟨by rw [List.length_cons, hl], fun B F M H σ Q E q => h1 x e1 B F M H σ _ E fun v F1 H1 x1 r1 => h2 B F1 M H1 σ _ (E.ext x1) fun vs F2 H2 x2 r2 => q _ F2 H2 (x1.trans x2) (.cons (r1.mono x2.sF) r2)⟩
theorem el_lst {n : Nat} {t : TA} {o : Option (List α)} (hn : n ≤ 100000) (h : EvI K ds n t o) : EvL K ds (tLst t) o := fun xs hx B F M H σ Q E q => by
  obtain ⟨hl, h⟩ := h xs hx
  refine h B F M H σ _ E fun vs F' H' e r => ⟨small (by rw [r.len, List.length_map, hl]; exact hn), fun p hp => ?_⟩
  exact q p vs F' _ (e.trans (Ext.new0 e.sub hp)) (none_of_same e.sub hp) (none_of_same e.sH hp) upd_same r
theorem ev_len {o : Option (List α)} (h : EvO K ds m te o) : EvO K ds .f (tCB (rLen K) (tCons te tNil)) (olen o) := by
  intro z hz B F M H σ Q E q
  cases o with
  | none => cases hz
  | some xs =>
    cases hz
    refine h xs rfl B F M H σ _ E fun v F' H' e r => ?_
    obtain ⟨p, vs, rfl, hp, ra⟩ := rp_list r
    refine ⟨p, vs, rfl, .inl (SqL.of (hp_H (E.ext e) _ _ hp)), ?_⟩
    have : (vs.length : Int) = (xs.length : Int) := by rw [ra.len, List.length_map]
    rw [this]
    exact q _ F' H' e (.int _)
def olen2 {α β : Type} (o : Option (α × β)) : Option Int := o.map fun _ => 2
theorem ev_len2 {o : Option (α × β)} (h : EvO K ds m te o) : EvO K ds .f (tCB (rLen K) (tCons te tNil)) (olen2 o) := by
  intro z hz B F M H σ Q E q
  cases o with
  | none => cases hz
  | some xs =>
    cases hz
    refine h xs rfl B F M H σ _ E fun v F' H' e r => ?_
    obtain ⟨p, a, b, rfl, hp, _⟩ := rp_pair r
    exact ⟨p, [a, b], rfl, .inr (SqT.of (hp_H (E.ext e) _ _ hp)), q _ F' H' e (.int _)⟩
/-- the script -/
theorem ev_lenS {i : Nat} {ns : List Int} (h : ds[i]? = some (.scr ns)) : EvO K ds .f (tCB (rLen K) (tCons (tVar i) tNil)) (some (ns.length : Int)) := by
  intro z hz B F M H σ Q E q
  cases hz
  obtain ⟨_, _, a, e, r⟩ := E.at h
  refine ⟨.ref a, e, a, ns.map V.int, rfl, .inl (E.sB.seq r), ?_⟩
  rw [List.length_map]
  exact q _ F H (Ext.refl E.sF) (.int _)
theorem ev_ixS {i : Nat} {ns : List Int} {o : Option Int} (h : ds[i]? = some (.scr ns)) (h2 : EvO K ds m tb o) : EvO K ds .f (tOp (rIxL K) (tVar i) tb) (oix (some ns) o) := by
  intro z hz B F M H σ Q E q
  obtain ⟨x, k, e1, e2, e3⟩ := obin_some hz
  cases e1
  obtain ⟨_, _, a, e, r⟩ := E.at h
  refine ⟨.ref a, e, h2 k e2 B F M H σ _ E fun w F' H' x rk => ⟨a, ns.map V.int, k, .int z, rfl, rp_int rk, x.sH.seq (E.sB.seq r), ?_, q _ F' H' x (.int z)⟩⟩
  rw [atI_map, e3]
  rfl
theorem ev_ix {o1 : Option (List α)} {o2 : Option Int} (h1 : EvO K ds m ta o1) (h2 : EvO K ds m2 tb o2) : EvO K ds m (tOp (rIxL K) ta tb) (oix o1 o2) := by
  intro z hz B F M H σ Q E q
  obtain ⟨xs, k, e1, e2, e3⟩ := obin_some hz
  refine ev2 h1 h2 e1 e2 E fun v w F' H' e r1 r2 => ?_
  obtain ⟨p, vs, rfl, hp, ra⟩ := rp_list r1
  obtain ⟨u, hu, ru⟩ := ra.at (i := k) (d := em z) (by rw [atI_map, e3]; rfl)
  exact ⟨p, vs, k, u, rfl, rp_int r2, SqL.of (hp_H (E.ext e) _ _ hp), hu, q _ F' H' e ru⟩
/-- an item of an own list -/
theorem ev_ixO {i : Nat} {xs : List α} {o : Option Int} (h : ds[i]? = some (.own (xs.map em))) (h2 : EvO K ds m tb o) : EvO K ds .f (tOp (rIxL K) (tVar i) tb) (oix (some xs) o) := by
  intro z hz B F M H σ Q E q
  obtain ⟨x, k, e1, e2, e3⟩ := obin_some hz
  cases e1
  obtain ⟨_, _, p, vs, e, hp, r, _⟩ := E.at h
  refine ⟨.ref p, e, h2 k e2 B F M H σ _ E fun w F' H' x rk => ?_⟩
  obtain ⟨u, hu, ru⟩ := r.at (i := k) (d := em z) (by rw [atI_map, e3]; rfl)
  exact ⟨p, vs, k, u, rfl, rp_int rk, SqL.of (x.sH _ _ hp), hu, q _ F' H' x (ru.mono x.sF)⟩
/-- a place of a tuple -/
theorem ev_fst {o : Option (α × β)} (h : EvO K ds m ta o) : EvO K ds m (tOp (rIxT K) ta (tC (.int 0))) (o.map (·.1)) := by
  intro z hz B F M H σ Q E q
  cases o with
  | none => cases hz
  | some x =>
    cases hz
    refine h x rfl B F M H σ _ E fun v F' H' e r => ?_
    obtain ⟨p, a, b, rfl, hp, ra, rb⟩ := rp_pair r
    exact ⟨p, [a, b], 0, a, rfl, rfl, SqT.of (hp_H (E.ext e) _ _ hp), rfl, q _ F' H' e ra⟩
theorem ev_snd {o : Option (α × β)} (h : EvO K ds m ta o) : EvO K ds m (tOp (rIxT K) ta (tC (.int 1))) (o.map (·.2)) := by
  intro z hz B F M H σ Q E q
  cases o with
  | none => cases hz
  | some x =>
    cases hz
    refine h x rfl B F M H σ _ E fun v F' H' e r => ?_
    obtain ⟨p, a, b, rfl, hp, ra, rb⟩ := rp_pair r
    exact ⟨p, [a, b], 1, b, rfl, rfl, SqT.of (hp_H (E.ext e) _ _ hp), rfl, q _ F' H' e rb⟩
theorem ev_t4a {o : Option (T4 α β γ δ)} (h : EvO K ds m ta o) : EvO K ds m (tOp (rIxT K) ta (tC (.int 0))) (o.map (·.a)) := by
  intro z hz B F M H σ Q E q
  cases o with
  | none => cases hz
  | some x =>
    cases hz
    refine h x rfl B F M H σ _ E fun v F' H' e r => ?_
    obtain ⟨p, a, b, c, d, rfl, hp, ra, rb, rc, rd⟩ := rp_t4 r
    exact ⟨p, [a, b, c, d], 0, a, rfl, rfl, SqT.of (hp_H (E.ext e) _ _ hp), rfl, q _ F' H' e ra⟩
theorem ev_t4b {o : Option (T4 α β γ δ)} (h : EvO K ds m ta o) : EvO K ds m (tOp (rIxT K) ta (tC (.int 1))) (o.map (·.b)) := by
  intro z hz B F M H σ Q E q
  cases o with
  | none => cases hz
  | some x =>
    cases hz
    refine h x rfl B F M H σ _ E fun v F' H' e r => ?_
    obtain ⟨p, a, b, c, d, rfl, hp, ra, rb, rc, rd⟩ := rp_t4 r
    exact ⟨p, [a, b, c, d], 1, b, rfl, rfl, SqT.of (hp_H (E.ext e) _ _ hp), rfl, q _ F' H' e rb⟩
theorem ev_t4c {o : Option (T4 α β γ δ)} (h : EvO K ds m ta o) : EvO K ds m (tOp (rIxT K) ta (tC (.int 2))) (o.map (·.c)) := by
  intro z hz B F M H σ Q E q
  cases o with
  | none => cases hz
  | some x =>
    cases hz
    refine h x rfl B F M H σ _ E fun v F' H' e r => ?_
    obtain ⟨p, a, b, c, d, rfl, hp, ra, rb, rc, rd⟩ := rp_t4 r
    exact ⟨p, [a, b, c, d], 2, c, rfl, rfl, SqT.of (hp_H (E.ext e) _ _ hp), rfl, q _ F' H' e rc⟩
theorem ev_t4d {o : Option (T4 α β γ δ)} (h : EvO K ds m ta o) : EvO K ds m (tOp (rIxT K) ta (tC (.int 3))) (o.map (·.d)) := by
  intro z hz B F M H σ Q E q
  cases o with
  | none => cases hz
  | some x =>
    cases hz
    refine h x rfl B F M H σ _ E fun v F' H' e r => ?_
    obtain ⟨p, a, b, c, d, rfl, hp, ra, rb, rc, rd⟩ := rp_t4 r
    exact ⟨p, [a, b, c, d], 3, d, rfl, rfl, SqT.of (hp_H (E.ext e) _ _ hp), rfl, q _ F' H' e rd⟩
/-- bounds of a slice -/
def EvB (K : PySem.W.Frag) (ds : List Sl) (t : TO) (o : Option (Option Int)) : Prop := ∀ x, o = some x → ∀ B F M H σ (Q : Option Int → Hp → Prop), Env K B F M H σ ds → (∀ F' H', Ext F H F' H' → Q x H') → t σ H Q
theorem eb_no : EvB K ds tNoPart (some none) := fun x hx B F M H σ Q E q => by cases hx; exact q F H (Ext.refl E.sF)
theorem eb_at {o : Option Int} (h : EvO K ds m te o) : EvB K ds (tPart te) (o.map some) := fun x hx B F M H σ Q E q => by
  cases o with
  | none => cases hx
  | some k =>
    cases hx
    exact h k rfl B F M H σ _ E fun v F' H' e r => ⟨k, rp_int r, q F' H' e⟩
theorem el_cut {tl th : TO} {o : Option (List α)} {ol oh : Option (Option Int)} (h : EvO K ds m te o) (hm : ∀ (x : α) B F M H σ v, Env K B F M H σ ds → Rp (hp m B F H) v (em x) → Rp F v (em x)) (hl : EvB K ds tl ol) (hh : EvB K ds th oh) : EvL K ds (tSl (rSlL K) te tl th) (ocut o ol oh) := by
  intro zs hz B F M H σ Q E q
  obtain ⟨xs, e1, hz⟩ := bind_some' hz
  obtain ⟨l, e2, hz⟩ := bind_some' hz
  obtain ⟨u, e3, hz⟩ := bind_some' hz
  cases hz
  refine h xs e1 B F M H σ _ E fun v F1 H1 x1 r1 => hl l e2 B F1 M H1 σ _ (E.ext x1) fun F2 H2 x2 => hh u e3 B F2 M H2 σ _ ((E.ext x1).ext x2) fun F3 H3 x3 => ?_
  obtain ⟨p, vs, rfl, hp, ra⟩ := rp_list r1
  have E3 := ((E.ext x1).ext x2).ext x3
  have s3 := (hp_mono (m := m) (B := B) x2).trans (hp_mono (m := m) (B := B) x3)
  refine ⟨p, vs, rfl, SqL.of (hp_H E3 _ _ (s3 _ _ hp)), fun n hn => q n _ F3 _ (((x1.trans x2).trans x3).trans (Ext.new0 E3.sF hn)) (none_of_same E3.sF hn) (none_of_same ((x1.sH.trans x2.sH).trans x3.sH) hn) upd_same ?_⟩
  rw [← cutG_map]
  have rb := (ra.mono s3)
  have conv : ∀ {vs : List V} {xs : List α}, RpA (Tw.hp m B F3 H3) vs (xs.map em) → RpA F3 vs (xs.map em) := by
    intro vs xs
    induction xs generalizing vs with
    | nil => intro r; cases r; exact .nil
    | cons x xs ih =>
      intro r
      cases r with
      | cons h r => exact .cons (hm x B F3 M H3 σ _ E3 h) (ih r)
  exact (conv rb).cut
theorem md_f {x : α} {B F M H σ v} (E : Env K B F M H σ ds) (h : Rp (hp .f B F H) v (em x)) : Rp F v (em x) := h
theorem el_cutF {tl th : TO} {o : Option (List α)} {ol oh : Option (Option Int)} (h : EvO K ds .f te o) (hl : EvB K ds tl ol) (hh : EvB K ds th oh) : EvL K ds (tSl (rSlL K) te tl th) (ocut o ol oh) := el_cut h (fun _ _ _ _ _ _ _ _ h => h) hl hh
theorem el_cutS [Scl α] {tl th : TO} {o : Option (List α)} {ol oh : Option (Option Int)} (h : EvO K ds m te o) (hl : EvB K ds tl ol) (hh : EvB K ds th oh) : EvL K ds (tSl (rSlL K) te tl th) (ocut o ol oh) := el_cut h (fun x _ _ _ _ _ _ _ h => Scl.any x _ _ _ h) hl hh
theorem el_cutX {i : Nat} {ns : List Int} {tl th : TO} {ol oh : Option (Option Int)} (h : ds[i]? = some (.scr ns)) (hl : EvB K ds tl ol) (hh : EvB K ds th oh) : EvL K ds (tSl (rSlL K) (tVar i) tl th) (ocut (some ns) ol oh) := by
  intro zs hz B F M H σ Q E q
  obtain ⟨xs, e1, hz⟩ := bind_some' hz
  obtain ⟨l, e2, hz⟩ := bind_some' hz
  obtain ⟨u, e3, hz⟩ := bind_some' hz
  cases e1
  cases hz
  obtain ⟨_, _, a, e, r⟩ := E.at h
  refine ⟨.ref a, e, hl l e2 B F M H σ _ E fun F2 H2 x2 => hh u e3 B F2 M H2 σ _ (E.ext x2) fun F3 H3 x3 => ?_⟩
  have E3 := (E.ext x2).ext x3
  refine ⟨a, _, rfl, E3.sB.seq r, fun n hn => q n _ F3 _ ((x2.trans x3).trans (Ext.new0 E3.sF hn)) (none_of_same E3.sF hn) (none_of_same (x2.sH.trans x3.sH) hn) upd_same ?_⟩
  rw [← cutG_map]
  exact RpA.cut (RpA.ofInts ns)
theorem conv_sc [Scl α] {H H' : Hp} : ∀ {vs : List V} {xs : List α}, RpA H vs (xs.map em) → RpA H' vs (xs.map em)
  | _, [], r => by cases r; exact .nil
  | _, x :: xs, r => by
    cases r with
    | cons h r => exact .cons (Scl.any x _ _ _ h) (conv_sc r)
theorem el_cat {o1 o2 : Option (List α)} (h1 : EvO K ds .f ta o1) (h2 : EvO K ds .f tb o2) : EvL K ds (tOp rCat ta tb) (ocat o1 o2) := by
  intro zs hz B F M H σ Q E q
  obtain ⟨xs, ys, e1, e2, e3⟩ := obin_some hz
  split at e3
  · rename_i hl
    cases e3
    refine ev2 h1 h2 e1 e2 E fun v w F' H' e r1 r2 => ?_
    obtain ⟨p, vs, rfl, hp, ra⟩ := rp_list r1
    obtain ⟨p2, vs2, rfl, hp2, ra2⟩ := rp_list r2
    refine ⟨p, p2, vs, vs2, rfl, rfl, e.sub _ _ hp, e.sub _ _ hp2, small (by rw [ra.len, ra2.len, List.length_map, List.length_map]; exact hl), fun n hn => q n _ F' _ (e.trans (Ext.new0 e.sub hn)) (none_of_same e.sub hn) (none_of_same e.sH hn) upd_same ?_⟩
    rw [List.map_append]
    exact ra.app ra2
  · cases e3
theorem el_catS [Scl α] {o1 o2 : Option (List α)} (h1 : EvO K ds m1 ta o1) (h2 : EvO K ds m2 tb o2) : EvL K ds (tOp rCat ta tb) (ocat o1 o2) := by
  intro zs hz B F M H σ Q E q
  obtain ⟨xs, ys, e1, e2, e3⟩ := obin_some hz
  split at e3
  · rename_i hl
    cases e3
    refine ev2 h1 h2 e1 e2 E fun v w F' H' e r1 r2 => ?_
    obtain ⟨p, vs, rfl, hp, ra⟩ := rp_list r1
    obtain ⟨p2, vs2, rfl, hp2, ra2⟩ := rp_list r2
    have E' := E.ext e
    refine ⟨p, p2, vs, vs2, rfl, rfl, hp_H E' _ _ hp, hp_H E' _ _ hp2, small (by rw [ra.len, ra2.len, List.length_map, List.length_map]; exact hl), fun n hn => q n _ F' _ (e.trans (Ext.new0 e.sub hn)) (none_of_same e.sub hn) (none_of_same e.sH hn) upd_same ?_⟩
    rw [List.map_append]
    exact (conv_sc ra).app (conv_sc ra2)
  · cases e3
theorem el_list {o : Option (List α)} (h : EvO K ds .f te o) : EvL K ds (tCB (rListOf K) (tCons te tNil)) o := by
  intro xs hx B F M H σ Q E q
  refine h xs hx B F M H σ _ E fun v F' H' e r => ?_
  obtain ⟨p, vs, rfl, hp, ra⟩ := rp_list r
  exact ⟨p, vs, rfl, .inl (SqL.of (e.sub _ _ hp)), fun n hn => q n _ F' _ (e.trans (Ext.new0 e.sub hn)) (none_of_same e.sub hn) (none_of_same e.sH hn) upd_same ra⟩
theorem el_listS [Scl α] {o : Option (List α)} (h : EvO K ds m te o) : EvL K ds (tCB (rListOf K) (tCons te tNil)) o := by
  intro xs hx B F M H σ Q E q
  refine h xs hx B F M H σ _ E fun v F' H' e r => ?_
  obtain ⟨p, vs, rfl, hp, ra⟩ := rp_list r
  exact ⟨p, vs, rfl, .inl (SqL.of (hp_H (E.ext e) _ _ hp)), fun n hn => q n _ F' _ (e.trans (Ext.new0 e.sub hn)) (none_of_same e.sub hn) (none_of_same e.sH hn) upd_same (conv_sc ra)⟩
theorem ev_in [Shp α] {o1 : Option α} {o2 : Option (List α)} (l : Shp.dep α + 1 ≤ 64) (h1 : EvO K ds m1 ta o1) (h2 : EvO K ds m2 tb o2) : EvO K ds .f (tOp (rInD K) ta tb) (oind o1 o2) := by
  intro z hz B F M H σ Q E q
  obtain ⟨x, xs, e1, e2, e3⟩ := obin_some hz
  cases e3
  refine ev2 h1 h2 e1 e2 E fun v w F' H' e r1 r2 => ⟨em x, xs.map em, (r1.mono (hp_H (E.ext e))).dp K, (r2.mono (hp_H (E.ext e))).dp K, shaped_em (by omega) x, shaped_em (α := List α) l xs, ?_⟩
  have := q _ F' H' e (Rp.bl _)
  rw [List.any_map]
  exact this
theorem ev_nin [Shp α] {o1 : Option α} {o2 : Option (List α)} (l : Shp.dep α + 1 ≤ 64) (h1 : EvO K ds m1 ta o1) (h2 : EvO K ds m2 tb o2) : EvO K ds .f (tOp (rNotInD K) ta tb) (onind o1 o2) := by
  intro z hz B F M H σ Q E q
  obtain ⟨x, xs, e1, e2, e3⟩ := obin_some hz
  cases e3
  refine ev2 h1 h2 e1 e2 E fun v w F' H' e r1 r2 => ⟨em x, xs.map em, (r1.mono (hp_H (E.ext e))).dp K, (r2.mono (hp_H (E.ext e))).dp K, shaped_em (by omega) x, shaped_em (α := List α) l xs, ?_⟩
  have := q _ F' H' e (Rp.bl _)
  rw [List.any_map]
  exact this
theorem ev_max2 {o1 o2 : Option Int} (h1 : EvO K ds m1 ta o1) (h2 : EvO K ds m2 tb o2) : EvO K ds .f (tCB rMax2 (tCons ta (tCons tb tNil))) (omax2 o1 o2) := by
  intro z hz B F M H σ Q E q
  obtain ⟨x, y, e1, e2, e3⟩ := obin_some hz
  cases e3
  exact ev2 h1 h2 e1 e2 E fun v w F' H' e r1 r2 => ⟨x, y, by rw [rp_int r1, rp_int r2], q _ F' H' e (.int _)⟩
theorem ev_min2 {o1 o2 : Option Int} (h1 : EvO K ds m1 ta o1) (h2 : EvO K ds m2 tb o2) : EvO K ds .f (tCB rMin2 (tCons ta (tCons tb tNil))) (omin2 o1 o2) := by
  intro z hz B F M H σ Q E q
  obtain ⟨x, y, e1, e2, e3⟩ := obin_some hz
  cases e3
  exact ev2 h1 h2 e1 e2 E fun v w F' H' e r1 r2 => ⟨x, y, by rw [rp_int r1, rp_int r2], q _ F' H' e (.int _)⟩
theorem ev_int1 {o : Option Int} (h : EvO K ds m te o) : EvO K ds .f (tCB rInt1 (tCons te tNil)) o := by
  intro z hz B F M H σ Q E q
  exact h z hz B F M H σ _ E fun v F' H' e r => .inl ⟨z, by rw [rp_int r], q _ F' H' e (.int _)⟩
theorem ev_intb {o : Option Bool} (h : EvO K ds m te o) : EvO K ds .f (tCB rInt1 (tCons te tNil)) (oints o) := by
  intro z hz B F M H σ Q E q
  cases o with
  | none => cases hz
  | some k =>
    cases hz
    exact h k rfl B F M H σ _ E fun v F' H' e r => .inr ⟨k, by rw [rp_bool r], q _ F' H' e (.int _)⟩
theorem ev_str1 {o : Option Int} (h : EvO K ds m te o) : EvO K ds .f (tCB rStr1 (tCons te tNil)) (ostr o) := by
  intro z hz B F M H σ Q E q
  obtain ⟨k, e1, e2⟩ := bind_some' hz
  split at e2
  · rename_i hl
    cases e2
    exact h k e1 B F M H σ _ E fun v F' H' e r => ⟨k, by rw [rp_int r], hl, q _ F' H' e (.str _)⟩
  · cases e2
theorem tyOf_rp {H : Hp} {v : V} {d : PyData} (r : Rp H v d) : TyX K H v (.type (tyN d)) ∧ tyN d ∈ ["NoneType", "bool", "int", "str", "list", "tuple"] := by
  cases r with
  | non => exact ⟨.base .non, by simp [tyN]⟩
  | bl b => exact ⟨.base (.bl b), by simp [tyN]⟩
  | int i => exact ⟨.base (.int i), by simp [tyN]⟩
  | str x => exact ⟨.base (.str x), by simp [tyN]⟩
  | lst h _ => exact ⟨.base (.lst h), by simp [tyN]⟩
  | tup h _ => exact ⟨.base (.tup h), by simp [tyN]⟩
theorem ev_isi {T : String} (k : KitOk T) {o : Option α} (h : EvO K ds m te o) : EvO K ds .f (tCB (rIsi K) (tCons te (tCons (tC (.ty T)) tNil))) (oisi T o) := by
  intro z hz B F M H σ Q E q
  cases o with
  | none => cases hz
  | some x =>
    cases hz
    refine h x rfl B F M H σ _ E fun v F' H' e r => ?_
    obtain ⟨t1, t2⟩ := tyOf_rp (K := K) (r.mono (hp_H (E.ext e)))
    have k2 := k _ t2
    obtain ⟨b, hb⟩ := Option.isSome_iff_exists.mp k2
    refine ⟨v, .ty T, _, _, b, rfl, .ty T, t1, kit_ty hb, ?_⟩
    have : b = isiD T (em x) := by unfold isiD; rw [hb]; rfl
    rw [this]
    exact q _ F' H' e (.bl _)
/-- a < b < c of numbers -/
theorem ev_chain {g g' : Int → Int → V} {k k' : Int → Int → Bool} {o1 o2 o3 : Option Int} (hg : ∀ i j, g i j = .bl (k i j)) (hg' : ∀ i j, g' i j = .bl (k' i j)) (h1 : EvO K ds m1 ta o1) (h2 : EvO K ds m2 tb o2) (h3 : EvO K ds m3 tc o3) :
    EvO K ds .f (tChain (rI0 g) (rI0 g') ta tb tc) (ochain (fun i j => some (k i j)) (fun i j => some (k' i j)) o1 o2 o3) := by
  intro z hz B F M H σ Q E q
  obtain ⟨x, e1, hz⟩ := bind_some' hz
  obtain ⟨y, e2, hz⟩ := bind_some' hz
  obtain ⟨b, e3, hz⟩ := bind_some' hz
  cases e3
  refine ev2 h1 h2 e1 e2 E fun v w F' H' e r1 r2 => ⟨x, y, rp_int r1, rp_int r2, k x y, hg x y, ?_⟩
  cases hk : k x y with
  | false =>
    rw [hk] at hz
    cases hz
    exact q _ F' H' e (.bl _)
  | true =>
    rw [hk] at hz
    obtain ⟨u, e4, hz⟩ := bind_some' hz
    cases hz
    refine h3 u e4 B F' M H' σ _ (E.ext e) fun w2 F2 H2 x2 r3 => ⟨y, u, rp_int r2, rp_int r3, ?_⟩
    rw [hg']
    exact q _ F2 H2 (e.trans x2) (.bl _)
end
end Tw
/-! Statements, loops, comprehensions, calls of own defs. -/
namespace Tw
open PySem L2

/-! ### a step: what is owned may change -/
structure Stp (F : Hp) (M : Addr → Prop) (H F' : Hp) (M' : Addr → Prop) (H' : Hp) : Prop where
  sF : Same F F'
  new : ∀ a, F' a ≠ none → F a ≠ none ∨ ((H a = none ∨ IsTp H a) ∨ M a)
  keep : ∀ b o, H b = some o → ¬ M b → H' b = some o
  mn : ∀ a, M' a → M a ∨ H a = none
theorem Stp.refl {F M H} : Stp F M H F M H := ⟨Same.refl _, fun _ h => .inl h, fun _ _ h _ => h, fun _ h => .inl h⟩
theorem Stp.ofExt {F M H F' H'} (e : Ext F H F' H') : Stp F M H F' M H' := ⟨e.sF, fun a h => (e.new a h).imp_right .inl, fun b o h _ => e.sH b o h, fun _ h => .inl h⟩
theorem Stp.trans {F M H F1 M1 H1 F2 M2 H2} (x : Stp F M H F1 M1 H1) (y : Stp F1 M1 H1 F2 M2 H2) : Stp F M H F2 M2 H2 := by
  have nb : ∀ a, H1 a = none → H a = none ∨ M a := fun a h => by
    cases e : H a with
    | none => exact .inl rfl
    | some o =>
      by_cases hm : M a
      · exact .inr hm
      · rw [x.keep a o e hm] at h; cases h
  refine ⟨x.sF.trans y.sF, fun a h => ?_, fun b o h hm => y.keep b o (x.keep b o h hm) fun z => ?_, fun a h => ?_⟩
  · rcases y.new a h with h | (h | ⟨ts, h⟩) | h
    · exact x.new a h
    · rcases nb a h with h | h
      · exact .inr (.inl (.inl h))
      · exact .inr (.inr h)
    · by_cases hm : M a
      · exact .inr (.inr hm)
      · cases e : H a with
        | none => exact .inr (.inl (.inl rfl))
        | some o =>
          have := x.keep a o e hm
          rw [h] at this
          cases this
          exact .inr (.inl (.inr ⟨ts, e⟩))
    · rcases x.mn a h with h | h
      · exact .inr (.inr h)
      · exact .inr (.inl (.inl h))
  · rcases x.mn b z with z | z
    · exact hm z
    · rw [h] at z; cases z
  · rcases y.mn a h with h | h
    · exact x.mn a h
    · exact (nb a h).symm

inductive Out | nx (ds : List Sl) | bk (ds : List Sl) | ct (ds : List Sl) | lp (ds : List Sl) | rt (s : Sl) | rd (s : Sl) (ds : List Sl)
def Fin (K : PySem.W.Frag) (B F : Hp) (M : Addr → Prop) (H : Hp) (out : Out) (D : Ends) : Prop := match out with
  | .nx ds => ∀ F' M' H' σ', Stp F M H F' M' H' → Env K B F' M' H' σ' ds → D.nx σ' H'
  | .bk ds => ∀ F' M' H' σ', Stp F M H F' M' H' → Env K B F' M' H' σ' ds → D.bk σ' H'
  | .ct ds => ∀ F' M' H' σ', Stp F M H F' M' H' → Env K B F' M' H' σ' ds → D.ct σ' H'
  | .lp ds => ∀ F' M' H' σ', Stp F M H F' M' H' → Env K B F' M' H' σ' ds → D.nx σ' H' ∧ D.ct σ' H'
  | .rt s => ∀ F' M' H' v, Stp F M H F' M' H' → Env K B F' M' H' [some v] [s] → D.rt v H'
  | .rd s ds => ∀ F' M' H' v σ', Stp F M H F' M' H' → Env K B F' M' H' (some v :: σ') (s :: ds) → D.rt v H'
theorem Fin.step {K B F M H F1 M1 H1 out D} (f : Fin K B F M H out D) (x : Stp F M H F1 M1 H1) : Fin K B F1 M1 H1 out D := by
  cases out with
  | nx ds => exact fun F' M' H' σ' y E => f F' M' H' σ' (x.trans y) E
  | bk ds => exact fun F' M' H' σ' y E => f F' M' H' σ' (x.trans y) E
  | ct ds => exact fun F' M' H' σ' y E => f F' M' H' σ' (x.trans y) E
  | lp ds => exact fun F' M' H' σ' y E => f F' M' H' σ' (x.trans y) E
  | rt s => exact fun F' M' H' v y E => f F' M' H' v (x.trans y) E
  | rd s ds => exact fun F' M' H' v σ' y E => f F' M' H' v σ' (x.trans y) E

def Out.isRt : Out → Bool
  | .rt _ => true
  | .rd _ _ => true
  | _ => false
theorem Fin.rt_any {K B F M H out} {D D' : Ends} (f : Fin K B F M H out D) (h : out.isRt = true) (e : D'.rt = D.rt := by rfl) : Fin K B F M H out D' := by
  cases out with
  | rt s => intro F' M' H' v st E; rw [e]; exact f F' M' H' v st E
  | rd s ds => intro F' M' H' v σ' st E; rw [e]; exact f F' M' H' v σ' st E
  | nx ds => cases h
  | bk ds => cases h
  | ct ds => cases h
  | lp ds => cases h
def SvO (K : PySem.W.Frag) (ds : List Sl) (ts : TS) {τ : Type} (o : Option τ) (out : τ → Out) : Prop :=
  ∀ t, o = some t → ∀ B F M H σ D, Env K B F M H σ ds → Fin K B F M H (out t) D → ts D σ H

/-! ### targets -/
def Tg (K : PySem.W.Frag) (m : Md) (ds : List Sl) (g : TG) (js : List Nat) (d : PyData) (es : List Sl) : Prop :=
  ∀ B F M H σ x Q, Env K B F M H σ ds → Rp (hp m B F H) x d → (∀ σ', Env K B F M H σ' es → σ'.length = σ.length → (∀ i, i ∉ js → σ'[i]? = σ[i]?) → Q σ' H) → g x σ H Q
section
variable {K : PySem.W.Frag} {ds es : List Sl} {m : Md} {α β γ δ : Type} [Em α] [Em β] [Em γ] [Em δ]
theorem set_out {α : Type} {l : List α} {j : Nat} {x : α} : ∀ i, i ∉ [j] → (l.set j x)[i]? = l[i]? := fun i h => List.getElem?_set_ne fun e => h (by simp [e])
theorem tg_f {j : Nat} {d : PyData} (hj : j < ds.length) : Tg K .f ds (gName j) [j] d (ds.set j (.val d)) := fun B F M H σ x Q E r q =>
  q _ (E.setv hj r) (List.length_set) set_out
theorem tg_b {j : Nat} {d : PyData} (hj : j < ds.length) : Tg K .b ds (gName j) [j] d (ds.set j (.rd d)) := fun B F M H σ x Q E r q =>
  q _ (E.setrd hj r) (List.length_set) set_out
theorem tg_s [Scl α] {j : Nat} (y : α) (hj : j < ds.length) : Tg K m ds (gName j) [j] (em y) (ds.set j (.val (em y))) := fun B F M H σ x Q E r q =>
  q _ (E.setv hj (Scl.any y _ _ _ r)) (List.length_set) set_out
theorem tg_2 {t u : TG} {y : α × β} {d1 d2 : List Sl} {js ks : List Nat} (h1 : Tg K m ds t js (em y.1) d1) (h2 : Tg K m d1 u ks (em y.2) d2) : Tg K m ds (gTup K 2 (gCons t (gCons u gNil))) (js ++ ks) (em y) d2 := fun B F M H σ x Q E r q => by
  obtain ⟨p, a, b, rfl, hp, r1, r2⟩ := rp_pair r
  refine ⟨p, [a, b], rfl, SqT.of (hp_H E _ _ hp), rfl, a, [b], rfl, h1 B F M H σ a _ E r1 fun σ1 E1 l1 o1 => ⟨b, [], rfl, h2 B F M H σ1 b _ E1 r2 fun σ2 E2 l2 o2 => ⟨rfl, q σ2 E2 (l2.trans l1) fun i hi => ?_⟩⟩⟩
  rw [o2 i fun z => hi (List.mem_append.mpr (.inr z)), o1 i fun z => hi (List.mem_append.mpr (.inl z))]
theorem tg_3 {t u w : TG} {y : T3 α β γ} {d1 d2 d3 : List Sl} {js ks ls : List Nat} (h1 : Tg K m ds t js (em y.a) d1) (h2 : Tg K m d1 u ks (em y.b) d2) (h3 : Tg K m d2 w ls (em y.c) d3) : Tg K m ds (gTup K 3 (gCons t (gCons u (gCons w gNil)))) (js ++ (ks ++ ls)) (em y) d3 := fun B F M H σ x Q E r q => by
  obtain ⟨p, a, b, c, rfl, hp, r1, r2, r3⟩ := rp_t3 r
  refine ⟨p, [a, b, c], rfl, SqT.of (hp_H E _ _ hp), rfl, a, [b, c], rfl, h1 B F M H σ a _ E r1 fun σ1 E1 l1 o1 => ⟨b, [c], rfl, h2 B F M H σ1 b _ E1 r2 fun σ2 E2 l2 o2 => ⟨c, [], rfl, h3 B F M H σ2 c _ E2 r3 fun σ3 E3 l3 o3 => ⟨rfl, q σ3 E3 (l3.trans (l2.trans l1)) fun i hi => ?_⟩⟩⟩⟩
  simp only [List.mem_append, not_or] at hi
  rw [o3 i hi.2.2, o2 i hi.2.1, o1 i hi.1]
theorem tg_4 {t u w z : TG} {y : T4 α β γ δ} {d1 d2 d3 d4 : List Sl} {js ks ls ns : List Nat} (h1 : Tg K m ds t js (em y.a) d1) (h2 : Tg K m d1 u ks (em y.b) d2) (h3 : Tg K m d2 w ls (em y.c) d3) (h4 : Tg K m d3 z ns (em y.d) d4) : Tg K m ds (gTup K 4 (gCons t (gCons u (gCons w (gCons z gNil))))) (js ++ (ks ++ (ls ++ ns))) (em y) d4 := fun B F M H σ x Q E r q => by
  obtain ⟨p, a, b, c, d, rfl, hp, r1, r2, r3, r4⟩ := rp_t4 r
  refine ⟨p, [a, b, c, d], rfl, SqT.of (hp_H E _ _ hp), rfl, a, [b, c, d], rfl, h1 B F M H σ a _ E r1 fun σ1 E1 l1 o1 => ⟨b, [c, d], rfl, h2 B F M H σ1 b _ E1 r2 fun σ2 E2 l2 o2 => ⟨c, [d], rfl, h3 B F M H σ2 c _ E2 r3 fun σ3 E3 l3 o3 => ⟨d, [], rfl, h4 B F M H σ3 d _ E3 r4 fun σ4 E4 l4 o4 => ⟨rfl, q σ4 E4 (l4.trans (l3.trans (l2.trans l1))) fun i hi => ?_⟩⟩⟩⟩⟩
  simp only [List.mem_append, not_or] at hi
  rw [o4 i hi.2.2.2, o3 i hi.2.2.1, o2 i hi.2.1, o1 i hi.1]
end

/-! ### plain statements -/
section
variable {K : PySem.W.Frag} {ds es : List Sl} {ta tb tc te : TE} {t u w : TS} {g : TG} {m m1 m2 : Md} {α β γ τ : Type} [Em α] [Em β] [Em γ] {out : τ → Out}
theorem sv_asg {js : List Nat} {o : Option α} {r : α → Option τ} {d1 : α → List Sl} (h : EvO K ds m te o) (tg : ∀ y, Tg K m ds g js (em y) (d1 y)) (k : ∀ y, SvO K (d1 y) u (r y) out) : SvO K ds (tSeq (tAsg te g) u) (o.bind r) out := by
  intro x hx B F M H σ D E f
  obtain ⟨y, e1, e2⟩ := bind_some' hx
  refine h y e1 B F M H σ _ E fun v F' H' e r => tg y B F' M H' σ v _ (E.ext e) r fun σ' E' _ _ => ?_
  exact k y x e2 B F' M H' σ' D E' (f.step (.ofExt e))
/-- a new list, kept as this frame's own -/
theorem sv_asgL {i : Nat} {o : Option (List α)} {r : List α → Option τ} (hi : i < ds.length) (h : EvL K ds te o) (k : ∀ xs : List α, SvO K (ds.set i (.own (xs.map em))) u (r xs) out) : SvO K ds (tSeq (tAsg te (gName i)) u) (o.bind r) out := by
  intro x hx B F M H σ D E f
  obtain ⟨y, e1, e2⟩ := bind_some' hx
  refine h y e1 B F M H σ _ E fun p vs F' H' e h1 h2 h3 r => ?_
  have E' := E.ext e
  refine k y x e2 B F' _ H' _ D (E'.setown hi (none_of_same E.sB h2) h1 (fun z => E.mH p z h2) h3 r) (f.step ⟨e.sF, fun a z => (e.new a z).imp_right .inl, fun b o z _ => e.sH b o z, fun a z => ?_⟩)
  rcases z with z | rfl
  · exact .inl z
  · exact .inr h2
theorem sv_end {x : τ} (l : Le ds es) (ho : out x = .nx es ∨ out x = .lp es) : SvO K ds tNext (some x) out := by
  intro y hy B F M H σ D E f
  cases hy
  rcases ho with ho | ho
  · rw [ho] at f
    exact f F M H σ .refl (E.le l)
  · rw [ho] at f
    exact (f F M H σ .refl (E.le l)).1
theorem sv_cont {x : τ} (l : Le ds es) (ho : out x = .ct es ∨ out x = .lp es) : SvO K ds tCont (some x) out := by
  intro y hy B F M H σ D E f
  cases hy
  rcases ho with ho | ho
  · rw [ho] at f
    exact f F M H σ .refl (E.le l)
  · rw [ho] at f
    exact (f F M H σ .refl (E.le l)).2
theorem sv_brk {x : τ} (l : Le ds es) (ho : out x = .bk es) : SvO K ds tBreak (some x) out := by
  intro y hy B F M H σ D E f
  cases hy
  rw [ho] at f
  exact f F M H σ .refl (E.le l)
theorem Env.one {B F M H σ v d} (E : Env K B F M H σ ds) (r : Rp F v d) : Env K B F M H [some v] [.val d] :=
  ⟨rfl, E.sB, E.sF, E.mB, E.mF, E.mH, E.mT, fun _ _ => False, fun _ _ h => h.elim, fun _ _ _ h => h.elim, fun i => by
    cases i with
    | zero => exact ⟨v, rfl, r⟩
    | succ i => trivial⟩
theorem sv_ret {o : Option α} {w : α → τ} (h : EvO K ds .f te o) (ho : ∀ x, out (w x) = .rt (.val (em x))) : SvO K ds (tRet te) (o.map w) out := by
  intro z hz B F M H σ D E f
  cases o with
  | none => cases hz
  | some x =>
    cases hz
    rw [ho] at f
    exact h x rfl B F M H σ _ E fun v F' H' e r => f F' M H' v (.ofExt e) ((E.ext e).one r)
/-- an own list handed out, frozen -/
theorem sv_retF {i : Nat} {xs : List α} {w : List α → τ} (hi : ds[i]? = some (.own (xs.map em))) (ho : out (w xs) = .rt (.val (em xs))) : SvO K ds (tRet (tVar i)) (some (w xs)) out := by
  intro z hz B F M H σ D E f
  cases hz
  rw [ho] at f
  obtain ⟨len, sB, sF, mB, mF, mH, mT, foot, f1, f2, f3⟩ := E
  have h3 := f3 i
  rw [hi] at h3
  obtain ⟨p, vs, e, hp, r, hm⟩ := h3
  have hF := mF p (f1 i p hm)
  refine ⟨.ref p, e, f (upd F p (.lst vs)) (fun a => M a ∧ a ≠ p) H (.ref p) ⟨same_upd hF, fun a z => ?_, fun b o z _ => z, fun a z => .inl z.1⟩
    ⟨rfl, sB, fun b u z => ?_, fun a z => mB a z.1, fun a z => ?_, fun a z => mH a z.1, fun a xs z => mT a xs z.1, fun _ _ => False, fun _ _ h => h.elim, fun _ _ _ h => h.elim, fun i => ?_⟩⟩
  · by_cases ha : a = p
    · exact .inr (.inr (ha ▸ f1 i p hm))
    · rw [upd_ne ha] at z; exact .inl z
  · unfold L2.upd at z
    split at z
    · rename_i hb; rw [hb, hp]; exact z
    · exact sF b u z
  · rw [upd_ne z.2]; exact mF a z.1
  · cases i with
    | zero => exact ⟨_, rfl, .lst upd_same (r.mono (same_upd hF))⟩
    | succ i => trivial
/-- an own list handed out as the caller's own -/
theorem sv_retO {i : Nat} {xs : List α} {w : List α → τ} (hi : ds[i]? = some (.own (xs.map em))) (ho : out (w xs) = .rt (.own (xs.map em))) : SvO K ds (tRet (tVar i)) (some (w xs)) out := by
  intro z hz B F M H σ D E f
  cases hz
  rw [ho] at f
  obtain ⟨len, sB, sF, mB, mF, mH, mT, foot, f1, f2, f3⟩ := E
  have h3 := f3 i
  rw [hi] at h3
  obtain ⟨p, vs, e, hp, r, hm⟩ := h3
  refine ⟨.ref p, e, f F M H (.ref p) .refl ⟨rfl, sB, sF, mB, mF, mH, mT, fun j a => j = 0 ∧ a = p, fun j a z => z.2 ▸ f1 i p hm, fun j k a z1 z2 => z1.1.trans z2.1.symm, fun i => ?_⟩⟩
  cases i with
  | zero => exact ⟨p, vs, rfl, hp, r, rfl, rfl⟩
  | succ i => trivial
theorem sv_retL {o : Option (List α)} {w : List α → τ} (h : EvL K ds te o) (ho : ∀ xs, out (w xs) = .rt (.own (xs.map em))) : SvO K ds (tRet te) (o.map w) out := by
  intro z hz B F M H σ D E f
  cases o with
  | none => cases hz
  | some xs =>
    cases hz
    rw [ho] at f
    refine h xs rfl B F M H σ _ E fun p vs F' H' e h1 h2 h3 r => ?_
    have E' := E.ext e
    refine f F' (fun a => M a ∨ a = p) H' (.ref p) ⟨e.sF, fun a z => (e.new a z).imp_right .inl, fun b o z _ => e.sH b o z, fun a z => ?_⟩ ⟨rfl, E'.sB, E'.sF, fun a z => ?_, fun a z => ?_, fun a z => ?_, fun a xs z => ?_, fun j a => j = 0 ∧ a = p, fun j a z => .inr z.2, fun j k a z1 z2 => z1.1.trans z2.1.symm, fun i => ?_⟩
    · rcases z with z | rfl
      · exact .inl z
      · exact .inr h2
    · rcases z with z | rfl
      · exact E'.mB a z
      · exact none_of_same E.sB h2
    · rcases z with z | rfl
      · exact E'.mF a z
      · exact h1
    · rcases z with z | rfl
      · exact E'.mH a z
      · rw [h3]; exact fun z => nomatch z
    · rcases z with z | rfl
      · exact E'.mT a xs z
      · rw [h3]; exact fun z => nomatch z
    · cases i with
      | zero => exact ⟨p, vs, rfl, h3, r, rfl, rfl⟩
      | succ i => trivial
theorem sv_if {c : TT} {oc : Option Bool} {o1 o2 : Option τ} (h : EvT K ds c oc) (h1 : SvO K ds t o1 out) (h2 : SvO K ds u o2 out) : SvO K ds (tIfS c t u) (oite oc o1 o2) out := by
  intro x hx B F M H σ D E f
  obtain ⟨b, e1, e2⟩ := bind_some' hx
  refine h b e1 B F M H σ _ E fun F' H' e => ?_
  cases b with
  | true => exact h1 x e2 B F' M H' σ D (E.ext e) (f.step (.ofExt e))
  | false => exact h2 x e2 B F' M H' σ D (E.ext e) (f.step (.ofExt e))
/-- an if, then the rest, behind either branch -/
theorem sv_ifs {c : TT} {oc : Option Bool} {o1 o2 : Option τ} (h : EvT K ds c oc) (h1 : SvO K ds (tSeq t w) o1 out) (h2 : SvO K ds (tSeq u w) o2 out) : SvO K ds (tSeq (tIfS c t u) w) (oite oc o1 o2) out :=
  fun x hx B F M H σ D E f => sv_if (t := tSeq t w) (u := tSeq u w) h h1 h2 x hx B F M H σ D E f
/-- a statement that falls through, then the rest -/
theorem sv_then {τ' : Type} {o1 : Option τ'} {e1 : τ' → List Sl} {r : τ' → Option τ} (h : SvO K ds t o1 fun x => .nx (e1 x)) (k : ∀ x, SvO K (e1 x) u (r x) out) : SvO K ds (tSeq t u) (o1.bind r) out := by
  intro x hx B F M H σ D E f
  obtain ⟨y, e1, e2⟩ := bind_some' hx
  exact h y e1 B F M H σ _ E fun F' M' H' σ' s E' => k y x e2 B F' M' H' σ' D E' (f.step s)
theorem sv_assoc {o : Option τ} (h : SvO K ds (tSeq t (tSeq u w)) o out) : SvO K ds (tSeq (tSeq t u) w) o out := h
theorem sv_nx {o : Option τ} (h : SvO K ds u o out) : SvO K ds (tSeq tNext u) o out := h
theorem sv_dead {o : Option τ} (h : SvO K ds (tRet te) o out) : SvO K ds (tSeq (tRet te) u) o out := h
theorem sv_deadC {o : Option τ} (h : SvO K ds tCont o out) : SvO K ds (tSeq tCont u) o out := h
theorem sv_deadB {o : Option τ} (h : SvO K ds tBreak o out) : SvO K ds (tSeq tBreak u) o out := h
theorem sv_drop {o : Option α} {r : α → Option τ} (h : EvO K ds m te o) (k : ∀ x, SvO K ds u (r x) out) : SvO K ds (tSeq (tDrop te) u) (o.bind r) out := by
  intro x hx B F M H σ D E f
  obtain ⟨y, e1, e2⟩ := bind_some' hx
  exact h y e1 B F M H σ _ E fun v F' H' e _ => k y x e2 B F' M H' σ D (E.ext e) (f.step (.ofExt e))
theorem sv_aug {i : Nat} {f : Int → Int → Int} {o : Option Int} {x0 : Int} {r : Int → Option τ} (hi : i < ds.length) (hx : ds[i]? = some (.val (em x0))) (h : EvO K ds m te o) (k : ∀ y, SvO K (ds.set i (.val (em y))) u (r y) out) :
    SvO K ds (tSeq (tAug i te (ipI f)) u) ((o.map fun y => f x0 y).bind r) out := by
  intro x hx2 B F M H σ D E fin
  obtain ⟨y, e1, e2⟩ := bind_some' hx2
  cases o with
  | none => cases e1
  | some y0 =>
    cases e1
    obtain ⟨_, _, v, e, rv⟩ := E.at hx
    refine ⟨v, e, h y0 rfl B F M H σ _ E fun w F' H' e r => ⟨x0, y0, rp_int rv, rp_int r, ?_⟩⟩
    exact k _ x e2 B F' M H' _ D ((E.ext e).setv hi (.int _)) (fin.step (.ofExt e))

/-! ### own lists changed -/
def oapp {α : Type} (xs : List α) (x : α) : Option (List α) := if xs.length < 100000 then some (xs ++ [x]) else none
/-- the own list of slot i is another -/
theorem Env.chown {B F M H σ} (E : Env K B F M H σ ds) {i : Nat} {p : Addr} {ws : List V} {es' : List PyData} {foot : Nat → Addr → Prop} (f1 : ∀ i a, foot i a → M a) (f2 : ∀ i j a, foot i a → foot j a → i = j) (f3 : ∀ i, hold K B F H (ds[i]?.getD .no) (σ[i]?) (foot i))
    (hi : i < ds.length) (e : σ[i]? = some (some (.ref p))) (hm : foot i p) (r : RpA F ws es') : Env K B F M (upd H p (.lst ws)) σ (ds.set i (.own es')) := by
  have hM := f1 i p hm
  have sF : Same F (upd H p (.lst ws)) := same_upd2 E.sF (E.mF p hM)
  refine ⟨by rw [List.length_set, E.len], same_upd2 E.sB (E.mB p hM), sF, E.mB, E.mF, fun a z => ?_, fun a xs z => ?_, foot, f1, f2, fun j => ?_⟩
  · unfold L2.upd
    split
    · exact fun z => nomatch z
    · exact E.mH a z
  · unfold L2.upd
    split
    · exact fun z => nomatch z
    · exact E.mT a xs z
  · rw [getD_set ds i j _ hi]
    by_cases h : j = i
    · subst h
      rw [if_pos rfl]
      exact ⟨p, ws, e, upd_same, r, hm⟩
    · rw [if_neg h]
      refine (f3 j).mono (Same.refl _) (fun a o ha hz => ?_) E.sF sF
      rw [upd_ne fun z => h (f2 j i a ha (by rw [z]; exact hm))]
      exact hz
theorem sv_app {i : Nat} {xs : List α} {o : Option α} {r : List α → Option τ} (hi : i < ds.length) (hx : ds[i]? = some (.own (xs.map em))) (h : EvO K ds .f te o) (k : ∀ ys : List α, SvO K (ds.set i (.own (ys.map em))) u (r ys) out) :
    SvO K ds (tSeq (tDrop (tBM K "list" rAppend (tVar i) (tCons te tNil))) u) ((o.bind fun x => oapp xs x).bind r) out := by
  intro x hx2 B F M H σ D E fin
  obtain ⟨ys, e1, e2⟩ := bind_some' hx2
  obtain ⟨y, e3, e4⟩ := bind_some' e1
  obtain ⟨foot, f1, f2, f3⟩ := id E.ft
  have h3 := f3 i
  rw [hx] at h3
  obtain ⟨p, vs, e, hp, r1, hm⟩ := h3
  refine ⟨.ref p, e, .inl ⟨rfl, _, SqL.of hp⟩, h y e3 B F M H σ _ E fun v F' H' x r2 => ?_⟩
  unfold oapp at e4
  split at e4
  · rename_i hl
    cases e4
    have E' := E.ext x
    have hp' := x.sH _ _ hp
    have f3' : ∀ i, hold K B F' H' (ds[i]?.getD .no) (σ[i]?) (foot i) := fun i => (f3 i).mono x.sF (fun a o _ z => x.sH a o z) E.sF x.sub
    refine ⟨p, vs, v, rfl, rfl, hp', Nat.lt_of_lt_of_le (by rw [r1.len, List.length_map]; exact hl) (by decide : 100000 ≤ sizeLine), ?_⟩
    have r3 : RpA F' (vs ++ [v]) ((xs ++ [y]).map em) := by
      rw [List.map_append]
      exact (r1.mono x.sF).app (.cons r2 .nil)
    refine k _ _ e2 B F' M _ σ D (E'.chown f1 f2 f3' hi e hm r3) (fin.step ⟨x.sF, fun a z => (x.new a z).imp_right .inl, fun b o z nm => ?_, fun a z => .inl z⟩)
    rw [upd_ne fun q => nm (by rw [q]; exact f1 i p hm)]
    exact x.sH b o z
  · cases e4
def oset {α : Type} (xs : List α) (i : Int) (x : α) : Option (List α) := (ixN xs.length i).map fun j => xs.set j x
theorem sv_set {i : Nat} {xs : List α} {o : Option α} {oi : Option Int} {r : List α → Option τ} (hi : i < ds.length) (hx : ds[i]? = some (.own (xs.map em))) (h : EvO K ds .f te o) (h2 : EvO K ds m2 tb oi) (k : ∀ ys : List α, SvO K (ds.set i (.own (ys.map em))) u (r ys) out) :
    SvO K ds (tSeq (tAsg te (gSub (tVar i) tb rSetL)) u) ((o.bind fun x => oi.bind fun j => oset xs j x).bind r) out := by
  intro x hx2 B F M H σ D E fin
  obtain ⟨ys, e1, e2⟩ := bind_some' hx2
  obtain ⟨y, e3, e4⟩ := bind_some' e1
  obtain ⟨jj, e5, e6⟩ := bind_some' e4
  obtain ⟨foot, f1, f2, f3⟩ := id E.ft
  have h3 := f3 i
  rw [hx] at h3
  obtain ⟨p, vs, e, hp, r1, hm⟩ := h3
  refine h y e3 B F M H σ _ E fun v F' H' x r2 => ⟨.ref p, e, h2 jj e5 B F' M H' σ _ (E.ext x) fun w F2 H2 x2 r4 => ?_⟩
  unfold oset at e6
  cases hj : ixN xs.length jj with
  | none => rw [hj] at e6; cases e6
  | some j =>
    rw [hj] at e6
    cases e6
    have xx := x.trans x2
    have E' := E.ext xx
    have hp' := xx.sH _ _ hp
    have f3' : ∀ i, hold K B F2 H2 (ds[i]?.getD .no) (σ[i]?) (foot i) := fun i => (f3 i).mono xx.sF (fun a o _ z => xx.sH a o z) E.sF xx.sub
    refine ⟨p, vs, jj, j, rfl, rp_int r4, hp', by rw [r1.len, List.length_map]; exact hj, ?_⟩
    have r3 : RpA F2 (vs.set j v) ((xs.set j y).map em) := by
      rw [List.map_set]
      exact (r1.mono xx.sF).set (r2.mono x2.sF) j
    refine k _ _ e2 B F2 M _ σ D (E'.chown f1 f2 f3' hi e hm r3) (fin.step ⟨xx.sF, fun a z => (xx.new a z).imp_right .inl, fun b o z nm => ?_, fun a z => .inl z⟩)
    rw [upd_ne fun q => nm (by rw [q]; exact f1 i p hm)]
    exact xx.sH b o z
/-- an own list is frozen from here on -/
theorem sv_froze {i : Nat} {xs : List α} {o : Option τ} (hi : i < ds.length) (hx : ds[i]? = some (.own (xs.map em))) (k : SvO K (ds.set i (.val (em xs))) u o out) : SvO K ds u o out := by
  intro x hx2 B F M H σ D E fin
  obtain ⟨len, sB, sF, mB, mF, mH, mT, foot, f1, f2, f3⟩ := E
  have h3 := f3 i
  rw [hx] at h3
  obtain ⟨p, vs, e, hp, r, hm⟩ := h3
  have hF := mF p (f1 i p hm)
  have sF' : Same (upd F p (.lst vs)) H := fun b u z => by
    unfold L2.upd at z
    split at z
    · rename_i hb; rw [hb, hp]; exact z
    · exact sF b u z
  refine k x hx2 B (upd F p (.lst vs)) (fun a => M a ∧ a ≠ p) H σ D ⟨by rw [List.length_set, len], sB, sF', fun a z => mB a z.1, fun a z => by rw [upd_ne z.2]; exact mF a z.1, fun a z => mH a z.1, fun a xs z => mT a xs z.1, fun j a => foot j a ∧ j ≠ i, fun j a z => ⟨f1 j a z.1, fun q => z.2 (f2 j i a z.1 (q ▸ hm))⟩, fun j k a z1 z2 => f2 j k a z1.1 z2.1, fun j => ?_⟩
    (fin.step ⟨same_upd hF, fun a z => ?_, fun b o z _ => z, fun a z => .inl z.1⟩)
  · rw [getD_set ds i j _ hi]
    by_cases h : j = i
    · subst h
      rw [if_pos rfl]
      exact ⟨.ref p, e, .lst upd_same (r.mono (same_upd hF))⟩
    · rw [if_neg h]
      have q := (f3 j).mono (same_upd (o := HO.lst vs) hF) (fun a o _ z => z) sF sF'
      have : (fun a => foot j a ∧ j ≠ i) = foot j := by
        funext a
        simp [h]
      show hold K B (upd F p (HO.lst vs)) H (ds[j]?.getD Sl.no) σ[j]? (fun a => foot j a ∧ j ≠ i)
      rw [this]
      exact q
  · by_cases ha : a = p
    · exact .inr (.inr (ha ▸ f1 i p hm))
    · rw [upd_ne ha] at z; exact .inl z
end

/-! ### loops -/
inductive Flow (σ ρ : Type) | nx (s : σ) | bk (s : σ) | dn (r : ρ)
def loopM {α S ρ : Type} (f : S → α → Option (Flow S ρ)) : List α → S → Option (Flow S ρ)
  | [], s => some (.nx s)
  | x :: xs, s => (f s x).bind fun fl => match fl with | .nx s' => loopM f xs s' | .bk s' => some (.nx s') | .dn r => some (.dn r)
def whileM {S ρ : Type} (c : S → Option Bool) (f : S → Option (Flow S ρ)) : Nat → S → Option (Flow S ρ)
  | 0, _ => none
  | n + 1, s => (c s).bind fun b => if b then (f s).bind fun fl => match fl with | .nx s' => whileM c f n s' | .bk s' => some (.nx s') | .dn r => some (.dn r) else some (.nx s)
/-- what comes behind a loop -/
def after {S ρ τ : Type} (o : Option (Flow S ρ)) (k : S → Option τ) (d : ρ → Option τ) : Option τ := o.bind fun fl => match fl with | .nx s => k s | .bk s => k s | .dn r => d r
/-- something to be walked -/
def EvW (K : PySem.W.Frag) (ds : List Sl) (m : Md) (wi : TI) {α : Type} [Em α] (o : Option (List α)) : Prop := ∀ xs, o = some xs → ∀ B F M H σ R, Env K B F M H σ ds →
  (∀ J F' H' vs, Ext F H F' H' → L2.Walk J xs.length (fun H2 => Same F' H2 ∧ Same B H2) (L2.YAt vs) → m ≠ .h → RpA (hp m B F' H') vs (xs.map em) → R J H') → wi σ H R
section
variable {K : PySem.W.Frag} {ds es : List Sl} {ta tb tc te tl : TE} {t u w : TS} {g : TG} {wi : TI} {m m1 m2 : Md} {α β γ τ S ρ : Type} [Em α] [Em β] [Em γ] {out : τ → Out}
theorem ew_f {o : Option (List α)} (h : EvO K ds .f tl o) : EvW K ds .f (iList K tl) o := fun xs hx B F M H σ R E q => by
  refine h xs hx B F M H σ _ E fun v F' H' e r => ?_
  obtain ⟨p, vs, rfl, hp, ra⟩ := rp_list r
  refine ⟨p, rfl, ⟨vs, SqL.of (e.sub _ _ hp)⟩, q _ F' H' vs e ?_ (fun z => nomatch z) ra⟩
  have hl : xs.length = vs.length := by rw [ra.len, List.length_map]
  rw [hl]
  exact L2.Walk.mono L2.walk_list (fun H2 s => SqL.of (s.1 _ _ hp)) fun _ _ _ _ _ _ y => y
theorem ew_b {o : Option (List α)} (h : EvO K ds .b tl o) : EvW K ds .b (iList K tl) o := fun xs hx B F M H σ R E q => by
  refine h xs hx B F M H σ _ E fun v F' H' e r => ?_
  obtain ⟨p, vs, rfl, hp, ra⟩ := rp_list r
  refine ⟨p, rfl, ⟨vs, SqL.of ((E.ext e).sB _ _ hp)⟩, q _ F' H' vs e ?_ (fun z => nomatch z) ra⟩
  have hl : xs.length = vs.length := by rw [ra.len, List.length_map]
  rw [hl]
  exact L2.Walk.mono L2.walk_list (fun H2 s => SqL.of (s.2 _ _ hp)) fun _ _ _ _ _ _ y => y
/-- the script itself -/
theorem ew_scr {i : Nat} {ns : List Int} (h : ds[i]? = some (.scr ns)) : EvW K ds .f (iList K (tVar i)) (some ns) := fun xs hx B F M H σ R E q => by
  cases hx
  obtain ⟨_, _, a, e, r⟩ := E.at h
  refine ⟨.ref a, e, a, rfl, ⟨_, E.sB.seq r⟩, q _ F H _ (Ext.refl E.sF) ?_ (fun z => nomatch z) (RpA.ofInts ns)⟩
  have hl : ns.length = (ns.map V.int).length := by rw [List.length_map]
  rw [hl]
  exact L2.Walk.mono L2.walk_list (fun H2 s => s.2.seq r) fun _ _ _ _ _ _ y => y
def upto (n : Nat) (lo c : Int) : List Int := (List.range n).map fun i => lo + (i : Nat) * c
theorem upto_len (n : Nat) (lo c : Int) : (upto n lo c).length = n := by simp [upto]
theorem upto_get {n : Nat} {lo c : Int} {i : Nat} (h : i < n) : (upto n lo c)[i]? = some (lo + (i : Nat) * c) := by
  simp [upto, List.getElem?_map, h]
theorem walk_upto {J : It} {n : Nat} {lo c : Int} {G : Hp → Prop} (w : L2.Walk J n G (L2.YFn fun i => .int (lo + (i : Nat) * c))) (G' : Hp → Prop) (hg : ∀ H, G' H → G H) : L2.Walk J (upto n lo c).length G' (L2.YAt ((upto n lo c).map V.int)) := by
  rw [upto_len]
  refine L2.Walk.mono w hg fun i H x H' hi _ y => ⟨y.1, ?_⟩
  rw [List.getElem?_map, upto_get hi, y.2]
  rfl
def orange1 (o : Option Int) : Option (List Int) := o.bind fun n => if -(2 ^ 62) ≤ n ∧ n < 2 ^ 62 then some (upto n.toNat 0 1) else none
theorem ew_range1 {o : Option Int} (h : EvO K ds m te o) : EvW K ds .f (iRng1 (tCons te tNil)) (orange1 o) := fun xs hx B F M H σ R E q => by
  obtain ⟨n, e1, e2⟩ := bind_some' hx
  split at e2
  · rename_i hb
    cases e2
    refine h n e1 B F M H σ _ E fun v F' H' e r => ⟨n, by rw [rp_int r], hb.1, hb.2, q _ F' H' _ e ?_ (fun z => nomatch z) (RpA.ofInts _)⟩
    refine walk_upto (L2.Walk.mono (G' := fun _ => True) L2.walk_range (fun _ z => z) fun i H x H' _ _ y => ⟨y.1, ?_⟩) _ fun _ _ => trivial
    rw [y.2]
    show V.int _ = V.int _
    rw [Int.mul_one]
  · cases e2
def orange2 (o1 o2 : Option Int) : Option (List Int) := obin (fun i j => if -(2 ^ 62) ≤ i ∧ i < 2 ^ 62 ∧ -(2 ^ 62) ≤ j ∧ j < 2 ^ 62 then some (upto (j - i).toNat i 1) else none) o1 o2
theorem ew_range2 {o1 o2 : Option Int} (h1 : EvO K ds m1 ta o1) (h2 : EvO K ds m2 tb o2) : EvW K ds .f (iRng2 (tCons ta (tCons tb tNil))) (orange2 o1 o2) := fun xs hx B F M H σ R E q => by
  obtain ⟨i, j, e1, e2, e3⟩ := obin_some hx
  split at e3
  · rename_i hb
    cases e3
    refine ev2 h1 h2 e1 e2 E fun v w F' H' e r1 r2 => ⟨i, j, by rw [rp_int r1, rp_int r2], hb, q _ F' H' _ e ?_ (fun z => nomatch z) (RpA.ofInts _)⟩
    refine walk_upto (L2.Walk.mono (G' := fun _ => True) L2.walk_range (fun _ z => z) fun i H x H' _ _ y => ⟨y.1, ?_⟩) _ fun _ _ => trivial
    rw [y.2]
    show V.int _ = V.int _
    rw [Int.mul_one]
  · cases e3
/-- the number of turns of range(i, j, c) -/
def turns (i j c : Int) : Nat := if 0 < c then ((j - i + c - 1) / c).toNat else ((i - j + -c - 1) / -c).toNat
def RgOk (i j c : Int) : Prop := RgC i j c (turns i j c)
instance {i j c : Int} : Decidable (RgOk i j c) := by unfold RgOk RgC; infer_instance
def orange3 (o1 o2 o3 : Option Int) : Option (List Int) := o1.bind fun i => o2.bind fun j => o3.bind fun c => if RgOk i j c then some (upto (turns i j c) i c) else none
theorem ew_range3 {o1 o2 o3 : Option Int} (h1 : EvO K ds m1 ta o1) (h2 : EvO K ds m2 tb o2) (h3 : EvO K ds m tc o3) : EvW K ds .f (iRng3 (tCons ta (tCons tb (tCons tc tNil)))) (orange3 o1 o2 o3) := fun xs hx B F M H σ R E q => by
  obtain ⟨i, e1, hx⟩ := bind_some' hx
  obtain ⟨j, e2, hx⟩ := bind_some' hx
  obtain ⟨c, e3, hx⟩ := bind_some' hx
  split at hx
  · rename_i hb
    cases hx
    refine h1 i e1 B F M H σ _ E fun v1 F1 H1 x1 r1 => h2 j e2 B F1 M H1 σ _ (E.ext x1) fun v2 F2 H2 x2 r2 => h3 c e3 B F2 M H2 σ _ ((E.ext x1).ext x2) fun v3 F3 H3 x3 r3 =>
      ⟨i, j, c, turns i j c, by rw [rp_int r1, rp_int r2, rp_int r3], hb, q _ F3 H3 _ ((x1.trans x2).trans x3) ?_ (fun z => nomatch z) (RpA.ofInts _)⟩
    exact walk_upto L2.walk_rangeC _ fun _ _ => trivial
  · cases hx
theorem Env.sub {B F M H σ} (E : Env K B F M H σ ds) : Same F H ∧ Same B H := ⟨E.sF, E.sB⟩
theorem hp_FB {m : Md} (hm : m ≠ .h) {B F F' H H' : Hp} (s : Same F F') : Same (hp m B F H) (hp m B F' H') := by
  cases m with
  | f => exact s
  | b => exact Same.refl _
  | h => exact absurd rfl hm
theorem sv_for {js : List Nat} {o : Option (List α)} {E : S → List Sl} {s0 : S} {d1 : S → α → List Sl} {f : S → α → Option (Flow S ρ)} {bo : Flow S ρ → Out} {k : S → Option τ} {kd : ρ → Option τ}
    (hw : EvW K ds m wi o) (l0 : Le ds (E s0)) (tg : ∀ s x, Tg K m (E s) g js (em x) (d1 s x)) (body : ∀ s x, SvO K (d1 s x) t (f s x) bo) (b1 : ∀ s, bo (.nx s) = .lp (E s)) (b2 : ∀ s, bo (.bk s) = .bk (E s)) (b3 : ∀ r x, kd r = some x → bo (.dn r) = out x ∧ (bo (.dn r)).isRt = true)
    (rest : ∀ s, SvO K (E s) u (k s) out) : SvO K ds (tSeq (tFor wi g t) u) (o.bind fun xs => after (loopM f xs s0) k kd) out := by
  intro z hz B F M H σ D Ev fin
  obtain ⟨xs, e1, e2⟩ := bind_some' hz
  refine hw xs e1 B F M H σ _ Ev fun J F1 H1 vs x wk hm ra => ?_
  have E1 := Ev.ext x
  have fin1 := fin.step (.ofExt (M := M) x)
  refine L2.for_it wk (D := { D with nx := u D }) (fun i σ' H' => ∃ F' M' s, Stp F1 M H1 F' M' H' ∧ Env K B F' M' H' σ' (E s) ∧ after (loopM f (xs.drop i) s) k kd = some z) ⟨F1, M, s0, .refl, E1.le l0, e2⟩
    (fun i σ' H' _ ⟨F', M', s, st, E', _⟩ => ⟨st.sF.trans E'.sF, E'.sB⟩) ?_ ?_
  · rintro i v σ' H' H'' hi ⟨F', M', s, st, E', hk⟩ ⟨rfl, hv⟩
    obtain ⟨d, hd, rd⟩ := ra.getV hv
    rw [List.getElem?_map] at hd
    cases hy : xs[i]? with
    | none => rw [hy] at hd; cases hd
    | some y =>
      rw [hy] at hd
      cases hd
      have hdr : xs.drop i = y :: xs.drop (i + 1) := by
        have hlt := (List.getElem?_eq_some_iff.mp hy).1
        rw [List.drop_eq_getElem_cons hlt]
        rw [(List.getElem?_eq_some_iff.mp hy).2]
      rw [hdr] at hk
      unfold after at hk
      obtain ⟨fl, hfl, hk⟩ := bind_some' hk
      simp only [loopM] at hfl
      obtain ⟨fb, hfb, hfl⟩ := bind_some' hfl
      refine tg s y B F' M' H'' σ' v _ E' (rd.mono (hp_FB hm st.sF)) fun σ2 E2 _ _ => ?_
      refine body s y fb hfb B F' M' H'' σ2 _ E2 ?_
      cases fb with
      | nx s' =>
        rw [b1]
        intro F3 M3 H3 σ3 st3 E3
        have : after (loopM f (xs.drop (i + 1)) s') k kd = some z := by unfold after; rw [show loopM f (xs.drop (i + 1)) s' = some fl from hfl]; exact hk
        exact ⟨⟨F3, M3, s', st.trans st3, E3, this⟩, ⟨F3, M3, s', st.trans st3, E3, this⟩⟩
      | bk s' =>
        rw [b2]
        cases hfl
        intro F3 M3 H3 σ3 st3 E3
        exact rest s' z hk B F3 M3 H3 σ3 D E3 (fin1.step (st.trans st3))
      | dn r =>
        cases hfl
        obtain ⟨q1, q2⟩ := b3 r z hk
        exact Fin.rt_any (q1 ▸ fin1.step st) q2
  · rintro σ' H' ⟨F', M', s, st, E', hk⟩
    rw [show xs.drop xs.length = [] from List.drop_length] at hk
    exact rest s z hk B F' M' H' σ' D E' (fin1.step st)
theorem sv_while {E : S → List Sl} {s0 : S} {c : S → Option Bool} {tt : TT} {f : S → Option (Flow S ρ)} {bo : Flow S ρ → Out} {k : S → Option τ} {kd : ρ → Option τ} {n : Nat}
    (l0 : Le ds (E s0)) (hc : ∀ s, EvT K (E s) tt (c s)) (body : ∀ s, SvO K (E s) t (f s) bo) (b1 : ∀ s, bo (.nx s) = .lp (E s)) (b2 : ∀ s, bo (.bk s) = .bk (E s)) (b3 : ∀ r x, kd r = some x → bo (.dn r) = out x ∧ (bo (.dn r)).isRt = true)
    (rest : ∀ s, SvO K (E s) u (k s) out) : SvO K ds (tSeq (tWhile tt t) u) (after (whileM c f n s0) k kd) out := by
  intro z hz B F M H σ D Ev fin
  refine ⟨fun i σ' H' => ∃ F' M' s, Stp F M H F' M' H' ∧ Env K B F' M' H' σ' (E s) ∧ after (whileM c f i s) k kd = some z, ⟨n, F, M, s0, .refl, Ev.le l0, hz⟩, ?_⟩
  rintro i σ' H' ⟨F', M', s, st, E', hk⟩
  cases i with
  | zero => cases hk
  | succ i =>
    unfold after at hk
    obtain ⟨fl, hfl, hk⟩ := bind_some' hk
    simp only [whileM] at hfl
    obtain ⟨b, hb, hfl⟩ := bind_some' hfl
    refine hc s b hb B F' M' H' σ' _ E' fun F1 H1 x => ?_
    have st1 := st.trans (.ofExt (M := M') x)
    have E1 := E'.ext x
    cases b with
    | false =>
      cases hfl
      exact rest s z hk B F1 M' H1 σ' D E1 (fin.step st1)
    | true =>
      obtain ⟨fb, hfb, hfl⟩ := bind_some' (show (f s).bind _ = some fl from hfl)
      show ∃ N, _
      refine ⟨fun σ2 H2 => ∃ F' M' s, Stp F M H F' M' H2 ∧ Env K B F' M' H2 σ2 (E s) ∧ after (whileM c f i s) k kd = some z, fun σ2 H2 h2 => ⟨i, Nat.lt_succ_self i, h2⟩, ?_⟩
      refine body s fb hfb B F1 M' H1 σ' _ E1 ?_
      cases fb with
      | nx s' =>
        rw [b1]
        intro F3 M3 H3 σ3 st3 E3
        have : after (whileM c f i s') k kd = some z := by unfold after; rw [show whileM c f i s' = some fl from hfl]; exact hk
        exact ⟨⟨F3, M3, s', st1.trans st3, E3, this⟩, ⟨F3, M3, s', st1.trans st3, E3, this⟩⟩
      | bk s' =>
        rw [b2]
        cases hfl
        intro F3 M3 H3 σ3 st3 E3
        exact rest s' z hk B F3 M3 H3 σ3 D E3 (fin.step (st1.trans st3))
      | dn r =>
        cases hfl
        obtain ⟨q1, q2⟩ := b3 r z hk
        exact Fin.rt_any (q1 ▸ fin.step st1) q2
end

/-! ### comprehensions -/
def wipeD (ds : List Sl) : List Nat → List Sl
  | [] => ds
  | v :: vs => (wipeD ds vs).set v .no
theorem Env.setno {K B F M H σ ds} (E : Env K B F M H σ ds) {i : Nat} : Env K B F M H (σ.set i none) (ds.set i .no) := by
  obtain ⟨len, sB, sF, mB, mF, mH, mT, foot, f1, f2, f3⟩ := E
  refine ⟨by rw [List.length_set, List.length_set, len], sB, sF, mB, mF, mH, mT, foot, f1, f2, fun j => ?_⟩
  by_cases h : j = i
  · subst h
    by_cases hl : j < ds.length
    · rw [List.getElem?_set_self hl]; trivial
    · rw [List.getElem?_eq_none (by rw [List.length_set]; omega)]; trivial
  · rw [List.getElem?_set_ne (fun e => h e.symm), List.getElem?_set_ne (fun e => h e.symm)]
    exact f3 j
theorem Env.wipe {K B F M H σ ds} (E : Env K B F M H σ ds) : ∀ vs, Env K B F M H (L2.wipe σ vs) (wipeD ds vs)
  | [] => E
  | v :: vs => (E.wipe vs).setno
theorem wipe_at (σ : L2.St) (i : Nat) : ∀ vs : List Nat, i ∉ vs → (L2.wipe σ vs)[i]? = σ[i]?
  | [], _ => rfl
  | v :: vs, h => by
    simp only [List.mem_cons, not_or] at h
    show ((L2.wipe σ vs).set v none)[i]? = _
    rw [List.getElem?_set_ne (fun e => h.1 e.symm), wipe_at σ i vs h.2]
theorem wipe_no (σ : L2.St) (i : Nat) (hi : i < σ.length) : ∀ vs : List Nat, i ∈ vs → (L2.wipe σ vs)[i]? = some none
  | [], h => by cases h
  | v :: vs, h => by
    show ((L2.wipe σ vs).set v none)[i]? = _
    by_cases e : v = i
    · subst e
      rw [List.getElem?_set_self (by rw [L2.wipe_length]; exact hi)]
    · rw [List.getElem?_set_ne e]
      exact wipe_no σ i hi vs ((List.mem_cons.mp h).resolve_left fun z => e z.symm)
theorem wipe_eq {σ σ2 : L2.St} {vs js : List Nat} (hl : σ2.length = (L2.wipe σ vs).length) (hj : ∀ i ∈ js, i ∈ vs) (ho : ∀ i, i ∉ js → σ2[i]? = (L2.wipe σ vs)[i]?) : L2.wipe σ2 vs = L2.wipe σ vs := by
  rw [L2.wipe_length] at hl
  refine List.ext_getElem? fun i => ?_
  by_cases h : i ∈ vs
  · by_cases hi : i < σ.length
    · rw [wipe_no σ i hi vs h, wipe_no σ2 i (by omega) vs h]
    · rw [List.getElem?_eq_none (by rw [L2.wipe_length]; omega), List.getElem?_eq_none (by rw [L2.wipe_length]; omega)]
  · rw [wipe_at σ2 i vs h, ho i fun z => h (hj i z)]
def ocomp {α β : Type} (c : α → Option Bool) (k : α → Option β) : List α → Option (List β)
  | [] => some []
  | x :: xs => (c x).bind fun b => if b then (k x).bind fun y => (ocomp c k xs).bind fun ys => some (y :: ys) else ocomp c k xs
theorem ocomp_len {α β : Type} {c : α → Option Bool} {k : α → Option β} : ∀ {xs : List α} {ys : List β}, ocomp c k xs = some ys → ys.length ≤ xs.length
  | [], ys, h => by cases h; exact Nat.le_refl _
  | x :: xs, ys, h => by
    simp only [ocomp] at h
    obtain ⟨b, _, h⟩ := bind_some' h
    cases b with
    | false => exact Nat.le_succ_of_le (ocomp_len (show ocomp c k xs = some ys from h))
    | true =>
      obtain ⟨y, _, h⟩ := bind_some' (show (k x).bind _ = some ys from h)
      obtain ⟨zs, h1, h⟩ := bind_some' h
      cases h
      have := ocomp_len h1
      simp only [List.length_cons]
      omega
def olc {α β : Type} (o : Option (List α)) (c : α → Option Bool) (k : α → Option β) : Option (List β) := o.bind fun xs => if xs.length ≤ 100000 then ocomp c k xs else none
section
variable {K : PySem.W.Frag} {ds es : List Sl} {ta tb tc te tl : TE} {tt : TT} {g : TG} {wi : TI} {m m1 m2 : Md} {α β γ τ S ρ : Type} [Em α] [Em β] [Em γ]
theorem et_yes : EvT K ds tYes (some true) := fun b hb B F M H σ Q E q => by cases hb; exact q F H (Ext.refl E.sF)
theorem el_lc {vs js : List Nat} {o : Option (List α)} {d1 : α → List Sl} {c : α → Option Bool} {k : α → Option β} (hw : EvW K ds m wi o) (tg : ∀ x, Tg K m (wipeD ds vs) g js (em x) (d1 x)) (hj : ∀ i ∈ js, i ∈ vs)
    (ht : ∀ x, EvT K (d1 x) tt (c x)) (he : ∀ x, EvO K (d1 x) .f te (k x)) : EvL K ds (tLc wi g tt te vs) (olc o c k) := by
  intro ys hy B F M H σ Q Ev q
  obtain ⟨xs, e1, e2⟩ := bind_some' hy
  split at e2
  · rename_i hlen
    refine hw xs e1 B F M H σ _ Ev fun J F1 H1 vl x wk hm ra D hD => ?_
    have E1 := Ev.ext x
    have DF1 : F1 D = none := none_of_same x.sub hD
    have DB : B D = none := none_of_same E1.sB hD
    refine L2.lc_it wk (fun i H' => ∃ F' acc done todo, Ext F1 H1 F' H' ∧ F' D = none ∧ H' D = some (.lst acc) ∧ RpA F' acc (done.map em) ∧ ocomp c k (xs.drop i) = some todo ∧ done ++ todo = ys) ⟨F1, [], [], ys, .new0 x.sub hD, DF1, upd_same, .nil, e2, rfl⟩
      (fun i H' _ ⟨F', acc, dn, td, xx, _⟩ => ⟨xx.sF.trans xx.sub, E1.sB.trans xx.sH⟩) ?_ ?_
    · rintro i v H' H'' hi ⟨F', acc, dn, td, xx, dF, dH, ra2, hk, hd⟩ ⟨rfl, hv⟩
      obtain ⟨d, hd', rd⟩ := ra.getV hv
      rw [List.getElem?_map] at hd'
      cases hy : xs[i]? with
      | none => rw [hy] at hd'; cases hd'
      | some y =>
        rw [hy] at hd'
        cases hd'
        have hdr : xs.drop i = y :: xs.drop (i + 1) := by
          have hlt := (List.getElem?_eq_some_iff.mp hy).1
          rw [List.drop_eq_getElem_cons hlt]
          rw [(List.getElem?_eq_some_iff.mp hy).2]
        rw [hdr] at hk
        simp only [ocomp] at hk
        obtain ⟨b, hb, hk⟩ := bind_some' hk
        have E2 := (E1.ext xx).wipe vs
        refine tg y B F' M H'' _ v _ E2 (rd.mono (hp_FB hm xx.sF)) fun σ2 E3 l3 o3 => ⟨wipe_eq l3 hj o3, ?_⟩
        refine ht y b hb B F' M H'' σ2 _ E3 fun F3 H3 x3 => ?_
        have dF3 : ∀ {G : Hp}, (∀ a, G a ≠ none → F' a ≠ none ∨ (H'' a = none ∨ IsTp H'' a)) → G D = none := fun {G} hn => by
          cases z : G D with
          | none => rfl
          | some o =>
            rcases hn D (by rw [z]; exact fun z => nomatch z) with h | h | ⟨ts, h⟩
            · exact absurd dF h
            · rw [dH] at h; cases h
            · rw [dH] at h; cases h
        cases b with
        | false => exact ⟨F3, acc, dn, td, xx.trans x3, dF3 x3.new, x3.sH _ _ dH, ra2.mono x3.sF, hk, hd⟩
        | true =>
          obtain ⟨z, hz, hk⟩ := bind_some' (show (k y).bind _ = some td from hk)
          obtain ⟨zs, hzs, hk⟩ := bind_some' hk
          cases hk
          show te σ2 H3 _
          refine he y z hz B F3 M H3 σ2 _ (E3.ext x3) fun w F4 H4 x4 rw4 => ?_
          have x34 := x3.trans x4
          have hacc : acc.length = dn.length := by rw [ra2.len, List.length_map]
          have hle : dn.length + (z :: zs).length ≤ xs.length := by
            have h1 := congrArg List.length hd
            rw [List.length_append] at h1
            have h2 := ocomp_len e2
            omega
          refine ⟨acc, x34.sH _ _ dH, Nat.lt_of_lt_of_le (show acc.length < 100001 by simp only [List.length_cons] at hle; omega) (by decide), F4, acc ++ [w], dn ++ [z], zs, ?_, dF3 x34.new, upd_same, ?_, hzs, by rw [List.append_assoc]; exact hd⟩
          · have xa := xx.trans x34
            exact ⟨xa.sF, same_upd2 xa.sH hD, same_upd2 xa.sub (dF3 x34.new), xa.new⟩
          · rw [List.map_append]
            exact (ra2.mono x34.sF).app (.cons rw4 .nil)
    · rintro H' ⟨F', acc, dn, td, xx, dF, dH, ra2, hk, hd⟩
      rw [show xs.drop xs.length = [] from List.drop_length] at hk
      cases hk
      rw [List.append_nil] at hd
      subst hd
      exact q D acc F' H' (x.trans xx) dF (none_of_same x.sH hD) dH ra2
  · cases e2
end

/-! ### own defs -/
inductive Ar | f (d : PyData) | r (d : PyData) | s (ns : List Int) | di (kvs : List (Int × PyData)) | dp (kvs : List ((Int × Int) × PyData))
def Ar.sl : Ar → Sl
  | .f d => .val d
  | .r d => .rd d
  | .s ns => .scr ns
  | .di kvs => .rdi kvs
  | .dp kvs => .rdp kvs
def AOk (K : PySem.W.Frag) (F H : Hp) : List V → List Ar → Prop
  | [], [] => True
  | v :: vs, .f d :: l => Rp F v d ∧ AOk K F H vs l
  | v :: vs, .r d :: l => Rp H v d ∧ AOk K F H vs l
  | v :: vs, .s ns :: l => (∃ a, v = .ref a ∧ SqL K H a (ns.map V.int)) ∧ AOk K F H vs l
  | v :: vs, .di kvs :: l => (∃ p kv, v = .ref p ∧ H p = some (diO kv) ∧ KvR H kv kvs) ∧ AOk K F H vs l
  | v :: vs, .dp kvs :: l => (∃ p kv, v = .ref p ∧ H p = some (dpO kv) ∧ KvR H kv kvs) ∧ AOk K F H vs l
  | _, _ => False
theorem AOk.len {K F H} : ∀ {vs : List V} {l : List Ar}, AOk K F H vs l → vs.length = l.length
  | [], [], _ => rfl
  | v :: vs, .f d :: l, h => by simp [AOk.len h.2]
  | v :: vs, .r d :: l, h => by simp [AOk.len h.2]
  | v :: vs, .s d :: l, h => by simp [AOk.len h.2]
  | v :: vs, .di d :: l, h => by simp [AOk.len h.2]
  | v :: vs, .dp d :: l, h => by simp [AOk.len h.2]
  | [], _ :: _, h => h.elim
  | _ :: _, [], h => h.elim
theorem AOk.at {K F H} : ∀ {vs : List V} {l : List Ar}, AOk K F H vs l → ∀ i : Nat, hold K H F H (((l.map Ar.sl)[i]?).getD .no) (vs[i]?.map some) fun _ => False
  | [], [], _, i => by simp only [List.map_nil, List.getElem?_nil]; trivial
  | v :: vs, .f d :: l, h, 0 => ⟨v, rfl, h.1⟩
  | v :: vs, .r d :: l, h, 0 => ⟨v, rfl, h.1⟩
  | v :: vs, .s d :: l, h, 0 => by obtain ⟨a, rfl, q⟩ := h.1; exact ⟨a, rfl, q⟩
  | v :: vs, .di d :: l, h, 0 => by obtain ⟨p, kv, rfl, q⟩ := h.1; exact ⟨p, kv, rfl, q⟩
  | v :: vs, .dp d :: l, h, 0 => by obtain ⟨p, kv, rfl, q⟩ := h.1; exact ⟨p, kv, rfl, q⟩
  | v :: vs, .f d :: l, h, i + 1 => by simpa using AOk.at h.2 i
  | v :: vs, .r d :: l, h, i + 1 => by simpa using AOk.at h.2 i
  | v :: vs, .s d :: l, h, i + 1 => by simpa using AOk.at h.2 i
  | v :: vs, .di d :: l, h, i + 1 => by simpa using AOk.at h.2 i
  | v :: vs, .dp d :: l, h, i + 1 => by simpa using AOk.at h.2 i
  | [], _ :: _, h, _ => h.elim
  | _ :: _, [], h, _ => h.elim
/-- a def that hands back data | a new list -/
def spP (K : PySem.W.Frag) {τ β : Type} [Em β] (A : τ → List Ar) (f : τ → Option β) : Sp := fun vs H Q _ => ∃ F t b, Same F H ∧ AOk K F H vs (A t) ∧ f t = some b ∧ ∀ v F' H', Ext F H F' H' → Rp F' v (em b) → Q v H'
def spL (K : PySem.W.Frag) {τ β : Type} [Em β] (A : τ → List Ar) (f : τ → Option (List β)) : Sp := fun vs H Q _ => ∃ F t b, Same F H ∧ AOk K F H vs (A t) ∧ f t = some b ∧
  ∀ p ws F' H', Ext F H F' H' → F' p = none → H p = none → H' p = some (.lst ws) → RpA F' ws (b.map em) → Q (.ref p) H'
def EvA (K : PySem.W.Frag) (ds : List Sl) (ta : TA) {τ : Type} (o : Option τ) (A : τ → List Ar) : Prop := ∀ t, o = some t → ∀ B F M H σ Q, Env K B F M H σ ds → (∀ vs F' H', Ext F H F' H' → AOk K F' H' vs (A t) → Q vs H') → ta σ H Q
def oarg {α τ : Type} (a : Option α) (b : Option τ) : Option (α × τ) := obin (fun x t => some (x, t)) a b
theorem AOk.mono {K F H F' H'} (x : Ext F H F' H') : ∀ {vs : List V} {l : List Ar}, AOk K F H vs l → AOk K F' H' vs l
  | [], [], _ => trivial
  | v :: vs, .f d :: l, h => ⟨h.1.mono x.sF, AOk.mono x h.2⟩
  | v :: vs, .r d :: l, h => ⟨h.1.mono x.sH, AOk.mono x h.2⟩
  | v :: vs, .s d :: l, h => ⟨by obtain ⟨a, e, q⟩ := h.1; exact ⟨a, e, x.sH.seq q⟩, AOk.mono x h.2⟩
  | v :: vs, .di d :: l, h => ⟨by obtain ⟨p, kv, e, q, r⟩ := h.1; exact ⟨p, kv, e, x.sH _ _ q, r.mono x.sH⟩, AOk.mono x h.2⟩
  | v :: vs, .dp d :: l, h => ⟨by obtain ⟨p, kv, e, q, r⟩ := h.1; exact ⟨p, kv, e, x.sH _ _ q, r.mono x.sH⟩, AOk.mono x h.2⟩
  | [], _ :: _, h => h.elim
  | _ :: _, [], h => h.elim
section
variable {K : PySem.W.Frag} {ds : List Sl} {ta tb tc te : TE} {tr : TA} {m m1 m2 : Md} {α β γ τ : Type} [Em α] [Em β] [Em γ]
theorem ea_nil : EvA K ds tNil (some ()) fun _ => [] := fun t _ B F M H σ Q E q => q [] F H (Ext.refl E.sF) trivial
theorem ea_f {o : Option α} {os : Option τ} {A : τ → List Ar} (h : EvO K ds .f te o) (hr : EvA K ds tr os A) : EvA K ds (tCons te tr) (oarg o os) fun t => .f (em t.1) :: A t.2 := fun t ht B F M H σ Q E q => by
  obtain ⟨x, y, e1, e2, e3⟩ := obin_some ht
  cases e3
  exact h x e1 B F M H σ _ E fun v F1 H1 x1 r1 => hr y e2 B F1 M H1 σ _ (E.ext x1) fun vs F2 H2 x2 r2 => q _ F2 H2 (x1.trans x2) ⟨r1.mono x2.sF, r2⟩
theorem ea_r {o : Option α} {os : Option τ} {A : τ → List Ar} (h : EvO K ds m te o) (hr : EvA K ds tr os A) : EvA K ds (tCons te tr) (oarg o os) fun t => .r (em t.1) :: A t.2 := fun t ht B F M H σ Q E q => by
  obtain ⟨x, y, e1, e2, e3⟩ := obin_some ht
  cases e3
  exact h x e1 B F M H σ _ E fun v F1 H1 x1 r1 => hr y e2 B F1 M H1 σ _ (E.ext x1) fun vs F2 H2 x2 r2 => q _ F2 H2 (x1.trans x2) ⟨r1.mono ((hp_H (E.ext x1)).trans x2.sH), r2⟩
theorem ea_s {i : Nat} {ns : List Int} {os : Option τ} {A : τ → List Ar} (h : ds[i]? = some (.scr ns)) (hr : EvA K ds tr os A) : EvA K ds (tCons (tVar i) tr) (oarg (some ns) os) fun t => .s t.1 :: A t.2 := fun t ht B F M H σ Q E q => by
  obtain ⟨x, y, e1, e2, e3⟩ := obin_some ht
  cases e3
  cases e1
  obtain ⟨_, _, a, e, r⟩ := E.at h
  exact ⟨.ref a, e, hr y e2 B F M H σ _ E fun vs F2 H2 x2 r2 => q _ F2 H2 x2 ⟨⟨a, rfl, x2.sH.seq (E.sB.seq r)⟩, r2⟩⟩
theorem ev_call {o : Option τ} {A : τ → List Ar} {f : τ → Option β} {XE : XK} (h : EvA K ds tr o A) : EvO K ds .f (tCall (spP K A f) [] XE tr) (o.bind f) := fun b hb B F M H σ Q E q => by
  obtain ⟨t, e1, e2⟩ := bind_some' hb
  refine h t e1 B F M H σ _ E fun vs F1 H1 x1 a1 => ?_
  show spP K A f (vs ++ []) H1 Q XE
  rw [List.append_nil]
  exact ⟨F1, t, b, x1.sub, a1, e2, fun v F' H' x r => q v F' H' (x1.trans x) r⟩
theorem el_call {o : Option τ} {A : τ → List Ar} {f : τ → Option (List β)} {XE : XK} (h : EvA K ds tr o A) : EvL K ds (tCall (spL K A f) [] XE tr) (o.bind f) := fun b hb B F M H σ Q E q => by
  obtain ⟨t, e1, e2⟩ := bind_some' hb
  refine h t e1 B F M H σ _ E fun vs F1 H1 x1 a1 => ?_
  show spL K A f (vs ++ []) H1 Q XE
  rw [List.append_nil]
  exact ⟨F1, t, b, x1.sub, a1, e2, fun p ws F' H' x h1 h2 h3 r => q p ws F' H' (x1.trans x) h1 (none_of_same x1.sH h2) h3 r⟩
end
section
variable {P : Program} {w : World} {K : PySem.W.Frag} {mg : Str → Option Value} {base : Heap} {τ β : Type} [Em β]
theorem env_start {F H : Hp} {vs : List V} {l : List Ar} (N : List Str) (s : Same F H) (a : AOk K F H vs l) : Env K H F (fun _ => False) H (L2.start N vs) (l.map Ar.sl ++ List.replicate (N.length - l.length) Sl.no) := by
  have hl := a.len
  refine ⟨by simp [L2.start, hl], Same.refl _, s, fun _ h => h.elim, fun _ h => h.elim, fun _ h => h.elim, fun _ _ h => h.elim, fun _ _ => False, fun _ _ h => h, fun _ _ _ h => h.elim, fun i => ?_⟩
  by_cases hi : i < l.length
  · have h1 : (l.map Ar.sl ++ List.replicate (N.length - l.length) Sl.no)[i]? = (l.map Ar.sl)[i]? := List.getElem?_append_left (by rw [List.length_map]; exact hi)
    have h2 : (L2.start N vs)[i]? = vs[i]?.map some := by
      unfold L2.start
      rw [List.getElem?_append_left (by rw [List.length_map]; omega), List.getElem?_map]
    rw [h1, h2]
    exact a.at i
  · have h1 : (l.map Ar.sl ++ List.replicate (N.length - l.length) Sl.no)[i]?.getD Sl.no = Sl.no := by
      rw [List.getElem?_append_right (by rw [List.length_map]; omega)]
      cases h : (List.replicate (N.length - l.length) Sl.no)[i - (l.map Ar.sl).length]? with
      | none => rfl
      | some z => exact (List.mem_replicate.mp (List.mem_of_getElem? h)).2
    rw [h1]
    trivial
/-- a def's body by its statements' judgement -/
theorem fn_pure {x qual : Str} {st : Stmt} {f : Addr} {fd : FuncData} {N ps : List Str} {k : Nat} {A : τ → List Ar} {g : τ → Option β} (F : Fun K x qual st f fd) (S : FnScope N ps (defScope st)) (hA : ∀ t, (A t).length = ps.length)
    (body : ∀ (cdv : Value) (A' : Around) (outer : List PySem.Env) (s : Shared) (H : Hp) (E : XK), Room k (A'.deeper (PyProof.Rows.envOfC qual (defScope st) s.heap.objs.size f cdv)) →
      ∃ t, PSs (cxOf CX0 P w K mg base N qual (defScope st) f cdv A' outer s H E).nox (defBody st) t ∧ ∀ z, SvO K ((A z).map Ar.sl ++ List.replicate (N.length - (A z).length) Sl.no) t (g z) fun b => .rt (.val (em b))) : FnOk P w K mg base CX0 (k + 1) f fd ps (spP K A g) := by
  refine F.ok S (fun vs H Q E h => ?_) (fun cdv A' outer s H vs Q E hr h => ?_)
  · obtain ⟨_, t, _, _, a, _⟩ := h
    rw [a.len, hA]
  · obtain ⟨F0, z, b, sm, a, e, q⟩ := h
    obtain ⟨t, hp, hb⟩ := body cdv A' outer s H E hr
    refine ⟨t, hp, hb z b e H F0 _ H _ _ (env_start N sm a) fun F' M' H' v st E' => ?_⟩
    obtain ⟨m, _, u, e2, r⟩ := E'.at (i := 0) rfl
    cases e2
    exact q v F' H' ⟨st.sF, fun c o z => st.keep c o z (fun h => h), E'.sF, fun c z => (st.new c z).imp_right fun h => h.resolve_right fun h => h⟩ r
theorem fn_list {x qual : Str} {st : Stmt} {f : Addr} {fd : FuncData} {N ps : List Str} {k : Nat} {A : τ → List Ar} {g : τ → Option (List β)} (F : Fun K x qual st f fd) (S : FnScope N ps (defScope st)) (hA : ∀ t, (A t).length = ps.length)
    (body : ∀ (cdv : Value) (A' : Around) (outer : List PySem.Env) (s : Shared) (H : Hp) (E : XK), Room k (A'.deeper (PyProof.Rows.envOfC qual (defScope st) s.heap.objs.size f cdv)) →
      ∃ t, PSs (cxOf CX0 P w K mg base N qual (defScope st) f cdv A' outer s H E).nox (defBody st) t ∧ ∀ z, SvO K ((A z).map Ar.sl ++ List.replicate (N.length - (A z).length) Sl.no) t (g z) fun b => .rt (.own (b.map em))) : FnOk P w K mg base CX0 (k + 1) f fd ps (spL K A g) := by
  refine F.ok S (fun vs H Q E h => ?_) (fun cdv A' outer s H vs Q E hr h => ?_)
  · obtain ⟨_, t, _, _, a, _⟩ := h
    rw [a.len, hA]
  · obtain ⟨F0, z, b, sm, a, e, q⟩ := h
    obtain ⟨t, hp, hb⟩ := body cdv A' outer s H E hr
    refine ⟨t, hp, hb z b e H F0 _ H _ _ (env_start N sm a) fun F' M' H' v st E' => ?_⟩
    obtain ⟨m, hm, p, ws, e2, hpp, r, mp⟩ := E'.at (i := 0) rfl
    cases e2
    have hM := hm p mp
    have e' : Ext F0 H F' H' := ⟨st.sF, fun c o z => st.keep c o z (fun h => h), E'.sF, fun c z => (st.new c z).imp_right fun h => h.resolve_right fun h => h⟩
    exact q p ws F' H' e' (E'.mF p hM) (E'.mB p hM) hpp r
end
end Tw
/-! Further rules; a law's end. -/
namespace Tw
open PySem L2
def fuel : Nat := 1000000
theorem ilt {n : Nat} {ds : List Sl} (i : Nat) (h : ds.length = n) (h2 : i < n) : i < ds.length := by omega
theorem hu65 {k : Nat} {A : Around} (hr : Room k A) : A.units + 65 < cLine := by have := hr.un; omega
def otoi (o : Option PyData) : Option Int := o.bind fun d => match d with | .int i => some i | _ => none
def osum (o : Option (List Int)) : Option Int := o.map fun xs => xs.sum
def oall (o : Option (List Bool)) : Option Bool := o.map fun xs => xs.all id
def oany (o : Option (List Bool)) : Option Bool := o.map fun xs => xs.any id
def insI (x : Int) : List Int → List Int
  | [] => [x]
  | y :: ys => if x ≤ y then x :: y :: ys else y :: insI x ys
def sortI : List Int → List Int
  | [] => []
  | x :: xs => insI x (sortI xs)
def osortI (o : Option (List Int)) : Option (List Int) := o.map sortI
section
variable {K : PySem.W.Frag} {ds es : List Sl} {ta tb tc te : TE} {t u w : TS} {m m1 m2 : Md} {α β γ τ : Type} [Em α] [Em β] [Em γ] {out : τ → Out}
theorem ev_any {o : Option α} (h : EvO K ds m te o) : EvO K ds m te (o.map em) := fun x hx => by
  cases o with
  | none => cases hx
  | some y => cases hx; exact h y rfl
theorem ev_toi {o : Option PyData} (h : EvO K ds m te o) : EvO K ds .f te (otoi o) := fun x hx B F M H σ Q E q => by
  obtain ⟨d, e1, e2⟩ := bind_some' hx
  cases d with
  | int i =>
    cases e2
    refine h _ e1 B F M H σ _ E fun v F' H' e r => ?_
    have r : Rp _ v (.int _) := r
    cases r
    exact q _ F' H' e (.int _)
  | _ => cases e2
theorem sv_ret0 {o : Option α} {out : α → Out} (h : EvO K ds .f te o) (ho : ∀ x, out x = .rt (.val (em x))) : SvO K ds (tRet te) o out := by
  intro x hx B F M H σ D E f
  rw [ho] at f
  exact h x hx B F M H σ _ E fun v F' H' e r => f F' M H' v (.ofExt e) ((E.ext e).one r)
theorem sv_par {i j : Nat} {o1 : Option α} {o2 : Option β} {r : α → β → Option τ} (hi : i < ds.length) (hj : j < ds.length) (h1 : EvO K ds .f ta o1) (h2 : EvO K ds .f tb o2)
    (k : ∀ x y, SvO K ((ds.set i (.val (em x))).set j (.val (em y))) u (r x y) out) : SvO K ds (tSeq (tPar i j (tCons ta (tCons tb tNil))) u) (o1.bind fun x => o2.bind fun y => r x y) out := by
  intro z hz B F M H σ D E f
  obtain ⟨x, e1, hz⟩ := bind_some' hz
  obtain ⟨y, e2, hz⟩ := bind_some' hz
  exact ev2 h1 h2 e1 e2 E fun v w F' H' e r1 r2 => ⟨v, w, rfl, k x y z hz B F' M H' _ D (((E.ext e).setv hi r1).setv (by rw [List.length_set]; exact hj) r2) (f.step (.ofExt e))⟩
theorem ev_sum {o : Option (List Int)} (h : EvO K ds m te o) : EvO K ds .f (tCB (rSum K) (tCons te tNil)) (osum o) := by
  intro z hz B F M H σ Q E q
  cases o with
  | none => cases hz
  | some xs =>
    cases hz
    refine h xs rfl B F M H σ _ E fun v F' H' e r => ?_
    obtain ⟨p, vs, rfl, hp, ra⟩ := rp_list r
    have := RpA.ints (ns := xs) ra
    subst this
    exact ⟨p, xs, rfl, SqL.of (hp_H (E.ext e) _ _ hp), q _ F' H' e (.int _)⟩
theorem ev_all {o : Option (List Bool)} (h : EvO K ds m te o) : EvO K ds .f (tCB (rAll K) (tCons te tNil)) (oall o) := by
  intro z hz B F M H σ Q E q
  cases o with
  | none => cases hz
  | some xs =>
    cases hz
    refine h xs rfl B F M H σ _ E fun v F' H' e r => ?_
    obtain ⟨p, vs, rfl, hp, ra⟩ := rp_list r
    have := RpA.bools (ns := xs) ra
    subst this
    exact ⟨p, xs, rfl, SqL.of (hp_H (E.ext e) _ _ hp), q _ F' H' e (.bl _)⟩
theorem ev_any' {o : Option (List Bool)} (h : EvO K ds m te o) : EvO K ds .f (tCB (rAny K) (tCons te tNil)) (oany o) := by
  intro z hz B F M H σ Q E q
  cases o with
  | none => cases hz
  | some xs =>
    cases hz
    refine h xs rfl B F M H σ _ E fun v F' H' e r => ?_
    obtain ⟨p, vs, rfl, hp, ra⟩ := rp_list r
    have := RpA.bools (ns := xs) ra
    subst this
    exact ⟨p, xs, rfl, SqL.of (hp_H (E.ext e) _ _ hp), q _ F' H' e (.bl _)⟩
end
/-! ### a law's end -/
theorem law_end {l : PySem.W.OpenLaw} {lv : Nat} {q : Program} {loose : List Str} {XP : (Str → Option Value) → Heap → Prop} {YP : World → Heap → Prop} {d : DefRec} {K : Params → PySem.W.Frag} {x : Str} {A : List Int × Unit → List Ar} {g : List Int × Unit → Option Bool}
    (hn : l.most = some 63) (hdf : d.params.defaults = []) (hr : Room lv callerA) (hY : ∀ (w : World) (h : Heap), YP w h → (K w.params).In h) (hA : ∀ t, A t = [.s t.1])
    (F : ∀ (w : World) (mg : Str → Option Value) (fa : Addr) (h : Heap), (K w.params).In h → h.Ns mainGlobals mg → mg d.name = some (.ref fa) →
      ∃ fd : FuncData, (∀ (s : Shared) (u : Value), BindsTo s fd ⟨[u], []⟩ [(x, u)]) ∧ (∀ base : Heap, (K w.params).In base → base.Ns mainGlobals mg → FnOk l.prog w (K w.params) mg base CX0 lv fa fd [x] (spP (K w.params) A g)))
    (ht : ∀ ns : List Int, ns.length ≤ 63 → g (ns, ()) = some true) : PySem.W.WalkO q loose XP YP l.row.toRowW d [] (fun f vs => PySem.call f vs) :=
  L2.walk_of (n := 63) (k := lv) (x := x) (CX := fun _ => CX0) (sp := fun w => spP (K w.params) A g) hn (by decide) hdf hr hY F
    (fun w H a ns hl _ hS => ⟨H, (ns, ()), true, Same.refl H, by rw [hA]; exact ⟨⟨a, rfl, hS⟩, trivial⟩, ht ns hl, fun v F' H' _ r => rp_bool r⟩) fun _ _ _ _ _ z => z
end Tw
/-! list.index, list.count, sorted of numbers and of pairs, unpacking a list. -/
namespace Tw
open PySem L2
def oidx {α : Type} [Em α] (o : Option (List α)) (y : Option α) : Option Int := obin (fun xs y => (xs.findIdx? fun z => PyData.eqv (em z) (em y)).map fun j : Nat => (j : Int)) o y
def ocnt (o : Option (List Int)) (y : Option Int) : Option Int := obin (fun xs y => some ((xs.count y : Nat) : Int)) o y
section
variable {K : PySem.W.Frag} {ds es : List Sl} {ta tb tc te : TE} {t u w : TS} {m m1 m2 : Md} {α β γ τ : Type} [Em α] [Em β] [Em γ] {out : τ → Out}
theorem ev_index [Shp α] {o1 : Option (List α)} {o2 : Option α} (l : Shp.dep α + 1 ≤ 64) (h1 : EvO K ds m1 ta o1) (h2 : EvO K ds m2 tb o2) : EvO K ds .f (tBM K "list" (rIndexD K) ta (tCons tb tNil)) (oidx o1 o2) := by
  intro z hz B F M H σ Q E q
  obtain ⟨xs, y, e1, e2, e3⟩ := obin_some hz
  cases hf : xs.findIdx? (fun z => PyData.eqv (em z) (em y)) with
  | none => rw [hf] at e3; cases e3
  | some j =>
    rw [hf] at e3
    cases e3
    refine h1 xs e1 B F M H σ _ E fun v F1 H1 x1 r1 => ?_
    have E1 := E.ext x1
    obtain ⟨p, vs, rfl, hp, ra⟩ := rp_list r1
    refine ⟨.inl ⟨rfl, vs, .inl (.inl (hp_H E1 _ _ hp))⟩, h2 y e2 B F1 M H1 σ _ E1 fun w F2 H2 x2 r2 => ?_⟩
    have E2 := E1.ext x2
    obtain ⟨hj, hp1, hp2⟩ := List.findIdx?_eq_some_iff_getElem.mp hf
    refine ⟨p, w, em y, xs.map em, j, em (xs[j]'hj), rfl, rfl, ((r1.mono (hp_mono x2)).mono (hp_H E2)).dp K, (r2.mono (hp_H E2)).dp K, shaped_em (α := List α) l xs, shaped_em (by omega) y, ?_, hp1, ?_, q _ F2 H2 (x1.trans x2) (.int _)⟩
    · rw [List.getElem?_map, List.getElem?_eq_getElem hj]; rfl
    · intro i z' hi hz'
      rw [List.getElem?_map, List.getElem?_eq_getElem (by omega)] at hz'
      cases hz'
      have := hp2 i hi
      simpa using this
theorem ev_count {o1 : Option (List Int)} {o2 : Option Int} (h1 : EvO K ds m1 ta o1) (h2 : EvO K ds m2 tb o2) : EvO K ds .f (tBM K "list" (rCntI K) ta (tCons tb tNil)) (ocnt o1 o2) := by
  intro z hz B F M H σ Q E q
  obtain ⟨xs, y, e1, e2, e3⟩ := obin_some hz
  cases e3
  refine h1 xs e1 B F M H σ _ E fun v F1 H1 x1 r1 => ?_
  have E1 := E.ext x1
  obtain ⟨p, vs, rfl, hp, ra⟩ := rp_list r1
  have := RpA.ints (ns := xs) ra
  subst this
  refine ⟨.inl ⟨rfl, _, .inl (.inl (hp_H E1 _ _ hp))⟩, h2 y e2 B F1 M H1 σ _ E1 fun w F2 H2 x2 r2 => ?_⟩
  exact ⟨p, xs, y, rfl, by rw [rp_int r2], .inl (.inl (x2.sH _ _ (hp_H E1 _ _ hp))), q _ F2 H2 (x1.trans x2) (.int _)⟩
end
/-! ### sorted -/
theorem perm_insI (x : Int) : ∀ ys : List Int, (insI x ys).Perm (x :: ys)
  | [] => List.Perm.refl _
  | y :: ys => by
    unfold insI
    split
    · exact List.Perm.refl _
    · exact ((perm_insI x ys).cons y).trans (List.Perm.swap x y ys)
theorem perm_sortI : ∀ xs : List Int, (sortI xs).Perm xs
  | [] => List.Perm.refl _
  | x :: xs => (perm_insI x (sortI xs)).trans ((perm_sortI xs).cons x)
theorem insI_mem {x y : Int} {ys : List Int} : y ∈ insI x ys ↔ y = x ∨ y ∈ ys := by
  rw [(perm_insI x ys).mem_iff, List.mem_cons]
theorem sorted_insI (x : Int) : ∀ {ys : List Int}, ys.Pairwise (· ≤ ·) → (insI x ys).Pairwise (· ≤ ·)
  | [], _ => by simp [insI]
  | y :: ys, h => by
    obtain ⟨h1, h2⟩ := List.pairwise_cons.mp h
    unfold insI
    split
    · rename_i hx
      refine List.pairwise_cons.mpr ⟨fun z hz => ?_, h⟩
      rcases List.mem_cons.mp hz with rfl | hz
      · exact hx
      · exact Int.le_trans hx (h1 z hz)
    · rename_i hx
      refine List.pairwise_cons.mpr ⟨fun z hz => ?_, sorted_insI x h2⟩
      rcases insI_mem.mp hz with rfl | hz
      · omega
      · exact h1 z hz
theorem sorted_sortI : ∀ xs : List Int, (sortI xs).Pairwise (· ≤ ·)
  | [] => List.Pairwise.nil
  | x :: xs => sorted_insI x (sorted_sortI xs)
theorem uniq_sorted : ∀ {xs ys : List Int}, xs.Perm ys → xs.Pairwise (· ≤ ·) → ys.Pairwise (· ≤ ·) → xs = ys
  | [], ys, p, _, _ => (List.Perm.nil_eq p)
  | x :: xs, [], p, _, _ => by simpa using p.length_eq
  | x :: xs, y :: ys, p, h1, h2 => by
    obtain ⟨a1, a2⟩ := List.pairwise_cons.mp h1
    obtain ⟨b1, b2⟩ := List.pairwise_cons.mp h2
    have e : x = y := by
      have m1 : x ∈ y :: ys := p.mem_iff.mp (by simp)
      have m2 : y ∈ x :: xs := p.mem_iff.mpr (by simp)
      rcases List.mem_cons.mp m1 with h | h
      · exact h
      · rcases List.mem_cons.mp m2 with h' | h'
        · exact h'.symm
        · exact Int.le_antisymm (a1 y h') (b1 x h)
    subst e
    rw [uniq_sorted (p.cons_inv) a2 b2]
abbrev PP := Int × Int
def leP (a b : PP) : Bool := decide (a.1 < b.1) || (decide (a.1 = b.1) && decide (a.2 ≤ b.2))
theorem leP_iff {a b : PP} : leP a b = true ↔ a.1 < b.1 ∨ (a.1 = b.1 ∧ a.2 ≤ b.2) := by simp [leP]
theorem leP_tot (a b : PP) : leP a b = true ∨ leP b a = true := by rw [leP_iff, leP_iff]; omega
theorem leP_anti {a b : PP} (h1 : leP a b = true) (h2 : leP b a = true) : a = b := by
  rw [leP_iff] at h1 h2
  obtain ⟨a1, a2⟩ := a
  obtain ⟨b1, b2⟩ := b
  simp only [Prod.mk.injEq]
  simp only at h1 h2
  omega
theorem leP_tr {a b c : PP} (h1 : leP a b = true) (h2 : leP b c = true) : leP a c = true := by
  rw [leP_iff] at *
  omega
def insP (x : PP) : List PP → List PP
  | [] => [x]
  | y :: ys => if leP x y then x :: y :: ys else y :: insP x ys
def sortP : List PP → List PP
  | [] => []
  | x :: xs => insP x (sortP xs)
theorem perm_insP (x : PP) : ∀ ys : List PP, (insP x ys).Perm (x :: ys)
  | [] => List.Perm.refl _
  | y :: ys => by
    unfold insP
    split
    · exact List.Perm.refl _
    · exact ((perm_insP x ys).cons y).trans (List.Perm.swap x y ys)
theorem perm_sortP : ∀ xs : List PP, (sortP xs).Perm xs
  | [] => List.Perm.refl _
  | x :: xs => (perm_insP x (sortP xs)).trans ((perm_sortP xs).cons x)
theorem insP_mem {x y : PP} {ys : List PP} : y ∈ insP x ys ↔ y = x ∨ y ∈ ys := by
  rw [(perm_insP x ys).mem_iff, List.mem_cons]
theorem sorted_insP (x : PP) : ∀ {ys : List PP}, ys.Pairwise (fun a b => leP a b = true) → (insP x ys).Pairwise (fun a b => leP a b = true)
  | [], _ => by simp [insP]
  | y :: ys, h => by
    obtain ⟨h1, h2⟩ := List.pairwise_cons.mp h
    unfold insP
    split
    · rename_i hx
      refine List.pairwise_cons.mpr ⟨fun z hz => ?_, h⟩
      rcases List.mem_cons.mp hz with rfl | hz
      · exact hx
      · exact leP_tr hx (h1 z hz)
    · rename_i hx
      refine List.pairwise_cons.mpr ⟨fun z hz => ?_, sorted_insP x h2⟩
      rcases insP_mem.mp hz with rfl | hz
      · exact (leP_tot z y).resolve_left hx
      · exact h1 z hz
theorem sorted_sortP : ∀ xs : List PP, (sortP xs).Pairwise (fun a b => leP a b = true)
  | [] => List.Pairwise.nil
  | x :: xs => sorted_insP x (sorted_sortP xs)
theorem uniq_sortedP : ∀ {xs ys : List PP}, xs.Perm ys → xs.Pairwise (fun a b => leP a b = true) → ys.Pairwise (fun a b => leP a b = true) → xs = ys
  | [], ys, p, _, _ => (List.Perm.nil_eq p)
  | x :: xs, [], p, _, _ => by simpa using p.length_eq
  | x :: xs, y :: ys, p, h1, h2 => by
    obtain ⟨a1, a2⟩ := List.pairwise_cons.mp h1
    obtain ⟨b1, b2⟩ := List.pairwise_cons.mp h2
    have e : x = y := by
      have m1 : x ∈ y :: ys := p.mem_iff.mp (by simp)
      have m2 : y ∈ x :: xs := p.mem_iff.mpr (by simp)
      rcases List.mem_cons.mp m1 with h | h
      · exact h
      · rcases List.mem_cons.mp m2 with h' | h'
        · exact h'.symm
        · exact leP_anti (a1 y h') (b1 x h)
    subst e
    rw [uniq_sortedP (p.cons_inv) a2 b2]
def osortP (o : Option (List PP)) : Option (List PP) := o.map sortP

def keyP (H : Hp) : V → PP
  | .ref t => match H t with
    | some (.tup [.int i, .int j]) => (i, j)
    | _ => (0, 0)
  | _ => (0, 0)
theorem keyP_of {H : Hp} {v : V} {x : PP} (r : Rp H v (em x)) : keyP H v = x ∧ ∃ t, v = .ref t ∧ H t = some (.tup [.int x.1, .int x.2]) := by
  obtain ⟨p, a, b, rfl, hp, r1, r2⟩ := rp_pair r
  rw [rp_int r1, rp_int r2] at hp
  refine ⟨?_, p, rfl, hp⟩
  show (match H p with | some (.tup [.int i, .int j]) => (i, j) | _ => (0, 0)) = x
  rw [hp]
theorem keys_map {H : Hp} : ∀ {vs : List V} {ps : List PP}, RpA H vs (ps.map em) → vs.map (keyP H) = ps ∧ ∀ v ∈ vs, Rp H v (em (keyP H v))
  | _, [], r => by cases r; exact ⟨rfl, fun v h => by cases h⟩
  | _, p :: ps, r => by
    cases r with
    | cons h r =>
      obtain ⟨h1, h2⟩ := keys_map r
      refine ⟨by rw [List.map_cons, h1, (keyP_of h).1], fun v hv => ?_⟩
      rcases List.mem_cons.mp hv with rfl | hv
      · rw [(keyP_of h).1]; exact h
      · exact h2 v hv
theorem rpa_keys {H : Hp} {k : V → PP} : ∀ {vs : List V}, (∀ v ∈ vs, Rp H v (em (k v))) → RpA H vs ((vs.map k).map em)
  | [], _ => .nil
  | v :: vs, h => .cons (h v (by simp)) (rpa_keys fun w hw => h w (by simp [hw]))
theorem lexB_le {a b : PP} (h : SrtO.lexB b a = false) : leP a b = true := by
  rw [leP_iff]
  have : ¬ (b.1 < a.1 ∨ (b.1 = a.1 ∧ b.2 < a.2)) := by
    intro hc
    rw [SrtO.lexB_iff.mpr hc] at h
    cases h
  omega
theorem sorted_run {K : PySem.W.Frag} {F H : Hp} {p : Addr} {vs : List V} {ps : List PP} {Q : VK} (hp : SqL K H p vs) (sF : Same F H) (r : RpA F vs (ps.map em))
    (q : ∀ n ys, H n = none → RpA F ys ((sortP ps).map em) → Q (.ref n) (upd H n (.lst ys))) : L2.rSortedPO K [.ref p] H Q := by
  obtain ⟨h1, h2⟩ := keys_map r
  refine ⟨p, vs, keyP F, rfl, hp, fun x hx => ?_, fun ys n hs st hn => q n ys hn ?_⟩
  · obtain ⟨e, t, rfl, ht⟩ := keyP_of (h2 x hx)
    exact ⟨t, rfl, sF _ _ ht⟩
  · have hy : ∀ v ∈ ys, Rp F v (em (keyP F v)) := fun v hv => h2 v (st.perm.mem_iff.mp hv)
    have e : ys.map (keyP F) = sortP ps := by
      refine uniq_sortedP ?_ ?_ (sorted_sortP ps)
      · refine (st.perm.map (keyP F)).trans ?_
        rw [h1]
        exact (perm_sortP ps).symm
      · refine List.pairwise_map.mpr (hs.imp fun {a b} h => lexB_le h)
    rw [← e]
    exact rpa_keys hy
section
variable {K : PySem.W.Frag} {ds es : List Sl} {ta tb tc te : TE} {t u w : TS} {g g2 : TG} {m m1 m2 : Md} {α β γ τ : Type} [Em α] [Em β] [Em γ] {out : τ → Out}
theorem el_sortP {o : Option (List PP)} (h : EvO K ds .f te o) : EvL K ds (tCB (L2.rSortedPO K) (tCons te tNil)) (osortP o) := by
  intro xs hx B F M H σ Q E q
  cases o with
  | none => cases hx
  | some ps =>
    cases hx
    refine h ps rfl B F M H σ _ E fun v F' H' e r => ?_
    obtain ⟨p, vs, rfl, hp, ra⟩ := rp_list r
    exact sorted_run (SqL.of (e.sub _ _ hp)) e.sub ra fun n ys hn ry => q n ys F' _ (e.trans (Ext.new0 e.sub hn)) (none_of_same e.sub hn) (none_of_same e.sH hn) upd_same ry
theorem el_sortPO {i : Nat} {ps : List PP} (h : ds[i]? = some (.own (ps.map em))) : EvL K ds (tCB (L2.rSortedPO K) (tCons (tVar i) tNil)) (osortP (some ps)) := by
  intro xs hx B F M H σ Q E q
  cases hx
  obtain ⟨_, _, p, vs, e, hp, r, _⟩ := E.at h
  exact ⟨.ref p, e, sorted_run (SqL.of hp) E.sF r fun n ys hn ry => q n ys F _ (Ext.new0 E.sF hn) (none_of_same E.sF hn) hn upd_same ry⟩
theorem el_sortI {o : Option (List Int)} (h : EvO K ds m te o) : EvL K ds (tCB (L2.rSortedI K) (tCons te tNil)) (osortI o) := by
  intro xs hx B F M H σ Q E q
  cases o with
  | none => cases hx
  | some ns =>
    cases hx
    refine h ns rfl B F M H σ _ E fun v F' H' e r => ?_
    obtain ⟨p, vs, rfl, hp, ra⟩ := rp_list r
    have := RpA.ints (ns := ns) ra
    subst this
    refine ⟨p, ns, rfl, SqL.of (hp_H (E.ext e) _ _ hp), fun ns' n hpm hst hn => q n _ F' _ (e.trans (Ext.new0 e.sub hn)) (none_of_same e.sub hn) (none_of_same e.sH hn) upd_same ?_⟩
    have e2 : ns' = sortI ns := uniq_sorted (hpm.trans (perm_sortI ns).symm) hst (sorted_sortI ns)
    rw [e2]
    exact RpA.ofInts _
def oun2 (o : Option (List α)) : Option (α × α) := o.bind fun xs => match xs with | [a, b] => some (a, b) | _ => none
theorem sv_unl2 {js ks : List Nat} {o : Option (List α)} {r : α × α → Option τ} {d1 d2 : α × α → List Sl} (h : EvO K ds m te o) (t1 : ∀ y : α × α, Tg K m ds g js (em y.1) (d1 y)) (t2 : ∀ y : α × α, Tg K m (d1 y) g2 ks (em y.2) (d2 y)) (k : ∀ y, SvO K (d2 y) u (r y) out) :
    SvO K ds (tSeq (tAsg te (L2.gUnl K 2 (gCons g (gCons g2 gNil)))) u) ((oun2 o).bind r) out := by
  intro x hx B F M H σ D E f
  obtain ⟨y, e1, e2⟩ := bind_some' hx
  obtain ⟨xs, e3, e4⟩ := bind_some' e1
  match xs, e4 with
  | [a, b], e4 =>
    cases e4
    refine h _ e3 B F M H σ _ E fun v F' H' e r => ?_
    obtain ⟨p, vs, rfl, hp, ra⟩ := rp_list r
    cases ra with
    | cons r1 ra =>
      cases ra with
      | cons r2 ra =>
        cases ra
        have E' := E.ext e
        refine ⟨p, _, rfl, SqL.of (hp_H E' _ _ hp), rfl, _, _, rfl, t1 (a, b) B F' M H' σ _ _ E' r1 fun σ1 E1 _ _ => ⟨_, _, rfl, t2 (a, b) B F' M H' σ1 _ _ E1 r2 fun σ2 E2 _ _ => ⟨rfl, k _ x e2 B F' M H' σ2 D E2 (f.step (.ofExt e))⟩⟩⟩
end
end Tw
/-! list.pop; dicts. -/
namespace Tw
open PySem L2
def emD {κ β : Type} [Em β] (kvs : List (κ × β)) : List (κ × PyData) := kvs.map fun x => (x.1, em x.2)
section
variable {κ κ' ν : Type} [DecidableEq κ] [DecidableEq κ']
def dput (kvs : List (κ × ν)) (k : κ) (v : ν) : List (κ × ν) := if (kvs.any fun x => decide (x.1 = k)) = true then kvs.map (fun x => if x.1 = k then (x.1, v) else x) else kvs ++ [(k, v)]
def dget (kvs : List (κ × ν)) (k : κ) : Option ν := (kvs.find? fun x => decide (x.1 = k)).map (·.2)
def ddrop (kvs : List (κ × ν)) (k : κ) : List (κ × ν) := kvs.filter fun x => decide (x.1 ≠ k)
def mapK (f : κ → κ') (kv : List (κ × V)) : List (κ' × V) := kv.map fun x => (f x.1, x.2)
theorem putK_map {f : κ → κ'} (hf : ∀ a b, f a = f b → a = b) (kv : List (κ × V)) (k : κ) (v : V) : L2.putK (mapK f kv) (f k) v = mapK f (dput kv k v) := by
  unfold L2.putK dput mapK
  have h1 : ((kv.map fun x => (f x.1, x.2)).any fun x => decide (x.1 = f k)) = kv.any fun x => decide (x.1 = k) := by
    rw [List.any_map]
    congr 1
    funext x
    by_cases h : x.1 = k
    · simp [h]
    · have : ¬ f x.1 = f k := fun e => h (hf _ _ e)
      simp [h, this]
  rw [h1]
  split
  · rw [List.map_map, List.map_map]
    refine List.map_congr_left fun x _ => ?_
    by_cases h : x.1 = k
    · simp [h]
    · have : ¬ f x.1 = f k := fun e => h (hf _ _ e)
      simp [h, this]
  · rw [List.map_append]; rfl
theorem valV_map {f : κ → κ'} (hf : ∀ a b, f a = f b → a = b) (kv : List (κ × V)) (k : κ) : L2.valV (mapK f kv) (f k) = dget kv k := by
  unfold L2.valV dget mapK
  rw [List.find?_map, Option.map_map]
  have h1 : ((fun x : κ' × V => decide (x.1 = f k)) ∘ fun x : κ × V => (f x.1, x.2)) = fun x => decide (x.1 = k) := by
    funext x
    by_cases h : x.1 = k
    · simp [h]
    · have : ¬ f x.1 = f k := fun e => h (hf _ _ e)
      simp [h, this]
  rw [h1]
  rfl
theorem dropK_map {f : κ → κ'} (hf : ∀ a b, f a = f b → a = b) (kv : List (κ × V)) (k : κ) : L2.dropK (mapK f kv) (f k) = mapK f (ddrop kv k) := by
  unfold L2.dropK ddrop mapK
  rw [List.filter_map]
  congr 1
  refine List.filter_congr fun x _ => ?_
  by_cases h : x.1 = k
  · simp [h]
  · have : ¬ f x.1 = f k := fun e => h (hf _ _ e)
    simp [h, this]
theorem KvR.keys {F : Hp} : ∀ {xs : List (κ × V)} {ys : List (κ × PyData)}, KvR F xs ys → xs.map (·.1) = ys.map (·.1)
  | _, _, .nil => rfl
  | _, _, .cons _ r => by simp only [List.map_cons]; rw [KvR.keys r]
theorem KvR.len {F : Hp} : ∀ {xs : List (κ × V)} {ys : List (κ × PyData)}, KvR F xs ys → xs.length = ys.length
  | _, _, .nil => rfl
  | _, _, .cons _ r => by simp only [List.length_cons]; rw [KvR.len r]
theorem KvR.any {F : Hp} (k : κ) : ∀ {xs : List (κ × V)} {ys : List (κ × PyData)}, KvR F xs ys → (xs.any fun x => decide (x.1 = k)) = ys.any fun x => decide (x.1 = k)
  | _, _, .nil => rfl
  | _, _, .cons _ r => by simp only [List.any_cons]; rw [KvR.any k r]
theorem KvR.get {F : Hp} (k : κ) : ∀ {xs : List (κ × V)} {ys : List (κ × PyData)}, KvR F xs ys → (dget xs k = none ∧ dget ys k = none) ∨ ∃ v d, dget xs k = some v ∧ dget ys k = some d ∧ Rp F v d
  | _, _, .nil => .inl ⟨rfl, rfl⟩
  | _, _, .cons (k := k0) (xs := xs) (ys := ys) h r => by
    by_cases e : k0 = k
    · refine .inr ⟨_, _, ?_, ?_, h⟩
      · unfold dget; rw [List.find?_cons_of_pos (by simp [e])]; rfl
      · unfold dget; rw [List.find?_cons_of_pos (by simp [e])]; rfl
    · have h1 : ∀ (ν : Type) (v : ν) (zs : List (κ × ν)), dget ((k0, v) :: zs) k = dget zs k := fun ν v zs => by unfold dget; rw [List.find?_cons_of_neg (by simp [e])]
      rw [h1, h1]
      exact KvR.get k r
theorem KvR.app {F : Hp} : ∀ {xs xs' : List (κ × V)} {ys ys' : List (κ × PyData)}, KvR F xs ys → KvR F xs' ys' → KvR F (xs ++ xs') (ys ++ ys')
  | _, _, _, _, .nil, q => q
  | _, _, _, _, .cons h r, q => .cons h (KvR.app r q)
theorem KvR.upd {F : Hp} {k : κ} {v : V} {d : PyData} (h : Rp F v d) : ∀ {xs : List (κ × V)} {ys : List (κ × PyData)}, KvR F xs ys → KvR F (xs.map fun x => if x.1 = k then (x.1, v) else x) (ys.map fun x => if x.1 = k then (x.1, d) else x)
  | _, _, .nil => .nil
  | _, _, .cons (k := k0) h' r => by
    simp only [List.map_cons]
    by_cases e : k0 = k
    · rw [if_pos e, if_pos e]; exact .cons h (KvR.upd h r)
    · rw [if_neg e, if_neg e]; exact .cons h' (KvR.upd h r)
theorem KvR.put {F : Hp} {k : κ} {v : V} {d : PyData} (h : Rp F v d) {xs : List (κ × V)} {ys : List (κ × PyData)} (r : KvR F xs ys) : KvR F (dput xs k v) (dput ys k d) := by
  unfold dput
  rw [r.any k]
  split
  · exact r.upd h
  · exact r.app (.cons h .nil)
theorem KvR.drop {F : Hp} {k : κ} : ∀ {xs : List (κ × V)} {ys : List (κ × PyData)}, KvR F xs ys → KvR F (ddrop xs k) (ddrop ys k)
  | _, _, .nil => .nil
  | _, _, .cons (k := k0) h r => by
    unfold ddrop
    by_cases e : k0 = k
    · rw [List.filter_cons_of_neg (by simp [e]), List.filter_cons_of_neg (by simp [e])]
      exact KvR.drop r
    · rw [List.filter_cons_of_pos (by simp [e]), List.filter_cons_of_pos (by simp [e])]
      exact .cons h (KvR.drop r)
end
theorem emD_put {κ β : Type} [DecidableEq κ] [Em β] (kvs : List (κ × β)) (k : κ) (v : β) : dput (emD kvs) k (em v) = emD (dput kvs k v) := by
  unfold dput emD
  have h1 : ((kvs.map fun x => (x.1, em x.2)).any fun x => decide (x.1 = k)) = kvs.any fun x => decide (x.1 = k) := by rw [List.any_map]; rfl
  rw [h1]
  split
  · rw [List.map_map, List.map_map]
    refine List.map_congr_left fun x _ => ?_
    by_cases h : x.1 = k
    · simp [h]
    · simp [h]
  · rw [List.map_append]; rfl
theorem emD_get {κ β : Type} [DecidableEq κ] [Em β] (kvs : List (κ × β)) (k : κ) : dget (emD kvs) k = (dget kvs k).map em := by
  unfold dget emD
  rw [List.find?_map, Option.map_map, Option.map_map]
  rfl
theorem emD_drop {κ β : Type} [DecidableEq κ] [Em β] (kvs : List (κ × β)) (k : κ) : ddrop (emD kvs) k = emD (ddrop kvs k) := by
  unfold ddrop emD
  rw [List.filter_map]
  rfl
def odput {κ β : Type} [DecidableEq κ] (kvs : List (κ × β)) (k : κ) (v : β) : Option (List (κ × β)) := if kvs.length < 100000 then some (dput kvs k v) else none
def odget {κ β : Type} [DecidableEq κ] (kvs : List (κ × β)) (k : Option κ) : Option β := k.bind fun k => dget kvs k
def odgetO {κ β : Type} [DecidableEq κ] (kvs : List (κ × β)) (k : Option κ) : Option (Option β) := k.map fun k => dget kvs k
def odin {κ β : Type} [DecidableEq κ] (k : Option κ) (kvs : List (κ × β)) : Option Bool := k.map fun k => (dget kvs k).isSome
def odnin {κ β : Type} [DecidableEq κ] (k : Option κ) (kvs : List (κ × β)) : Option Bool := k.map fun k => !(dget kvs k).isSome
def odpop {κ β : Type} [DecidableEq κ] (kvs : List (κ × β)) (k : κ) : Option (β × List (κ × β)) := (dget kvs k).map fun v => (v, ddrop kvs k)
def opop {α : Type} (xs : List α) : Option (α × List α) := xs.getLast?.map fun x => (x, xs.dropLast)
theorem RpA.last {H : Hp} : ∀ {vs : List V} {ds : List PyData} {d : PyData}, RpA H vs ds → ds.getLast? = some d → ∃ v, vs[vs.length - 1]? = some v ∧ Rp H v d := by
  intro vs ds d r h
  rw [List.getLast?_eq_getElem?] at h
  rw [r.len]
  exact r.get h
theorem RpA.dropLast {H : Hp} {vs : List V} {ds : List PyData} (r : RpA H vs ds) : RpA H vs.dropLast ds.dropLast := by
  rw [List.dropLast_eq_take, List.dropLast_eq_take, r.len]
  exact r.take _
section
variable {K : PySem.W.Frag} {ds es : List Sl} {ta tb tc te : TE} {t u w : TS} {g g2 : TG} {m m1 m2 : Md} {α β γ τ : Type} [Em α] [Em β] [Em γ] {out : τ → Out}
/-- an own list's last item taken off -/
theorem pop_run {i : Nat} {xs : List α} {z : α × List α} (hi : i < ds.length) (hx : ds[i]? = some (.own (xs.map em))) (hz : opop xs = some z) {B F M H σ} {Q : VK} (E : Env K B F M H σ ds)
    (q : ∀ v H', Stp F M H F M H' → Env K B F M H' σ (ds.set i (.own (z.2.map em))) → Rp F v (em z.1) → Q v H') : tBM0 K "list" rPop (tVar i) σ H Q := by
  obtain ⟨foot, f1, f2, f3⟩ := id E.ft
  have h3 := f3 i
  rw [hx] at h3
  obtain ⟨p, vs, e, hp, r, hm⟩ := h3
  unfold opop at hz
  cases hl : xs.getLast? with
  | none => rw [hl] at hz; cases hz
  | some x =>
    rw [hl] at hz
    cases hz
    obtain ⟨v, hv, rv⟩ := r.last (d := em x) (by rw [List.getLast?_map, hl]; rfl)
    refine ⟨.ref p, e, .inl ⟨rfl, _, SqL.of hp⟩, p, vs, v, rfl, rfl, hp, hv, ?_⟩
    have r2 : RpA F vs.dropLast (xs.dropLast.map em) := by
      rw [List.map_dropLast]; exact r.dropLast
    refine q v _ ⟨Same.refl _, fun a z => .inl z, fun b o z nm => ?_, fun a z => .inl z⟩ (E.chown f1 f2 f3 hi e hm r2) rv
    rw [upd_ne fun q => nm (by rw [q]; exact f1 i p hm)]
    exact z
theorem sv_pop {i j : Nat} {xs : List α} {r : α × List α → Option τ} (hi : i < ds.length) (hj : j < ds.length) (hx : ds[i]? = some (.own (xs.map em))) (k : ∀ y, SvO K ((ds.set i (.own (y.2.map em))).set j (.val (em y.1))) u (r y) out) :
    SvO K ds (tSeq (tAsg (tBM0 K "list" rPop (tVar i)) (gName j)) u) ((opop xs).bind r) out := by
  intro x hx2 B F M H σ D E fin
  obtain ⟨z, e1, e2⟩ := bind_some' hx2
  exact pop_run hi hx e1 E fun v H' st E' rv => k z x e2 B F M H' _ D (E'.setv (by rw [List.length_set]; exact hj) rv) (fin.step st)
theorem sv_popD {i : Nat} {xs : List α} {r : α × List α → Option τ} (hi : i < ds.length) (hx : ds[i]? = some (.own (xs.map em))) (k : ∀ y, SvO K (ds.set i (.own (y.2.map em))) u (r y) out) :
    SvO K ds (tSeq (tDrop (tBM0 K "list" rPop (tVar i))) u) ((opop xs).bind r) out := by
  intro x hx2 B F M H σ D E fin
  obtain ⟨z, e1, e2⟩ := bind_some' hx2
  exact pop_run hi hx e1 E fun v H' st E' rv => k z x e2 B F M H' _ D E' (fin.step st)
/-- a new own thing at slot i -/
theorem Env.setnew {B F M H σ} (E : Env K B F M H σ ds) {i : Nat} (hi : i < ds.length) {p : Addr} {sl : Sl} (hB : B p = none) (hF : F p = none) (hM : ¬ M p) (hp : H p ≠ none) (hT : ∀ xs, H p ≠ some (.tup xs)) (h : hold K B F H sl (some (some (.ref p))) (fun a => a = p)) :
    Env K B F (fun a => M a ∨ a = p) H (σ.set i (some (.ref p))) (ds.set i sl) := by
  obtain ⟨len, sB, sF, mB, mF, mH, mT, foot, f1, f2, f3⟩ := E
  refine ⟨by rw [List.length_set, List.length_set, len], sB, sF, fun a ha => ?_, fun a ha => ?_, fun a ha => ?_, fun a xs ha => ?_, fun j a => if j = i then a = p else foot j a, fun j a ha => ?_, fun j k a h1 h2 => ?_, fun j => ?_⟩
  · rcases ha with ha | rfl
    · exact mB a ha
    · exact hB
  · rcases ha with ha | rfl
    · exact mF a ha
    · exact hF
  · rcases ha with ha | rfl
    · exact mH a ha
    · exact hp
  · rcases ha with ha | rfl
    · exact mT a xs ha
    · exact hT xs
  · by_cases h : j = i
    · simp only [if_pos h] at ha; exact .inr ha
    · simp only [if_neg h] at ha; exact .inl (f1 j a ha)
  · by_cases hj : j = i
    · by_cases hk : k = i
      · rw [hj, hk]
      · simp only [if_pos hj] at h1
        simp only [if_neg hk] at h2
        exact absurd (h1 ▸ f1 k a h2) hM
    · by_cases hk : k = i
      · simp only [if_neg hj] at h1
        simp only [if_pos hk] at h2
        exact absurd (h2 ▸ f1 j a h1) hM
      · simp only [if_neg hj] at h1
        simp only [if_neg hk] at h2
        exact f2 j k a h1 h2
  · rw [getD_set ds i j _ hi]
    by_cases h' : j = i
    · subst h'
      rw [if_pos rfl, List.getElem?_set_self (by omega)]
      simp only [if_pos]
      exact h
    · rw [if_neg h', List.getElem?_set_ne (fun e => h' e.symm)]
      have := f3 j
      show hold K B F H _ _ (fun a => if j = i then a = p else foot j a)
      simp only [if_neg h']
      exact this
/-- the own thing of slot i changes where it stands -/
theorem Env.chres {B F M H σ} (E : Env K B F M H σ ds) {i : Nat} {p : Addr} {o : HO} {sl : Sl} {foot : Nat → Addr → Prop} (f1 : ∀ i a, foot i a → M a) (f2 : ∀ i j a, foot i a → foot j a → i = j) (f3 : ∀ i, hold K B F H (ds[i]?.getD .no) (σ[i]?) (foot i))
    (hi : i < ds.length) (hm : foot i p) (ho : ∀ xs, o ≠ .tup xs) (h : hold K B F (upd H p o) sl (σ[i]?) (foot i)) : Env K B F M (upd H p o) σ (ds.set i sl) := by
  have hM := f1 i p hm
  have sF : Same F (upd H p o) := same_upd2 E.sF (E.mF p hM)
  refine ⟨by rw [List.length_set, E.len], same_upd2 E.sB (E.mB p hM), sF, E.mB, E.mF, fun a z => ?_, fun a xs z => ?_, foot, f1, f2, fun j => ?_⟩
  · unfold L2.upd
    split
    · exact fun z => nomatch z
    · exact E.mH a z
  · unfold L2.upd
    split
    · exact fun z => ho xs (Option.some.inj z)
    · exact E.mT a xs z
  · rw [getD_set ds i j _ hi]
    by_cases h' : j = i
    · subst h'
      rw [if_pos rfl]
      exact h
    · rw [if_neg h']
      refine (f3 j).mono (Same.refl _) (fun a o ha hz => ?_) E.sF sF
      rw [upd_ne fun z => h' (f2 j i a ha (by rw [z]; exact hm))]
      exact hz
theorem hold.no {B F H : Hp} {s : Option (Option V)} {m : Addr → Prop} : hold K B F H .no s m := trivial

def kyP (k : PP) : List L2.Key := [Sum.inl k.1, Sum.inl k.2]
theorem kyP_inj (a b : PP) (h : kyP a = kyP b) : a = b := by
  obtain ⟨a1, a2⟩ := a
  obtain ⟨b1, b2⟩ := b
  unfold kyP at h
  simp only [List.cons.injEq, Sum.inl.injEq, and_true] at h
  rw [h.1, h.2]
def rLenDK : List V → Hp → VK → Prop := fun xs H Q => ∃ a kvs, xs = [V.ref a] ∧ H a = some (.dK kvs) ∧ Q (.int (kvs.length : Nat)) H
theorem c_lenD {X : Cx} : CallR X (.builtin "len") rLenDK := call_lenD

/-! ### keys that are whole numbers -/
theorem sv_dnewI {i : Nat} {o : Option τ} (hi : i < ds.length) (k : SvO K (ds.set i (.di (emD ([] : List (Int × β))))) u o out) : SvO K ds (tSeq (tAsg tDNewK (gName i)) u) o out := by
  intro x hx B F M H σ D E fin
  intro p hp
  have e : Ext F H F (upd H p (diO [])) := Ext.new0 E.sF hp
  have E' := E.ext e
  refine k x hx B F _ _ _ D (E'.setnew hi (none_of_same E.sB hp) (none_of_same E.sF hp) (fun z => E.mH p z hp) (by show upd H p (diO []) p ≠ none; rw [upd_same]; exact fun z => nomatch z) (fun xs => by show upd H p (diO []) p ≠ some (.tup xs); rw [upd_same]; exact fun z => nomatch z) ⟨p, [], rfl, upd_same, .nil, rfl⟩) (fin.step ⟨e.sF, fun a z => .inl z, fun b o z _ => e.sH b o z, fun a z => ?_⟩)
  rcases z with z | rfl
  · exact .inl z
  · exact .inr hp
theorem sv_dputI {i : Nat} {kvs : List (Int × β)} {o : Option β} {ok : Option Int} {r : List (Int × β) → Option τ} (hi : i < ds.length) (hx : ds[i]? = some (.di (emD kvs))) (h : EvO K ds .f te o) (hk : EvO K ds m tb ok) (k : ∀ ys : List (Int × β), SvO K (ds.set i (.di (emD ys))) u (r ys) out) :
    SvO K ds (tSeq (sDPut (tVar i) tb te) u) ((o.bind fun x => ok.bind fun k => odput kvs k x).bind r) out := by
  intro x hx2 B F M H σ D E fin
  obtain ⟨ys, e1, e2⟩ := bind_some' hx2
  obtain ⟨y, e3, e4⟩ := bind_some' e1
  obtain ⟨kk, e5, e6⟩ := bind_some' e4
  obtain ⟨foot, f1, f2, f3⟩ := id E.ft
  have h3 := f3 i
  rw [hx] at h3
  obtain ⟨p, kv, e, hp, r1, hm⟩ := h3
  refine h y e3 B F M H σ _ E fun v F' H' x r2 => ⟨.ref p, e, hk kk e5 B F' M H' σ _ (E.ext x) fun w F2 H2 x2 r4 => ?_⟩
  unfold odput at e6
  split at e6
  · rename_i hl
    cases e6
    have xx := x.trans x2
    have E' := E.ext xx
    have hp' := xx.sH _ _ hp
    have f3' : ∀ i, hold K B F2 H2 (ds[i]?.getD .no) (σ[i]?) (foot i) := fun i => (f3 i).mono xx.sF (fun a o _ z => xx.sH a o z) E.sF xx.sub
    have hlen : kv.length < sizeLine := Nat.lt_of_lt_of_le (by rw [r1.len]; unfold emD; rw [List.length_map]; exact hl) (by decide : 100000 ≤ sizeLine)
    have hput : DPut H2 p w v (upd H2 p (diO (dput kv kk v))) := by
      rw [rp_int r4]
      have e := putK_map (κ' := L2.Key) (f := Sum.inl) (fun a b h => Sum.inl.inj h) kv kk v
      have := DPut.k (H := H2) (a := p) (k := Sum.inl kk) (v := v) (kvs := mapK Sum.inl kv) hp' (by unfold mapK; rw [List.length_map]; exact hlen)
      rw [e] at this
      exact this
    refine ⟨p, upd H2 p (diO (dput kv kk v)), rfl, hput, ?_⟩
    have r3 : KvR F2 (dput kv kk v) (emD (dput kvs kk y)) := by
      rw [← emD_put]
      exact (r1.mono xx.sF).put (r2.mono x2.sF)
    refine k _ _ e2 B F2 M _ σ D (E'.chres f1 f2 f3' hi hm (fun _ z => nomatch z) ⟨p, _, e, upd_same, r3, hm⟩) (fin.step ⟨xx.sF, fun a z => (xx.new a z).imp_right .inl, fun b o z nm => ?_, fun a z => .inl z⟩)
    rw [upd_ne fun q => nm (by rw [q]; exact f1 i p hm)]
    exact xx.sH b o z
  · cases e6
/-- where the dict of a slot stands, own or handed in -/
theorem datI {i : Nat} {kvs : List (Int × PyData)} (hx : ds[i]? = some (.di kvs) ∨ ds[i]? = some (.rdi kvs)) {B F M H σ} (E : Env K B F M H σ ds) : ∃ p kv, σ[i]? = some (some (.ref p)) ∧ H p = some (diO kv) ∧ KvR H kv kvs := by
  rcases hx with hx | hx
  · obtain ⟨_, _, p, kv, e, hp, r, _⟩ := E.at hx
    exact ⟨p, kv, e, hp, r.mono E.sF⟩
  · obtain ⟨_, _, p, kv, e, hp, r⟩ := E.at hx
    exact ⟨p, kv, e, E.sB _ _ hp, r.mono E.sB⟩
theorem dgetI_run {kv : List (Int × V)} {p : Addr} {H : Hp} {w : V} {kk : Int} (hp : H p = some (diO kv)) (r : Rp H w (em kk)) : DGet H p w (dget kv kk) := by
  rw [rp_int r]
  have e := valV_map (κ' := L2.Key) (f := Sum.inl) (fun a b h => Sum.inl.inj h) kv kk
  have := DGet.k (H := H) (a := p) (k := Sum.inl kk) (kvs := mapK Sum.inl kv) hp
  rw [e] at this
  exact this
theorem ev_dinI {i : Nat} {kvs : List (Int × β)} {ok : Option Int} (hx : ds[i]? = some (.di (emD kvs)) ∨ ds[i]? = some (.rdi (emD kvs))) (hk : EvO K ds m tb ok) : EvO K ds .f (tDIn tb (tVar i)) (odin ok kvs) := by
  intro z hz B F M H σ Q E q
  cases ok with
  | none => cases hz
  | some kk =>
    cases hz
    refine hk kk rfl B F M H σ _ E fun w F' H' x r => ?_
    obtain ⟨p, kv, e, hp, rk⟩ := datI hx (E.ext x)
    refine ⟨.ref p, e, p, _, rfl, dgetI_run hp (r.mono (hp_H (E.ext x))), ?_⟩
    have : (dget kv kk).isSome = (dget kvs kk).isSome := by
      have g := emD_get kvs kk
      rcases rk.get kk with ⟨a, b⟩ | ⟨v, d, a, b, _⟩
      · rw [a]; rw [b] at g; cases h : dget kvs kk with
        | none => rfl
        | some y => rw [h] at g; cases g
      · rw [a]; rw [b] at g; cases h : dget kvs kk with
        | none => rw [h] at g; cases g
        | some y => rfl
    rw [this]
    exact q _ F' H' x (.bl _)
theorem ev_dninI {i : Nat} {kvs : List (Int × β)} {ok : Option Int} (hx : ds[i]? = some (.di (emD kvs)) ∨ ds[i]? = some (.rdi (emD kvs))) (hk : EvO K ds m tb ok) : EvO K ds .f (tDNotIn tb (tVar i)) (odnin ok kvs) := by
  intro z hz B F M H σ Q E q
  cases ok with
  | none => cases hz
  | some kk =>
    cases hz
    refine hk kk rfl B F M H σ _ E fun w F' H' x r => ?_
    obtain ⟨p, kv, e, hp, rk⟩ := datI hx (E.ext x)
    refine ⟨.ref p, e, p, _, rfl, dgetI_run hp (r.mono (hp_H (E.ext x))), ?_⟩
    have : (dget kv kk).isSome = (dget kvs kk).isSome := by
      have g := emD_get kvs kk
      rcases rk.get kk with ⟨a, b⟩ | ⟨v, d, a, b, _⟩
      · rw [a]; rw [b] at g; cases h : dget kvs kk with
        | none => rfl
        | some y => rw [h] at g; cases g
      · rw [a]; rw [b] at g; cases h : dget kvs kk with
        | none => rw [h] at g; cases g
        | some y => rfl
    rw [this]
    exact q _ F' H' x (.bl _)
/-- d[k], of an own dict | of one that is handed in -/
theorem ev_dgetI {i : Nat} {kvs : List (Int × β)} {ok : Option Int} (hx : ds[i]? = some (.di (emD kvs))) (hk : EvO K ds m tb ok) : EvO K ds .f (tDGet (tVar i) tb) (odget kvs ok) := by
  intro z hz B F M H σ Q E q
  obtain ⟨kk, e1, e2⟩ := bind_some' hz
  obtain ⟨_, _, p, kv, e, hp, r1, _⟩ := E.at hx
  refine ⟨.ref p, e, hk kk e1 B F M H σ _ E fun w F' H' x r => ?_⟩
  have E' := E.ext x
  have g := emD_get kvs kk
  rw [e2] at g
  rcases (r1.mono x.sF).get kk with ⟨a, b⟩ | ⟨v, d, a, b, rv⟩
  · rw [b] at g; cases g
  · rw [b] at g
    cases g
    have dg := dgetI_run (x.sH _ _ hp) (r.mono (hp_H E'))
    rw [a] at dg
    exact ⟨p, v, rfl, dg, q v F' H' x rv⟩
theorem ev_dgetRI {i : Nat} {kvs : List (Int × β)} {ok : Option Int} (hx : ds[i]? = some (.rdi (emD kvs))) (hk : EvO K ds m tb ok) : EvO K ds .b (tDGet (tVar i) tb) (odget kvs ok) := by
  intro z hz B F M H σ Q E q
  obtain ⟨kk, e1, e2⟩ := bind_some' hz
  obtain ⟨_, _, p, kv, e, hp, r1⟩ := E.at hx
  refine ⟨.ref p, e, hk kk e1 B F M H σ _ E fun w F' H' x r => ?_⟩
  have E' := E.ext x
  have g := emD_get kvs kk
  rw [e2] at g
  rcases r1.get kk with ⟨a, b⟩ | ⟨v, d, a, b, rv⟩
  · rw [b] at g; cases g
  · rw [b] at g
    cases g
    have dg := dgetI_run (E'.sB _ _ hp) (r.mono (hp_H E'))
    rw [a] at dg
    exact ⟨p, v, rfl, dg, q v F' H' x rv⟩
theorem ev_dlenI {i : Nat} {kvs : List (Int × β)} (hx : ds[i]? = some (.di (emD kvs)) ∨ ds[i]? = some (.rdi (emD kvs))) : EvO K ds .f (tCB rLenDK (tCons (tVar i) tNil)) (some (kvs.length : Int)) := by
  intro z hz B F M H σ Q E q
  cases hz
  obtain ⟨p, kv, e, hp, rk⟩ := datI hx E
  refine ⟨.ref p, e, p, _, rfl, hp, ?_⟩
  have : ((List.map (fun x : Int × V => ((Sum.inl x.1 : L2.Key), x.2)) kv).length : Int) = (kvs.length : Int) := by
    have := rk.len
    unfold emD at this
    rw [List.length_map] at this
    rw [List.length_map, this]
  rw [this]
  exact q _ F H (Ext.refl E.sF) (.int _)
theorem ea_dI {tr : TA} {i : Nat} {kvs : List (Int × β)} {os : Option τ} {A : τ → List Ar} (hx : ds[i]? = some (.di (emD kvs)) ∨ ds[i]? = some (.rdi (emD kvs))) (hr : EvA K ds tr os A) : EvA K ds (tCons (tVar i) tr) (oarg (some kvs) os) fun t => .di (emD t.1) :: A t.2 := fun t ht B F M H σ Q E q => by
  obtain ⟨x, y, e1, e2, e3⟩ := obin_some ht
  cases e3
  cases e1
  obtain ⟨p, kv, e, hp, rk⟩ := datI hx E
  exact ⟨.ref p, e, hr y e2 B F M H σ _ E fun vs F2 H2 x2 r2 => q _ F2 H2 x2 ⟨⟨p, kv, rfl, x2.sH _ _ hp, rk.mono x2.sH⟩, r2⟩⟩

/-! ### keys that are pairs -/
theorem sv_dnewP {i : Nat} {o : Option τ} (hi : i < ds.length) (k : SvO K (ds.set i (.dp (emD ([] : List (PP × β))))) u o out) : SvO K ds (tSeq (tAsg tDNewT (gName i)) u) o out := by
  intro x hx B F M H σ D E fin
  intro p hp
  have e : Ext F H F (upd H p (dpO [])) := Ext.new0 E.sF hp
  have E' := E.ext e
  refine k x hx B F _ _ _ D (E'.setnew hi (none_of_same E.sB hp) (none_of_same E.sF hp) (fun z => E.mH p z hp) (by show upd H p (dpO []) p ≠ none; rw [upd_same]; exact fun z => nomatch z) (fun xs => by show upd H p (dpO []) p ≠ some (.tup xs); rw [upd_same]; exact fun z => nomatch z) ⟨p, [], rfl, upd_same, .nil, rfl⟩) (fin.step ⟨e.sF, fun a z => .inl z, fun b o z _ => e.sH b o z, fun a z => ?_⟩)
  rcases z with z | rfl
  · exact .inl z
  · exact .inr hp
theorem sv_dputP {i : Nat} {kvs : List (PP × β)} {o : Option β} {ok : Option PP} {r : List (PP × β) → Option τ} (hi : i < ds.length) (hx : ds[i]? = some (.dp (emD kvs))) (h : EvO K ds .f te o) (hk : EvO K ds m tb ok) (k : ∀ ys : List (PP × β), SvO K (ds.set i (.dp (emD ys))) u (r ys) out) :
    SvO K ds (tSeq (sDPut (tVar i) tb te) u) ((o.bind fun x => ok.bind fun k => odput kvs k x).bind r) out := by
  intro x hx2 B F M H σ D E fin
  obtain ⟨ys, e1, e2⟩ := bind_some' hx2
  obtain ⟨y, e3, e4⟩ := bind_some' e1
  obtain ⟨kk, e5, e6⟩ := bind_some' e4
  obtain ⟨foot, f1, f2, f3⟩ := id E.ft
  have h3 := f3 i
  rw [hx] at h3
  obtain ⟨p, kv, e, hp, r1, hm⟩ := h3
  refine h y e3 B F M H σ _ E fun v F' H' x r2 => ⟨.ref p, e, hk kk e5 B F' M H' σ _ (E.ext x) fun w F2 H2 x2 r4 => ?_⟩
  unfold odput at e6
  split at e6
  · rename_i hl
    cases e6
    have xx := x.trans x2
    have E' := E.ext xx
    have hp' := xx.sH _ _ hp
    have f3' : ∀ i, hold K B F2 H2 (ds[i]?.getD .no) (σ[i]?) (foot i) := fun i => (f3 i).mono xx.sF (fun a o _ z => xx.sH a o z) E.sF xx.sub
    have hlen : kv.length < sizeLine := Nat.lt_of_lt_of_le (by rw [r1.len]; unfold emD; rw [List.length_map]; exact hl) (by decide : 100000 ≤ sizeLine)
    have hput : DPut H2 p w v (upd H2 p (dpO (dput kv kk v))) := by
      obtain ⟨b, x1, x2', rfl, hb, ra, rb⟩ := rp_pair (r4.mono (hp_H E'))
      rw [rp_int ra, rp_int rb] at hb
      have e := putK_map (κ' := List L2.Key) (f := kyP) kyP_inj kv kk v
      have := DPut.t (H := H2) (a := p) (b := b) (k := kyP kk) (v := v) (kvs := mapK kyP kv) hp' hb (by unfold mapK; rw [List.length_map]; exact hlen)
      rw [e] at this
      exact this
    refine ⟨p, upd H2 p (dpO (dput kv kk v)), rfl, hput, ?_⟩
    have r3 : KvR F2 (dput kv kk v) (emD (dput kvs kk y)) := by
      rw [← emD_put]
      exact (r1.mono xx.sF).put (r2.mono x2.sF)
    refine k _ _ e2 B F2 M _ σ D (E'.chres f1 f2 f3' hi hm (fun _ z => nomatch z) ⟨p, _, e, upd_same, r3, hm⟩) (fin.step ⟨xx.sF, fun a z => (xx.new a z).imp_right .inl, fun b o z nm => ?_, fun a z => .inl z⟩)
    rw [upd_ne fun q => nm (by rw [q]; exact f1 i p hm)]
    exact xx.sH b o z
  · cases e6
/-- where the dict of a slot stands, own or handed in -/
theorem datP {i : Nat} {kvs : List (PP × PyData)} (hx : ds[i]? = some (.dp kvs) ∨ ds[i]? = some (.rdp kvs)) {B F M H σ} (E : Env K B F M H σ ds) : ∃ p kv, σ[i]? = some (some (.ref p)) ∧ H p = some (dpO kv) ∧ KvR H kv kvs := by
  rcases hx with hx | hx
  · obtain ⟨_, _, p, kv, e, hp, r, _⟩ := E.at hx
    exact ⟨p, kv, e, hp, r.mono E.sF⟩
  · obtain ⟨_, _, p, kv, e, hp, r⟩ := E.at hx
    exact ⟨p, kv, e, E.sB _ _ hp, r.mono E.sB⟩
theorem dgetP_run {kv : List (PP × V)} {p : Addr} {H : Hp} {w : V} {kk : PP} (hp : H p = some (dpO kv)) (r : Rp H w (em kk)) : DGet H p w (dget kv kk) := by
  obtain ⟨b, x1, x2', rfl, hb, ra, rb⟩ := rp_pair r
  rw [rp_int ra, rp_int rb] at hb
  have e := valV_map (κ' := List L2.Key) (f := kyP) kyP_inj kv kk
  have := DGet.t (H := H) (a := p) (b := b) (k := kyP kk) (kvs := mapK kyP kv) hp hb
  rw [e] at this
  exact this
theorem ev_dinP {i : Nat} {kvs : List (PP × β)} {ok : Option PP} (hx : ds[i]? = some (.dp (emD kvs)) ∨ ds[i]? = some (.rdp (emD kvs))) (hk : EvO K ds m tb ok) : EvO K ds .f (tDIn tb (tVar i)) (odin ok kvs) := by
  intro z hz B F M H σ Q E q
  cases ok with
  | none => cases hz
  | some kk =>
    cases hz
    refine hk kk rfl B F M H σ _ E fun w F' H' x r => ?_
    obtain ⟨p, kv, e, hp, rk⟩ := datP hx (E.ext x)
    refine ⟨.ref p, e, p, _, rfl, dgetP_run hp (r.mono (hp_H (E.ext x))), ?_⟩
    have : (dget kv kk).isSome = (dget kvs kk).isSome := by
      have g := emD_get kvs kk
      rcases rk.get kk with ⟨a, b⟩ | ⟨v, d, a, b, _⟩
      · rw [a]; rw [b] at g; cases h : dget kvs kk with
        | none => rfl
        | some y => rw [h] at g; cases g
      · rw [a]; rw [b] at g; cases h : dget kvs kk with
        | none => rw [h] at g; cases g
        | some y => rfl
    rw [this]
    exact q _ F' H' x (.bl _)
theorem ev_dninP {i : Nat} {kvs : List (PP × β)} {ok : Option PP} (hx : ds[i]? = some (.dp (emD kvs)) ∨ ds[i]? = some (.rdp (emD kvs))) (hk : EvO K ds m tb ok) : EvO K ds .f (tDNotIn tb (tVar i)) (odnin ok kvs) := by
  intro z hz B F M H σ Q E q
  cases ok with
  | none => cases hz
  | some kk =>
    cases hz
    refine hk kk rfl B F M H σ _ E fun w F' H' x r => ?_
    obtain ⟨p, kv, e, hp, rk⟩ := datP hx (E.ext x)
    refine ⟨.ref p, e, p, _, rfl, dgetP_run hp (r.mono (hp_H (E.ext x))), ?_⟩
    have : (dget kv kk).isSome = (dget kvs kk).isSome := by
      have g := emD_get kvs kk
      rcases rk.get kk with ⟨a, b⟩ | ⟨v, d, a, b, _⟩
      · rw [a]; rw [b] at g; cases h : dget kvs kk with
        | none => rfl
        | some y => rw [h] at g; cases g
      · rw [a]; rw [b] at g; cases h : dget kvs kk with
        | none => rw [h] at g; cases g
        | some y => rfl
    rw [this]
    exact q _ F' H' x (.bl _)
/-- d[k], of an own dict | of one that is handed in -/
theorem ev_dgetP {i : Nat} {kvs : List (PP × β)} {ok : Option PP} (hx : ds[i]? = some (.dp (emD kvs))) (hk : EvO K ds m tb ok) : EvO K ds .f (tDGet (tVar i) tb) (odget kvs ok) := by
  intro z hz B F M H σ Q E q
  obtain ⟨kk, e1, e2⟩ := bind_some' hz
  obtain ⟨_, _, p, kv, e, hp, r1, _⟩ := E.at hx
  refine ⟨.ref p, e, hk kk e1 B F M H σ _ E fun w F' H' x r => ?_⟩
  have E' := E.ext x
  have g := emD_get kvs kk
  rw [e2] at g
  rcases (r1.mono x.sF).get kk with ⟨a, b⟩ | ⟨v, d, a, b, rv⟩
  · rw [b] at g; cases g
  · rw [b] at g
    cases g
    have dg := dgetP_run (x.sH _ _ hp) (r.mono (hp_H E'))
    rw [a] at dg
    exact ⟨p, v, rfl, dg, q v F' H' x rv⟩
theorem ev_dgetRP {i : Nat} {kvs : List (PP × β)} {ok : Option PP} (hx : ds[i]? = some (.rdp (emD kvs))) (hk : EvO K ds m tb ok) : EvO K ds .b (tDGet (tVar i) tb) (odget kvs ok) := by
  intro z hz B F M H σ Q E q
  obtain ⟨kk, e1, e2⟩ := bind_some' hz
  obtain ⟨_, _, p, kv, e, hp, r1⟩ := E.at hx
  refine ⟨.ref p, e, hk kk e1 B F M H σ _ E fun w F' H' x r => ?_⟩
  have E' := E.ext x
  have g := emD_get kvs kk
  rw [e2] at g
  rcases r1.get kk with ⟨a, b⟩ | ⟨v, d, a, b, rv⟩
  · rw [b] at g; cases g
  · rw [b] at g
    cases g
    have dg := dgetP_run (E'.sB _ _ hp) (r.mono (hp_H E'))
    rw [a] at dg
    exact ⟨p, v, rfl, dg, q v F' H' x rv⟩
theorem ev_dlenP {i : Nat} {kvs : List (PP × β)} (hx : ds[i]? = some (.dp (emD kvs)) ∨ ds[i]? = some (.rdp (emD kvs))) : EvO K ds .f (tCB rLenT (tCons (tVar i) tNil)) (some (kvs.length : Int)) := by
  intro z hz B F M H σ Q E q
  cases hz
  obtain ⟨p, kv, e, hp, rk⟩ := datP hx E
  refine ⟨.ref p, e, p, _, rfl, hp, ?_⟩
  have : ((List.map (fun x : PP × V => (([Sum.inl x.1.1, Sum.inl x.1.2] : List L2.Key), x.2)) kv).length : Int) = (kvs.length : Int) := by
    have := rk.len
    unfold emD at this
    rw [List.length_map] at this
    rw [List.length_map, this]
  rw [this]
  exact q _ F H (Ext.refl E.sF) (.int _)
theorem ea_dP {tr : TA} {i : Nat} {kvs : List (PP × β)} {os : Option τ} {A : τ → List Ar} (hx : ds[i]? = some (.dp (emD kvs)) ∨ ds[i]? = some (.rdp (emD kvs))) (hr : EvA K ds tr os A) : EvA K ds (tCons (tVar i) tr) (oarg (some kvs) os) fun t => .dp (emD t.1) :: A t.2 := fun t ht B F M H σ Q E q => by
  obtain ⟨x, y, e1, e2, e3⟩ := obin_some ht
  cases e3
  cases e1
  obtain ⟨p, kv, e, hp, rk⟩ := datP hx E
  exact ⟨.ref p, e, hr y e2 B F M H σ _ E fun vs F2 H2 x2 r2 => q _ F2 H2 x2 ⟨⟨p, kv, rfl, x2.sH _ _ hp, rk.mono x2.sH⟩, r2⟩⟩
end
end Tw
/-! sorted over a dict with tuple keys; in over a tuple; slices with a step; tuples joined. -/
namespace TwL
open PySem PySem.W PySem.Calls PyProof.Rows PyProof.V PySem.Spec
section
variable {prog : Program} {w : World} {A : Around} {E : Value → Shared → Prop} {s : Shared} {d : Addr} {es : Array DictEntry} {ep : Nat}
theorem walks_raw (hh : A.handled = none) (I d : Addr) (hne : d ≠ I) (es : Array DictEntry) (ep : Nat) :
    Walks prog w A I [I, d] [I] es.size (fun i v => ∃ en, es[i]? = some en ∧ en.key = v) (fun i h => h.IsKeyIter I d i es.size ep ∧ DT.Raw h d es ep) where
  sub := fun b hb => by simp at hb; simp [hb]
  frame := fun _ _ _ st hk => ⟨st.1.at fun o e => hk I (by simp) o e, st.2.at' fun o e => hk d (by simp) o e⟩
  item := fun i s Q E hi st hQ => by
    obtain ⟨o, ho, hx, hdt⟩ := id st.2
    refine L2.next_key_item st.1 ho hdt rfl (en := es[i]) (by simp [hi]) fun h' st' sb => ?_
    exact hQ es[i].key h' s.toks ⟨es[i], by simp [hi], rfl⟩ ⟨st', st.2.at' fun o e => (sb.2 d hne).trans e⟩ fun b o hb e => (sb.2 b (fun h => hb (by simp [h]))).trans e
  done := fun s Q E st hQ => by
    obtain ⟨o, ho, hx, hdt⟩ := id st.2
    exact L2.next_key_end hh st.1 ho hdt rfl (Nat.le_refl _) fun h' he' => hQ h' s.toks fun b o hb e => he' b o (fun h => hb (by simp [h])) e
  self := fun _ _ _ _ st hQ => wpAny_pyIter_keyiter st.1 hQ
theorem kdl_raw (lo : (d == sysModules) = false) : KdlSrc prog w "dict" d d es.size (fun i v => ∃ en, es[i]? = some en ∧ en.key = v) (fun h => DT.Raw h d es ep) where
  type := fun _ hm => hm.typeIs
  there := fun _ hm => ⟨hm.lt, hm.lt⟩
  keep := fun _ _ hm hk => hm.at' fun o e => hk d (.inl rfl) o e
  notList := by decide
  notTuple := by decide
  hint := fun _ _ _ _ hm hq => kdl_hint_dict hm.typeIs hq
  iter := fun A s hh hm => by
    obtain ⟨o, ho, hx, hdt⟩ := id hm
    exact ⟨_, _, (fun _ _ hq => L2.iter_keys lo ho hx hdt hq), walks_raw hh _ d (Nat.ne_of_lt hm.lt) es ep, ⟨⟨_, Heap.get?_push_size _ rfl, rfl, rfl⟩, hm.push _⟩⟩
end
end TwL
namespace L2
open PySem PySem.Spec PyProof.Rows
/-- the items that a slice with a step takes -/
def pickG {α : Type} (xs : List α) (lo hi st : Option Int) : List α := (sliceRange (sliceBounds lo hi st xs.length).1 (sliceBounds lo hi st xs.length).2.1 (sliceBounds lo hi st xs.length).2.2).filterMap fun i => xs[i]?
theorem pickG_map {α β : Type} (f : α → β) (xs : List α) (lo hi st : Option Int) : pickG (xs.map f) lo hi st = (pickG xs lo hi st).map f := by
  unfold pickG
  rw [List.length_map, List.map_filterMap]
  congr 1
  funext i
  rw [List.getElem?_map]
theorem vals_filter {xs : List V} {us : List Value} (r : Vals xs us) : ∀ js : List Nat, Vals (js.filterMap fun i => xs[i]?) (js.filterMap fun i => us[i]?)
  | [] => .nil
  | j :: js => by
    rw [List.filterMap_cons, List.filterMap_cons]
    cases e : xs[j]? with
    | none =>
      rw [r.none_of e]
      exact vals_filter r js
    | some x =>
      obtain ⟨u, e2, h⟩ := r.get e
      rw [e2]
      exact .cons h (vals_filter r js)
theorem pickG_vals {xs : List V} {us : List Value} (r : Vals xs us) (lo hi st : Option Int) : Vals (pickG xs lo hi st) (slicePick us.toArray lo hi st).toList := by
  unfold pickG slicePick
  rw [List.size_toArray, r.length]
  have := vals_filter r (sliceRange (sliceBounds lo hi st us.length).1 (sliceBounds lo hi st us.length).2.1 (sliceBounds lo hi st us.length).2.2)
  simpa using this
theorem pickG_len {α : Type} (xs : List α) (lo hi st : Option Int) : (pickG xs lo hi st).length ≤ xs.length := by
  have h := slicePick_size_le (xs.map fun _ => Value.none).toArray lo hi st
  have e : (slicePick (xs.map fun _ => Value.none).toArray lo hi st).size = (pickG (xs.map fun _ => Value.none) lo hi st).length := by
    unfold slicePick pickG
    simp
  rw [e, pickG_map, List.length_map, List.size_toArray, List.length_map] at h
  exact h
def tSl3 (K : PySem.W.Frag) (te : TE) (tl th ts : TO) : TE := fun σ H Q => te σ H fun x H1 => tl σ H1 fun l H2 => th σ H2 fun u H3 => ts σ H3 fun o H4 => o ≠ some 0 ∧ ∃ a xs, x = .ref a ∧ SqL K H4 a xs ∧ ∀ p, H4 p = none → Q (.ref p) (upd H4 p (.lst (pickG xs l u o)))
section
variable {X : Cx}
theorem pe_slice3 {e es : Expr} {lo hi : Option Expr} {te : TE} {tl th ts : TO} {p2 pos : Pos} (he : PE X e te) (hl : PO X lo tl) (hu : PO X hi th) (hst : PO X (some es) ts) : PE X (.Subscript e (.Slice lo hi (some es) p2) pos) (tSl3 X.K te tl th ts) := by
  refine ⟨fun pins s σ H Q I h => ?_⟩
  refine Subscript_ (thn (he.run pins s σ H _ I h) fun v s1 ⟨x, H1, I1, r1, q1⟩ => ?_)
  refine wpAny_Slice (thn (hl.run pins s1 σ H1 _ I1 q1) fun vl s2 ⟨l, H2, I2, pl, q2⟩ => thn (hu.run pins s2 σ H2 _ I2 q2) fun vu s3 ⟨u, H3, I3, pu, q3⟩ => thn (hst.run pins s3 σ H3 _ I3 q3) fun vs s4 ⟨o, H4, I4, ps, q4⟩ => ?_)
  obtain ⟨h0, a, xs, ex, hx, q⟩ := q4
  subst ex
  cases r1
  have I5 : Inv X pins σ H4 { s4 with heap := s4.heap.push { cls := .type "slice", data := .fields #[vl, vu, vs] } } := I4.kept (t' := s4.toks) fun b ob q => Heap.get?_push_of_some _ q
  obtain ⟨its, r, ht, hz⟩ := I5.list hx
  have hlen := r.length
  show wpAny (model X.prog X.w) X.A (subscriptTail e (.Slice lo hi (some es) p2) (.ref a) (.ref s4.heap.objs.size)) (EP X pins σ Q) X.xe { s4 with heap := s4.heap.push { cls := .type "slice", data := .fields #[vl, vu, vs] } }
  refine tail_any (ops := [.ref a, .ref s4.heap.objs.size]) ht.isList.typeIs (PySem.slot_list_getitem.lookup) ?_ (by with_unfolding_all rfl)
  refine wpAny_getItem_list_slice ht.isList (Heap.IsSliceOf.new _ vl vu vs) pl pu ps h0 ?_ (by rw [List.size_toArray]; omega)
  refine ⟨.ref _, _, I5.laid (t' := s4.toks) (o := .lst (pickG xs l u o)) (fun b ob q => Heap.get?_push_of_some _ q) (Nat.le_refl _) ?_, rfl, q _ (I5.hok.fresh (Nat.le_refl _))⟩
  exact ⟨Nat.le_trans (pickG_len xs l u o) hz, _, 0, pickG_vals r l u o, Heap.get?_push_size _ rfl⟩
/-- x in a tuple, data of any depth -/
def rInTD (K : PySem.W.Frag) : R2 := fun x y H Q => ∃ d ds, Dp K H x d ∧ Dp K H y (.tuple ds) ∧ SeqAt.shaped d = true ∧ SeqAt.shaped (.tuple ds) = true ∧ Q (.bl (ds.any fun z => PyData.eqv z d)) H
theorem op_inTD (hu : X.A.units + 65 < cLine) : OpR X (compareOp .In) (rInTD X.K) := by
  intro pins s σ H x y v u Q I rx ry h
  obtain ⟨d, ds, hd, he, sd, se, q⟩ := h
  obtain ⟨as, r1⟩ := Dp.reads I d x v hd rx
  obtain ⟨bs, r2⟩ := Dp.reads I (.tuple ds) y u he ry
  exact SeqAt.in_tuple_reads r2 r1 (SeqAt.canLay_of_shaped se) (SeqAt.canLay_of_shaped sd) (room_in_shaped sd hu) ⟨.bl _, H, I, rfl, q⟩
end
end L2

namespace Tw
open PySem L2
def ostep {α : Type} (o : Option (List α)) (lo hi st : Option (Option Int)) : Option (List α) := o.bind fun xs => lo.bind fun l => hi.bind fun h => st.bind fun k => if k ≠ some 0 then some (pickG xs l h k) else none
def oint2 {α : Type} [Em α] (a : Option α) (b : Option (α × α)) : Option Bool := obin (fun x y => some (PyData.eqv (em y.1) (em x) || PyData.eqv (em y.2) (em x))) a b
theorem rpa_filter {H : Hp} {vs : List V} {ds : List PyData} (r : RpA H vs ds) : ∀ js : List Nat, RpA H (js.filterMap fun i => vs[i]?) (js.filterMap fun i => ds[i]?)
  | [] => .nil
  | j :: js => by
    rw [List.filterMap_cons, List.filterMap_cons]
    cases e : ds[j]? with
    | none =>
      have e2 : vs[j]? = none := by
        rw [List.getElem?_eq_none_iff] at e ⊢
        rw [r.len]; exact e
      rw [e2]
      exact rpa_filter r js
    | some x =>
      obtain ⟨u, e2, h⟩ := r.get e
      rw [e2]
      exact .cons h (rpa_filter r js)
theorem RpA.pick {H : Hp} {vs : List V} {ds : List PyData} (r : RpA H vs ds) (lo hi st : Option Int) : RpA H (pickG vs lo hi st) (pickG ds lo hi st) := by
  unfold pickG
  rw [r.len]
  exact rpa_filter r _
/-- a tuple of two own lists -/
def own2 (ds es : List PyData) : Rs where
  h := fun F H v M => ∃ p l1 l2 ws us, v = .ref p ∧ F p = some (.tup [.ref l1, .ref l2]) ∧ l1 ≠ l2 ∧ M l1 ∧ M l2 ∧ H l1 = some (.lst ws) ∧ H l2 = some (.lst us) ∧ RpA F ws ds ∧ RpA F us es
  mono := fun {F H F' H' v M} sF kp s1 s2 ⟨p, l1, l2, ws, us, e, hp, hn, m1, m2, h1, h2, r1, r2⟩ => ⟨p, l1, l2, ws, us, e, sF _ _ hp, hn, m1, m2, kp _ _ m1 h1, kp _ _ m2 h2, r1.mono sF, r2.mono sF⟩
def EvL2 (K : PySem.W.Frag) (ds : List Sl) (te : TE) {α β : Type} [Em α] [Em β] (o : Option (List α × List β)) : Prop := ∀ xs, o = some xs →
  ∀ B F M H σ Q, Env K B F M H σ ds → (∀ p l1 l2 ws us F' H', Ext F H F' H' → F' p = some (.tup [.ref l1, .ref l2]) → l1 ≠ l2 → F' l1 = none → F' l2 = none → H l1 = none → H l2 = none → H' l1 = some (.lst ws) → H' l2 = some (.lst us) → RpA F' ws (xs.1.map em) → RpA F' us (xs.2.map em) → Q (.ref p) H') → te σ H Q
def spT (K : PySem.W.Frag) {τ α β : Type} [Em α] [Em β] (A : τ → List Ar) (f : τ → Option (List α × List β)) : Sp := fun vs H Q _ => ∃ F t b, Same F H ∧ AOk K F H vs (A t) ∧ f t = some b ∧
  ∀ p l1 l2 ws us F' H', Ext F H F' H' → F' p = some (.tup [.ref l1, .ref l2]) → l1 ≠ l2 → F' l1 = none → F' l2 = none → H l1 = none → H l2 = none → H' l1 = some (.lst ws) → H' l2 = some (.lst us) → RpA F' ws (b.1.map em) → RpA F' us (b.2.map em) → Q (.ref p) H'
section
variable {K : PySem.W.Frag} {ds es : List Sl} {ta tb tc te : TE} {tr : TA} {t u w : TS} {g : TG} {m m1 m2 : Md} {α β γ τ : Type} [Em α] [Em β] [Em γ] {out : τ → Out}
theorem ev_join {o : Option (Option α)} (h : EvO K ds m te o) : EvO K ds m te (o.bind id) := fun x hx => by
  cases o with
  | none => cases hx
  | some y => cases (show y = some x from hx); exact h _ rfl
theorem el_step [Scl α] {tl th ts : TO} {o : Option (List α)} {ol oh os : Option (Option Int)} (h : EvO K ds m te o) (hl : EvB K ds tl ol) (hh : EvB K ds th oh) (hs : EvB K ds ts os) : EvL K ds (L2.tSl3 K te tl th ts) (ostep o ol oh os) := by
  intro zs hz B F M H σ Q E q
  obtain ⟨xs, e1, hz⟩ := bind_some' hz
  obtain ⟨l, e2, hz⟩ := bind_some' hz
  obtain ⟨u, e3, hz⟩ := bind_some' hz
  obtain ⟨k, e4, hz⟩ := bind_some' hz
  split at hz
  · rename_i hk
    cases hz
    refine h xs e1 B F M H σ _ E fun v F1 H1 x1 r1 => ?_
    obtain ⟨p, vs, rfl, hp, ra⟩ := rp_list r1
    have E1 := E.ext x1
    refine hl l e2 B F1 M H1 σ _ E1 fun F2 H2 x2 => hh u e3 B F2 M H2 σ _ (E1.ext x2) fun F3 H3 x3 => hs k e4 B F3 M H3 σ _ ((E1.ext x2).ext x3) fun F4 H4 x4 => ?_
    have X := (x1.trans x2).trans (x3.trans x4)
    have X1 := x2.trans (x3.trans x4)
    have E4 := ((E1.ext x2).ext x3).ext x4
    refine ⟨hk, p, vs, rfl, SqL.of (X1.sH _ _ (hp_H E1 _ _ hp)), fun n hn => q n _ F4 _ (X.trans (Ext.new0 E4.sF hn)) (none_of_same E4.sF hn) (none_of_same X.sH hn) upd_same ?_⟩
    rw [← pickG_map]
    exact (conv_sc (H' := F4) ra).pick l u k
  · cases hz
theorem ev_inT2 [Shp α] {o1 : Option α} {o2 : Option (α × α)} (l : Shp.dep α + 1 ≤ 64) (h1 : EvO K ds m1 ta o1) (h2 : EvO K ds m2 tb o2) : EvO K ds .f (tOp (L2.rInTD K) ta tb) (oint2 o1 o2) := by
  intro z hz B F M H σ Q E q
  obtain ⟨x, y, e1, e2, e3⟩ := obin_some hz
  cases e3
  refine ev2 h1 h2 e1 e2 E fun v w F' H' e r1 r2 => ⟨em x, [em y.1, em y.2], (r1.mono (hp_H (E.ext e))).dp K, (r2.mono (hp_H (E.ext e))).dp K, shaped_em (by omega) x, shaped_em (α := α × α) (by show max (Shp.dep α) (Shp.dep α) + 1 ≤ 64; omega) y, ?_⟩
  have := q _ F' H' e (Rp.bl _)
  simpa using this
theorem ev_L2 {o : Option (List α × List β)} (h : EvL2 K ds te o) : EvO K ds .f te o := fun xs hx B F M H σ Q E q =>
  h xs hx B F M H σ Q E fun p l1 l2 ws us F' H' e hp hn h1 h2 k1 k2 g1 g2 r1 r2 => by
    have e1 := e.froze h1 k1 g1
    have h2' : upd F' l1 (.lst ws) l2 = none := by rw [upd_ne (fun z => hn z.symm)]; exact h2
    have e2 := e1.froze h2' k2 g2
    have s1 : Same F' (upd F' l1 (.lst ws)) := same_upd h1
    have s2 : Same (upd F' l1 (.lst ws)) (upd (upd F' l1 (.lst ws)) l2 (.lst us)) := same_upd h2'
    refine q _ _ _ e2 (.tup (s2 _ _ (s1 _ _ hp)) (.cons (.lst (s2 _ _ upd_same) (r1.mono (s1.trans s2))) (.cons (.lst upd_same (r2.mono (s1.trans s2))) .nil)))
theorem el2_call {o : Option τ} {A : τ → List Ar} {f : τ → Option (List α × List β)} {XE : XK} (h : EvA K ds tr o A) : EvL2 K ds (tCall (spT K A f) [] XE tr) (o.bind f) := fun b hb B F M H σ Q E q => by
  obtain ⟨t, e1, e2⟩ := bind_some' hb
  refine h t e1 B F M H σ _ E fun vs F1 H1 x1 a1 => ?_
  show spT K A f (vs ++ []) H1 Q XE
  rw [List.append_nil]
  exact ⟨F1, t, b, x1.sub, a1, e2, fun p l1 l2 ws us F' H' x hp hn h1 h2 k1 k2 => q p l1 l2 ws us F' H' (x1.trans x) hp hn h1 h2 (none_of_same x1.sH k1) (none_of_same x1.sH k2)⟩
theorem ev_own2 {i : Nat} (x : List α × List β) (h : ds[i]? = some (.res (own2 (x.1.map em) (x.2.map em)))) : EvO K ds .h (tVar i) (some x) := by
  intro y hy B F M H σ Q E q
  cases hy
  obtain ⟨m, _, v, e, p, l1, l2, ws, us, rfl, hp, _, _, _, h1, h2, r1, r2⟩ := E.at h
  exact ⟨.ref p, e, q _ F H (Ext.refl E.sF) (.tup (E.sF _ _ hp) (.cons (.lst h1 (r1.mono E.sF)) (.cons (.lst h2 (r2.mono E.sF)) .nil)))⟩
/-- a thing with a footprint is stored -/
theorem Env.setres {B F M H σ} (E : Env K B F M H σ ds) {i : Nat} (hi : i < ds.length) {v : V} {R : Rs} {N : Addr → Prop} (hB : ∀ a, N a → B a = none) (hF : ∀ a, N a → F a = none) (hM : ∀ a, N a → ¬ M a) (hH : ∀ a, N a → H a ≠ none) (hT : ∀ a xs, N a → H a ≠ some (.tup xs)) (r : R.h F H v N) :
    Env K B F (fun a => M a ∨ N a) H (σ.set i (some v)) (ds.set i (.res R)) := by
  obtain ⟨len, sB, sF, mB, mF, mH, mT, foot, f1, f2, f3⟩ := E
  refine ⟨by rw [List.length_set, List.length_set, len], sB, sF, fun a ha => ha.elim (mB a) (hB a), fun a ha => ha.elim (mF a) (hF a), fun a ha => ha.elim (mH a) (hH a), fun a xs ha => ha.elim (mT a xs) (hT a xs), fun j a => if j = i then N a else foot j a, fun j a ha => ?_, fun j k a h1 h2 => ?_, fun j => ?_⟩
  · by_cases h : j = i
    · simp only [if_pos h] at ha; exact .inr ha
    · simp only [if_neg h] at ha; exact .inl (f1 j a ha)
  · by_cases hj : j = i
    · by_cases hk : k = i
      · rw [hj, hk]
      · simp only [if_pos hj] at h1
        simp only [if_neg hk] at h2
        exact absurd (f1 k a h2) (hM a h1)
    · by_cases hk : k = i
      · simp only [if_neg hj] at h1
        simp only [if_pos hk] at h2
        exact absurd (f1 j a h1) (hM a h2)
      · simp only [if_neg hj] at h1
        simp only [if_neg hk] at h2
        exact f2 j k a h1 h2
  · rw [getD_set ds i j _ hi]
    by_cases h : j = i
    · subst h
      rw [if_pos rfl]
      refine ⟨v, List.getElem?_set_self (by omega), ?_⟩
      simp only [if_pos]
      exact r
    · rw [if_neg h, List.getElem?_set_ne (fun e => h e.symm)]
      have := f3 j
      show hold K B F H _ _ (fun a => if j = i then N a else foot j a)
      simp only [if_neg h]
      exact this
theorem sv_asgL2 {i : Nat} {o : Option (List α × List β)} {r : List α × List β → Option τ} (hi : i < ds.length) (h : EvL2 K ds te o) (k : ∀ xs : List α × List β, SvO K (ds.set i (.res (own2 (xs.1.map em) (xs.2.map em)))) u (r xs) out) : SvO K ds (tSeq (tAsg te (gName i)) u) (o.bind r) out := by
  intro x hx B F M H σ D E f
  obtain ⟨y, e1, e2⟩ := bind_some' hx
  refine h y e1 B F M H σ _ E fun p l1 l2 ws us F' H' e hp hn h1 h2 k1 k2 g1 g2 r1 r2 => ?_
  have E' := E.ext e
  refine k y x e2 B F' _ H' _ D (E'.setres hi (N := fun a => a = l1 ∨ a = l2) ?_ ?_ ?_ ?_ ?_ ⟨p, l1, l2, ws, us, rfl, hp, hn, .inl rfl, .inr rfl, g1, g2, r1, r2⟩) (f.step ⟨e.sF, fun a z => (e.new a z).imp_right .inl, fun b o z _ => e.sH b o z, fun a z => ?_⟩)
  · rintro a (rfl | rfl)
    · exact none_of_same E.sB k1
    · exact none_of_same E.sB k2
  · rintro a (rfl | rfl)
    · exact h1
    · exact h2
  · rintro a (rfl | rfl) z
    · exact E.mH _ z k1
    · exact E.mH _ z k2
  · rintro a (rfl | rfl)
    · rw [g1]; exact fun z => nomatch z
    · rw [g2]; exact fun z => nomatch z
  · rintro a xs (rfl | rfl)
    · rw [g1]; exact fun z => nomatch z
    · rw [g2]; exact fun z => nomatch z
  · rcases z with z | rfl | rfl
    · exact .inl z
    · exact .inr k1
    · exact .inr k2
/-- two own lists handed out in a tuple -/
theorem sv_ret2 {i j : Nat} {xs : List α} {ys : List β} {w : List α × List β → τ} (hn : i ≠ j) (hi : ds[i]? = some (.own (xs.map em))) (hj : ds[j]? = some (.own (ys.map em))) (ho : out (w (xs, ys)) = .rt (.res (own2 (xs.map em) (ys.map em)))) :
    SvO K ds (tRet (tTup (tCons (tVar i) (tCons (tVar j) tNil)))) (some (w (xs, ys))) out := by
  intro z hz B F M H σ D E f
  cases hz
  rw [ho] at f
  obtain ⟨len, sB, sF, mB, mF, mH, mT, foot, f1, f2, f3⟩ := id E
  have h3 := f3 i
  rw [hi] at h3
  obtain ⟨l1, vs, e, hp, r, hm⟩ := h3
  have h4 := f3 j
  rw [hj] at h4
  obtain ⟨l2, us, e', hp', r', hm'⟩ := h4
  have hne : l1 ≠ l2 := fun z => hn (f2 i j l1 hm (by rw [z]; exact hm'))
  refine ⟨.ref l1, e, .ref l2, e', by show 2 ≤ sizeLine; decide, fun n hnn => ?_⟩
  have X := Ext.new1 (o := .tup [.ref l1, .ref l2]) sF hnn
  have E2 := E.ext X
  refine f _ M _ (.ref n) (.ofExt X) ⟨rfl, E2.sB, E2.sF, E2.mB, E2.mF, E2.mH, E2.mT, fun k a => k = 0 ∧ (a = l1 ∨ a = l2), ?_, fun j k a z1 z2 => z1.1.trans z2.1.symm, fun k => ?_⟩
  · rintro k a ⟨_, rfl | rfl⟩
    · exact f1 i _ hm
    · exact f1 j _ hm'
  · cases k with
    | zero => exact ⟨.ref n, rfl, n, l1, l2, vs, us, rfl, upd_same, hne, ⟨rfl, .inl rfl⟩, ⟨rfl, .inr rfl⟩, X.sH _ _ hp, X.sH _ _ hp', r.mono X.sF, r'.mono X.sF⟩
    | succ k => trivial
/-- something put behind one of the two -/
theorem Env.ch2 {B F M H σ} (E : Env K B F M H σ ds) {i : Nat} {l : Addr} {ws : List V} {R : Rs} {v : V} {foot : Nat → Addr → Prop} (f1 : ∀ i a, foot i a → M a) (f2 : ∀ i j a, foot i a → foot j a → i = j) (f3 : ∀ i, hold K B F H (ds[i]?.getD .no) (σ[i]?) (foot i))
    (hi : i < ds.length) (e : σ[i]? = some (some v)) (hm : foot i l) (r : R.h F (upd H l (.lst ws)) v (foot i)) : Env K B F M (upd H l (.lst ws)) σ (ds.set i (.res R)) := by
  have hM := f1 i l hm
  have sF : Same F (upd H l (.lst ws)) := same_upd2 E.sF (E.mF l hM)
  refine ⟨by rw [List.length_set, E.len], same_upd2 E.sB (E.mB l hM), sF, E.mB, E.mF, fun a z => ?_, fun a xs z => ?_, foot, f1, f2, fun j => ?_⟩
  · unfold L2.upd
    split
    · exact fun z => nomatch z
    · exact E.mH a z
  · unfold L2.upd
    split
    · exact fun z => nomatch z
    · exact E.mT a xs z
  · rw [getD_set ds i j _ hi]
    by_cases h : j = i
    · subst h
      rw [if_pos rfl]
      exact ⟨v, e, r⟩
    · rw [if_neg h]
      refine (f3 j).mono (Same.refl _) (fun a o ha hz => ?_) E.sF sF
      rw [upd_ne fun z => h (f2 j i a ha (by rw [z]; exact hm))]
      exact hz
theorem sv_app2a {i : Nat} {xs : List α} {ys : List β} {o : Option α} {r : List α → Option τ} (hi : i < ds.length) (hx : ds[i]? = some (.res (own2 (xs.map em) (ys.map em)))) (h : EvO K ds .f te o) (k : ∀ zs : List α, SvO K (ds.set i (.res (own2 (zs.map em) (ys.map em)))) u (r zs) out) :
    SvO K ds (tSeq (tDrop (tBM K "list" rAppend (tOp (rIxT K) (tVar i) (tC (.int 0))) (tCons te tNil))) u) ((o.bind fun x => oapp xs x).bind r) out := by
  intro x hx2 B F M H σ D E fin
  obtain ⟨zs, e1, e2⟩ := bind_some' hx2
  obtain ⟨y, e3, e4⟩ := bind_some' e1
  obtain ⟨foot, f1, f2, f3⟩ := id E.ft
  have h3 := f3 i
  rw [hx] at h3
  obtain ⟨v0, e, p, l1, l2, ws, us, rfl, hp, hn, hm1, hm2, g1, g2, r1, r2⟩ := h3
  refine ⟨.ref p, e, p, [.ref l1, .ref l2], 0, .ref l1, rfl, rfl, SqT.of (E.sF _ _ hp), rfl, .inl ⟨rfl, _, SqL.of g1⟩, h y e3 B F M H σ _ E fun v F' H' x rv => ?_⟩
  unfold oapp at e4
  split at e4
  · rename_i hl
    cases e4
    have E' := E.ext x
    have f3' : ∀ i, hold K B F' H' (ds[i]?.getD .no) (σ[i]?) (foot i) := fun i => (f3 i).mono x.sF (fun a o _ z => x.sH a o z) E.sF x.sub
    refine ⟨l1, ws, v, rfl, rfl, x.sH _ _ g1, Nat.lt_of_lt_of_le (by rw [r1.len, List.length_map]; exact hl) (by decide : 100000 ≤ sizeLine), ?_⟩
    have r3 : RpA F' (ws ++ [v]) ((xs ++ [y]).map em) := by
      rw [List.map_append]
      exact (r1.mono x.sF).app (.cons rv .nil)
    refine k _ _ e2 B F' M _ σ D (E'.ch2 f1 f2 f3' hi e hm1 ⟨p, l1, l2, _, us, rfl, x.sF _ _ hp, hn, hm1, hm2, upd_same, by rw [upd_ne (fun z => hn z.symm)]; exact x.sH _ _ g2, r3, r2.mono x.sF⟩) (fin.step ⟨x.sF, fun a z => (x.new a z).imp_right .inl, fun b o z nm => ?_, fun a z => .inl z⟩)
    rw [upd_ne fun q => nm (by rw [q]; exact f1 i l1 hm1)]
    exact x.sH b o z
  · cases e4
theorem sv_app2b {i : Nat} {xs : List α} {ys : List β} {o : Option β} {r : List β → Option τ} (hi : i < ds.length) (hx : ds[i]? = some (.res (own2 (xs.map em) (ys.map em)))) (h : EvO K ds .f te o) (k : ∀ zs : List β, SvO K (ds.set i (.res (own2 (xs.map em) (zs.map em)))) u (r zs) out) :
    SvO K ds (tSeq (tDrop (tBM K "list" rAppend (tOp (rIxT K) (tVar i) (tC (.int 1))) (tCons te tNil))) u) ((o.bind fun x => oapp ys x).bind r) out := by
  intro x hx2 B F M H σ D E fin
  obtain ⟨zs, e1, e2⟩ := bind_some' hx2
  obtain ⟨y, e3, e4⟩ := bind_some' e1
  obtain ⟨foot, f1, f2, f3⟩ := id E.ft
  have h3 := f3 i
  rw [hx] at h3
  obtain ⟨v0, e, p, l1, l2, ws, us, rfl, hp, hn, hm1, hm2, g1, g2, r1, r2⟩ := h3
  refine ⟨.ref p, e, p, [.ref l1, .ref l2], 1, .ref l2, rfl, rfl, SqT.of (E.sF _ _ hp), rfl, .inl ⟨rfl, _, SqL.of g2⟩, h y e3 B F M H σ _ E fun v F' H' x rv => ?_⟩
  unfold oapp at e4
  split at e4
  · rename_i hl
    cases e4
    have E' := E.ext x
    have f3' : ∀ i, hold K B F' H' (ds[i]?.getD .no) (σ[i]?) (foot i) := fun i => (f3 i).mono x.sF (fun a o _ z => x.sH a o z) E.sF x.sub
    refine ⟨l2, us, v, rfl, rfl, x.sH _ _ g2, Nat.lt_of_lt_of_le (by rw [r2.len, List.length_map]; exact hl) (by decide : 100000 ≤ sizeLine), ?_⟩
    have r3 : RpA F' (us ++ [v]) ((ys ++ [y]).map em) := by
      rw [List.map_append]
      exact (r2.mono x.sF).app (.cons rv .nil)
    refine k _ _ e2 B F' M _ σ D (E'.ch2 f1 f2 f3' hi e hm2 ⟨p, l1, l2, ws, _, rfl, x.sF _ _ hp, hn, hm1, hm2, by rw [upd_ne hn]; exact x.sH _ _ g1, upd_same, r1.mono x.sF, r3⟩) (fin.step ⟨x.sF, fun a z => (x.new a z).imp_right .inl, fun b o z nm => ?_, fun a z => .inl z⟩)
    rw [upd_ne fun q => nm (by rw [q]; exact f1 i l2 hm2)]
    exact x.sH b o z
  · cases e4
end
section
variable {P : Program} {w : World} {K : PySem.W.Frag} {mg : Str → Option Value} {base : Heap} {τ α β : Type} [Em α] [Em β]
theorem fn_two {x qual : Str} {st : Stmt} {f : Addr} {fd : FuncData} {N ps : List Str} {k : Nat} {A : τ → List Ar} {g : τ → Option (List α × List β)} (F : Fun K x qual st f fd) (S : FnScope N ps (defScope st)) (hA : ∀ t, (A t).length = ps.length)
    (body : ∀ (cdv : Value) (A' : Around) (outer : List PySem.Env) (s : Shared) (H : Hp) (E : XK), Room k (A'.deeper (PyProof.Rows.envOfC qual (defScope st) s.heap.objs.size f cdv)) →
      ∃ t, PSs (cxOf CX0 P w K mg base N qual (defScope st) f cdv A' outer s H E).nox (defBody st) t ∧ ∀ z, SvO K ((A z).map Ar.sl ++ List.replicate (N.length - (A z).length) Sl.no) t (g z) fun b => .rt (.res (own2 (b.1.map em) (b.2.map em)))) : FnOk P w K mg base CX0 (k + 1) f fd ps (spT K A g) := by
  refine F.ok S (fun vs H Q E h => ?_) (fun cdv A' outer s H vs Q E hr h => ?_)
  · obtain ⟨_, t, _, _, a, _⟩ := h
    rw [a.len, hA]
  · obtain ⟨F0, z, b, sm, a, e, q⟩ := h
    obtain ⟨t, hp, hb⟩ := body cdv A' outer s H E hr
    refine ⟨t, hp, hb z b e H F0 _ H _ _ (env_start N sm a) fun F' M' H' v st E' => ?_⟩
    obtain ⟨m, hm, v', e2, p, l1, l2, ws, us, rfl, hpp, hn, m1, m2, g1, g2, r1, r2⟩ := E'.at (i := 0) rfl
    cases e2
    have e' : Ext F0 H F' H' := ⟨st.sF, fun c o z => st.keep c o z (fun h => h), E'.sF, fun c z => (st.new c z).imp_right fun h => h.resolve_right fun h => h⟩
    exact q p l1 l2 ws us F' H' e' hpp hn (E'.mF _ (hm _ m1)) (E'.mF _ (hm _ m2)) (E'.mB _ (hm _ m1)) (E'.mB _ (hm _ m2)) g1 g2 r1 r2
end
end Tw
/-! sorted over a dict with pairs as keys; tuples joined; bit_length. -/
namespace L2
open PySem PySem.Spec PyProof.Rows
def rSortedDT : List V → Hp → VK → Prop := fun xs H Q => ∃ (d : Addr) (kvs : List (List Key × V)) (k : V → Int × Int), xs = [V.ref d] ∧ Rd H d (.dT kvs) ∧
    (∀ (b : Addr) (q : List Key × V), q ∈ kvs → H b = some (.tup (q.1.map kV)) → H b = some (.tup [.int (k (.ref b)).1, .int (k (.ref b)).2])) ∧
    ∀ (p : Addr) (bs : List Addr) (zs : List V), H p = none → IsKeys H kvs bs → SrtO.Srtd (ltP k) zs → SrtO.Stb (ltP k) zs (bs.map V.ref) → Q (.ref p) (upd H p (.lst zs))
section
variable {X : Cx}
theorem call_sortedDT (hcalm : X.calm = true) : CallR X (.builtin "sorted") rSortedDT := by
  intro pins s σ H xs us Q I r h
  obtain ⟨d, kvs, k, rfl, hd, hkey, q⟩ := h
  obtain ⟨u, rfl, rx⟩ := r.one
  cases rx
  obtain ⟨z, hs, ks, pr, o, es, ep, ho, hx, hdt, he, hn⟩ := (show ObjOk X.prog X.w H s.heap d (.dT kvs) from hd.ok I.hok)
  have l1 : es.size = ks.length := size_of_entries he
  have l2 : kvs.length = ks.length := Paired.length pr
  refine Calls.call_function_entry PyProof.Rows.kind_sorted PyProof.Rows.plain_sorted PyProof.Rows.entry_sorted (PyProof.Rows.args_sorted1 _) ?_
  unfold Builtin.«sorted»
  refine wpAny_bind (m := checkCount "sorted" 1 1 _) (wpAny_pure ?_)
  refine wpAny_bind (PySem.W.kdu_collect (A := X.A.in1) (kdl_raw hs hx hdt) (I.ok.hd hcalm) ho (by omega) fun h' tk acc' hk it => ?_)
  have ea : acc'.toList = ks.map fun x => Value.ref x.2.1 := by
    have hl : acc'.toList.length = ks.length := by rw [Array.length_toList, it.1]; exact l1
    apply List.ext_getElem?
    intro j
    rw [List.getElem?_map]
    cases hj : acc'.toList[j]? with
    | none =>
      have h1 := List.getElem?_eq_none_iff.mp hj
      rw [List.getElem?_eq_none (by omega)]
      all_goals rfl
    | some v =>
      obtain ⟨en, hen, hv⟩ := it.2 j v (by rw [← Array.getElem?_toList]; exact hj)
      have qe := entry_at he j
      rw [hen] at qe
      cases hb : ks[j]? with
      | none =>
        rw [hb] at qe
        exact nomatch (show some en = none from qe)
      | some b =>
        rw [hb] at qe
        have e2 : en = entryOfKey (tupleKind (mixKind X.prog X.w)) b := Option.some.inj qe
        rw [hv, e2]
        all_goals rfl
  have eb : acc'.toList = (ks.map fun x => x.2.1).map Value.ref := by rw [ea, List.map_map]; all_goals rfl
  have hK := isKeys_of pr
  generalize hbs : (ks.map fun x => x.2.1) = bs at *
  have hlb : bs.length = ks.length := by rw [← hbs, List.length_map]
  have hal : acc'.toList.length ≤ sizeLine := by rw [eb, List.length_map]; omega
  have I1 : Inv X pins σ H { s with heap := h', toks := tk } := I.kept hk
  refine wpAny_bind (wpAny_newList ?_ hal)
  have hoL : (h'.push (seqObj "list" acc'.toList.toArray 0)).get? h'.objs.size = some (seqObj "list" acc'.toList.toArray 0) := Heap.get?_push_size _ rfl
  show wpAny _ _ _ _ _ { s with heap := h'.push (seqObj "list" acc'.toList.toArray 0), toks := tk }
  have I2 : Inv X pins σ H { s with heap := h'.push (seqObj "list" acc'.toList.toArray 0), toks := tk } := I1.kept (t' := tk) fun b ob q => Heap.get?_push_of_some _ q
  have keyof : ∀ b ∈ bs, H b = some (.tup [.int (k (.ref b)).1, .int (k (.ref b)).2]) := by
    have : ∀ {xs : List (List Key × V)} {cs : List Addr}, Paired (fun p b => H b = some (.tup (p.1.map kV))) xs cs → (∀ p ∈ xs, p ∈ kvs) → ∀ b ∈ cs, H b = some (.tup [.int (k (.ref b)).1, .int (k (.ref b)).2]) := by
      intro xs cs r
      induction r with
      | nil => intro _ b hb; cases hb
      | cons h t ih =>
        intro hm b hb
        rcases List.mem_cons.mp hb with rfl | hb
        · exact hkey _ _ (hm _ (by simp)) h
        · exact ih (fun p hp => hm p (by simp [hp])) b hb
    exact this hK fun p hp => hp
  have hp : ∀ v ∈ acc'.toList, Srt.IsPair (h'.push (seqObj "list" acc'.toList.toArray 0)) v (k (backV v)).1 (k (backV v)).2 := fun v hv => by
    rw [eb] at hv
    obtain ⟨b, hb, rfl⟩ := List.mem_map.mp hv
    obtain ⟨_, its2, r2, o, ho, hc, n, hd⟩ := I2.hok _ _ (keyof b hb)
    obtain ⟨u1, u2, rfl, ri, rj⟩ := vals2 r2
    obtain ⟨t1, rfl⟩ := ri
    obtain ⟨t2, rfl⟩ := rj
    exact ⟨b, o, t1, t2, n, rfl, ho, hc, hd⟩
  refine wpAny_bind (wpAny_holding (wpAny_call_entry PyProof.Rows.slot_list_sort ⟨_, hoL, rfl⟩ PyProof.Rows.entry_list_sort
    (SrtO.list_sort_ord (SrtO.swo_lex fun u => k (backV u)) hoL hal (fun h2 => SrtO.pairs_sortableO (by omega) hp fun o e => ?_) fun out h1 h2 => ⟨_, rfl, ?_⟩) (PyProof.Rows.args_list_sort _)))
  · have e' : some o = some (seqObj "list" acc'.toList.toArray 0) := e.symm.trans hoL
    cases e'
    intro c
    exact absurd (Value.type.inj c) (by decide)
  · have h3 : ∀ u ∈ out, ∃ a, u = Value.ref a := fun u hu => by
      have := h2.perm.mem_iff.mp hu
      rw [eb] at this
      obtain ⟨b, _, rfl⟩ := List.mem_map.mp this
      exact ⟨b, rfl⟩
    obtain ⟨ep', he'⟩ := PyProof.Rows.sortedHeap_at (vs := acc'.toList) (out := out.toArray) hoL
    have hb : SrtO.Stb (ltP k) (out.map backV) (bs.map V.ref) := by
      have e3 : bs.map V.ref = acc'.toList.map backV := by
        rw [eb, List.map_map]
        rfl
      rw [e3]
      exact SrtO.Stb.map (ltP_swo k) backV h2
    have hlen : (out.map backV).length ≤ sizeLine := by
      rw [hb.len, List.length_map]
      omega
    refine wpAny_pure ⟨_, rfl, .ref h'.objs.size, upd H h'.objs.size (.lst (out.map backV)), I1.laid (t' := tk) (fun b u e => ?_) (Nat.le_refl _)
      (show ObjOk X.prog X.w _ _ _ (.lst (out.map backV)) from ⟨hlen, out, ep', vals_back h3, he'⟩), rfl, q _ bs _ (I1.hok.fresh (Nat.le_refl _)) hK (SrtO.srtd_map h1) hb⟩
    have hb : b < h'.objs.size := Heap.lt_size e
    rw [PyProof.Rows.sortedHeap_old (Nat.ne_of_lt hb) (by rw [size_push']; exact Nat.lt_succ_of_lt hb)]
    exact Heap.get?_push_of_some _ e
end
end L2

namespace Tw
open PySem L2
/-- a tuple of one -/
structure T1 (α : Type) where
  a : α
deriving DecidableEq
instance {α : Type} [Em α] : Em (T1 α) := ⟨fun x => .tuple [em x.a]⟩
def otup1 {α : Type} (a : Option α) : Option (T1 α) := a.map fun x => ⟨x⟩
theorem ev_tup1 {K : PySem.W.Frag} {ds : List Sl} {ta : TE} {α : Type} [Em α] {o1 : Option α} (h1 : EvO K ds .f ta o1) : EvO K ds .f (tTup (tCons ta tNil)) (otup1 o1) := by
  intro z hz B F M H σ Q E q
  cases o1 with
  | none => cases hz
  | some x =>
    cases hz
    exact h1 x rfl B F M H σ _ E fun v F' H' e r1 => ⟨by show 1 ≤ sizeLine; decide, fun p hp => q _ _ _ (e.trans (Ext.new1 e.sub hp)) (rp_tupv (none_of_same e.sub hp) (.cons r1 .nil))⟩
end Tw
namespace Tw
open PySem L2
def okeys {α : Type} (kvs : List (PP × α)) : Option (List PP) := some (sortP (kvs.map (·.1)))
def ocatT {α β γ δ : Type} (a : Option (α × β)) (b : Option (γ × δ)) : Option (T4 α β γ δ) := obin (fun x y => some ⟨x.1, x.2, y.1, y.2⟩) a b
def obits (o : Option Int) : Option Int := o.map fun i => ((Builtin.Int.intBits i : Nat) : Int)
theorem keys_paired {H : Hp} {F : Hp} : ∀ {kv : List (PP × V)} {bs : List Addr}, L2.IsKeys H (kv.map fun x => ([Sum.inl x.1.1, Sum.inl x.1.2], x.2)) bs → (bs.map fun b => keyP H (.ref b)) = kv.map (·.1) ∧ ∀ b ∈ bs, ∃ x : PP, H b = some (.tup [.int x.1, .int x.2])
  | [], bs, h => by
    cases h
    exact ⟨rfl, fun b hb => by cases hb⟩
  | x :: kv, bs, h => by
    cases h with
    | cons h t =>
      rename_i b cs
      obtain ⟨h1, h2⟩ := keys_paired (F := F) t
      have hb : H b = some (.tup [.int x.1.1, .int x.1.2]) := h
      refine ⟨?_, fun c hc => ?_⟩
      · rw [List.map_cons, List.map_cons, h1]
        congr 1
        show (match H b with | some (.tup [.int i, .int j]) => (i, j) | _ => (0, 0)) = x.1
        rw [hb]
      · rcases List.mem_cons.mp hc with rfl | hc
        · exact ⟨x.1, hb⟩
        · exact h2 c hc
theorem KvR.keysM {κ : Type} {F : Hp} : ∀ {kv : List (κ × V)} {ys : List (κ × PyData)}, KvR F kv ys → kv.map (·.1) = ys.map (·.1)
  | _, _, .nil => rfl
  | _, _, .cons _ r => by rw [List.map_cons, List.map_cons, KvR.keysM r]
section
variable {K : PySem.W.Frag} {ds es : List Sl} {ta tb tc te : TE} {tr : TA} {t u w : TS} {g : TG} {m m1 m2 : Md} {α β γ δ τ : Type} [Em α] [Em β] [Em γ] [Em δ] {out : τ → Out}
theorem sortDP_run {F H : Hp} {p : Addr} {kv : List (PP × V)} {Q : VK} (sF : Same F H) (hp : H p = some (dpO kv)) (q : ∀ n zs, H n = none → RpA (tupF F H) zs ((sortP (kv.map (·.1))).map em) → Q (.ref n) (upd H n (.lst zs))) : L2.rSortedDT [.ref p] H Q := by
  refine ⟨p, _, keyP H, rfl, .inl hp, fun b y hy hb => ?_, fun n bs zs hn hk hs st => ?_⟩
  · obtain ⟨x, _, rfl⟩ := List.mem_map.mp hy
    have hb : H b = some (.tup [.int x.1.1, .int x.1.2]) := hb
    have : keyP H (.ref b) = x.1 := by
      show (match H b with | some (.tup [.int i, .int j]) => (i, j) | _ => (0, 0)) = x.1
      rw [hb]
    rw [this]
    exact hb
  · obtain ⟨h1, h2⟩ := keys_paired (F := F) hk
    refine q n zs hn ?_
    have hz : ∀ v ∈ zs, Rp (tupF F H) v (em (keyP H v)) := fun v hv => by
      obtain ⟨b, hb, rfl⟩ := List.mem_map.mp (st.perm.mem_iff.mp hv)
      obtain ⟨x, hx⟩ := h2 b hb
      have : keyP H (.ref b) = x := by
        show (match H b with | some (.tup [.int i, .int j]) => (i, j) | _ => (0, 0)) = x
        rw [hx]
      rw [this]
      exact .tup (tupF_at sF hx) (.cons (.int _) (.cons (.int _) .nil))
    have e : zs.map (keyP H) = sortP (kv.map (·.1)) := by
      refine uniq_sortedP ?_ ?_ (sorted_sortP _)
      · refine (st.perm.map (keyP H)).trans ?_
        rw [List.map_map, show (keyP H ∘ V.ref) = fun b => keyP H (.ref b) from rfl, h1]
        exact (perm_sortP _).symm
      · exact List.pairwise_map.mpr (hs.imp fun {a b} h => lexB_le h)
    rw [← e]
    exact rpa_keys hz
theorem em_keys {β : Type} [Em β] {kv : List (PP × V)} {F : Hp} {kvs : List (PP × β)} (r : KvR F kv (emD kvs)) : kv.map (·.1) = kvs.map (·.1) := by
  rw [r.keysM]
  unfold emD
  rw [List.map_map]
  rfl
theorem el_sortDP {i : Nat} {kvs : List (PP × α)} (h : ds[i]? = some (.dp (emD kvs))) : EvL K ds (tCB L2.rSortedDT (tCons (tVar i) tNil)) (okeys kvs) := by
  intro xs hx B F M H σ Q E q
  cases hx
  obtain ⟨_, _, p, kv, e, hp, r, _⟩ := E.at h
  refine ⟨.ref p, e, sortDP_run E.sF hp fun n zs hn rz => ?_⟩
  rw [em_keys r] at rz
  have X := tupF_ext E.sF
  exact q n zs _ _ (X.trans (Ext.new0 X.sub hn)) (none_of_same X.sub hn) hn upd_same rz
theorem el_sortRP {i : Nat} {kvs : List (PP × α)} (h : ds[i]? = some (.rdp (emD kvs))) : EvL K ds (tCB L2.rSortedDT (tCons (tVar i) tNil)) (okeys kvs) := by
  intro xs hx B F M H σ Q E q
  cases hx
  obtain ⟨_, _, p, kv, e, hp, r⟩ := E.at h
  refine ⟨.ref p, e, sortDP_run E.sF (E.sB _ _ hp) fun n zs hn rz => ?_⟩
  rw [em_keys r] at rz
  have X := tupF_ext E.sF
  exact q n zs _ _ (X.trans (Ext.new0 X.sub hn)) (none_of_same X.sub hn) hn upd_same rz
theorem ev_catT {o1 : Option (α × β)} {o2 : Option (γ × δ)} (h1 : EvO K ds .f ta o1) (h2 : EvO K ds .f tb o2) : EvO K ds .f (tOp (rCatT K) ta tb) (ocatT o1 o2) := by
  intro z hz B F M H σ Q E q
  obtain ⟨x, y, e1, e2, e3⟩ := obin_some hz
  cases e3
  refine ev2 h1 h2 e1 e2 E fun v w F' H' e r1 r2 => ?_
  obtain ⟨p, a, b, rfl, hp, ra, rb⟩ := rp_pair r1
  obtain ⟨p2, c, d, rfl, hp2, rc, rd⟩ := rp_pair r2
  refine ⟨p, p2, [a, b], [c, d], rfl, rfl, SqT.of (e.sub _ _ hp), SqT.of (e.sub _ _ hp2), (fun z => nomatch z), by show 4 ≤ sizeLine; decide, (fun z => nomatch z), fun _ n hn => ?_⟩
  exact q _ _ _ (e.trans (Ext.new1 e.sub hn)) (rp_tupv (none_of_same e.sub hn) (.cons ra (.cons rb (.cons rc (.cons rd .nil)))))
theorem ev_bits {o : Option Int} (h : EvO K ds m te o) : EvO K ds .f (L2.tBits te) (obits o) := by
  intro z hz B F M H σ Q E q
  cases o with
  | none => cases hz
  | some i =>
    cases hz
    exact h i rfl B F M H σ _ E fun v F' H' e r => ⟨i, rp_int r, q _ F' H' e (.int _)⟩
end
end Tw
/-! len(set(..)); a for over an own dict. -/
namespace L2
open PySem PySem.Spec PyProof.Rows
/-- the unlike ones among some numbers, as they come -/
def uniqI (ns : List Int) : List Int := PyProof.Rows.firstMet (fun i => ns.getD i 0) ns.length
def tLenSet (K : PySem.W.Frag) (ta : TE) : TE := fun σ H Q => ta σ H fun x H1 => ∃ (l : Addr) (ns : List Int), x = .ref l ∧ SqL K H1 l (ns.map V.int) ∧ ns.length ≤ 4000 ∧ Q (.int ((uniqI ns).length : Nat)) H1
theorem pe_lenSet {X : Cx} {a : Expr} {ta : TE} {p p2 q pos : Pos} (hg : Gl X "len") (hm : X.mg "len" = none) (hg2 : Gl X "set") (hm2 : X.mg "set" = none) (ha : PE X a ta) (hc : X.calm = true := by rfl)
    (na : starEach [a] X.env = (false, eval a X.env) :: starEach [] X.env := by rfl) : PE X (.Call (.Name "len" p) [.Call (.Name "set" p2) [a] [] q] [] pos) (tLenSet X.K ta) := by
  refine ⟨fun pins s σ H Q I h => ?_⟩
  refine Call_ (ld_blt I hg hm boot_len ?_)
  refine PyProof.Rows.callWith_builtin1 (PyProof.Rows.args_cons ?_ rfl) rfl rfl
  refine Call_ (ld_blt I hg2 hm2 boot_set ?_)
  refine PyProof.Rows.callWith_type1 (PyProof.Rows.args_cons (thn (ha.run pins s σ H _ I h) fun v s1 ⟨x, H1, I1, r1, q1⟩ => PyProof.Rows.args_nil ?_) na) na rfl
  obtain ⟨l, ns, rfl, hq, hl, q1⟩ := q1
  cases r1
  obtain ⟨its, r, pl, hz⟩ := I1.list hq
  have hlen : its.toArray.size = ns.length := by rw [List.size_toArray, ← r.length, List.length_map]
  refine call_set_list (I1.ok.hd hc) pl.isList (ns := ns) (by simpa using r.ints) (by rw [hlen]; unfold scanBound; omega) fun h' tk hS hk => ?_
  refine PyProof.Rows.args_nil ?_
  rw [hlen] at hS
  obtain ⟨o, es, ep, t, ho, hex, hd, _, _, _, hf, hn⟩ := hS
  have I2 : Inv X pins σ H1 { s1 with heap := h', toks := tk } := I1.kept fun b o e => hk b o (Heap.lt_size e) e
  have hle := PyProof.Rows.firstMet_length_le (fun i => ns.getD i 0) ns.length
  exact call_len_set ho hex hd hf (by rw [hn] <;> omega) ⟨.int (uniqI ns).length, H1, I2.tok _, ⟨_, by rw [hn]; rfl⟩, q1⟩
end L2
namespace Tw
open PySem L2
def olenSet (o : Option (List Int)) : Option Int := o.bind fun xs => if xs.length ≤ 4000 then some ((uniqI xs).length : Int) else none
section
variable {K : PySem.W.Frag} {ds es : List Sl} {ta tb tc te : TE} {tr : TA} {t u w : TS} {g : TG} {m m1 m2 : Md} {α β γ δ τ S ρ : Type} [Em α] [Em β] [Em γ] [Em δ] {out : τ → Out}
theorem ev_lenSet {o : Option (List Int)} (h : EvO K ds m te o) : EvO K ds .f (L2.tLenSet K te) (olenSet o) := by
  intro z hz B F M H σ Q E q
  obtain ⟨xs, e1, e2⟩ := bind_some' hz
  split at e2
  · rename_i hl
    cases e2
    refine h xs e1 B F M H σ _ E fun v F' H' e r => ?_
    obtain ⟨p, vs, rfl, hp, ra⟩ := rp_list r
    have := RpA.ints (ns := xs) ra
    subst this
    exact ⟨p, xs, rfl, SqL.of (hp_H (E.ext e) _ _ hp), hl, q _ F' H' e (.int _)⟩
  · cases e2
/-- a dict that is walked: it stands in the frozen part while that is so -/
def LkP (p : Addr) (od : Obj) (kv : List (PP × V)) (kvs : List (PP × PyData)) : Rs where
  h := fun F H v M => v = .ref p ∧ F p = some (.frz od (dpO kv)) ∧ KvR F kv kvs
  mono := fun {F H F' H' v M} sF kp s1 s2 ⟨e, hp, r⟩ => ⟨e, sF _ _ hp, r.mono sF⟩
/-- slots that keep no thing of another kind -/
def Sl.plain : Sl → Bool
  | .res _ => false
  | _ => true
def cutF (F : Hp) (p : Addr) : Hp := fun a => if a = p then none else F a
theorem cutF_ne {F : Hp} {p a : Addr} (h : a ≠ p) : cutF F p a = F a := if_neg h
mutual
theorem Rp.strip {F : Hp} {p : Addr} {od : Obj} {u : HO} (hp : F p = some (.frz od u)) : ∀ {v : V} {d : PyData}, Rp F v d → Rp (cutF F p) v d
  | _, _, .non => .non
  | _, _, .bl b => .bl b
  | _, _, .int i => .int i
  | _, _, .str x => .str x
  | _, _, .lst h r => .lst (by rw [cutF_ne (fun e => by rw [e, hp] at h; cases h)]; exact h) (RpA.strip hp r)
  | _, _, .tup h r => .tup (by rw [cutF_ne (fun e => by rw [e, hp] at h; cases h)]; exact h) (RpA.strip hp r)
theorem RpA.strip {F : Hp} {p : Addr} {od : Obj} {u : HO} (hp : F p = some (.frz od u)) : ∀ {vs : List V} {ds : List PyData}, RpA F vs ds → RpA (cutF F p) vs ds
  | _, _, .nil => .nil
  | _, _, .cons h r => .cons (Rp.strip hp h) (RpA.strip hp r)
end
theorem KvR.strip {κ : Type} {F : Hp} {p : Addr} {od : Obj} {u : HO} (hp : F p = some (.frz od u)) : ∀ {xs : List (κ × V)} {ys : List (κ × PyData)}, KvR F xs ys → KvR (cutF F p) xs ys
  | _, _, .nil => .nil
  | _, _, .cons h r => .cons (Rp.strip hp h) (KvR.strip hp r)
theorem hold.strip {B F H : Hp} {p : Addr} {od : Obj} {u o : HO} {sl : Sl} {s : Option (Option V)} {m : Addr → Prop} (pl : sl.plain = true) (hp : F p = some (.frz od u)) (hm : ¬ m p) (h : hold K B F H sl s m) : hold K B (cutF F p) (upd H p o) sl s m := by
  have ne : ∀ a, m a → a ≠ p := fun a ha e => hm (e ▸ ha)
  cases sl with
  | no => trivial
  | val d => obtain ⟨v, e, r⟩ := h; exact ⟨v, e, r.strip hp⟩
  | rd d => exact h
  | scr ns => exact h
  | own ds => obtain ⟨q, vs, e, hq, r, hm'⟩ := h; exact ⟨q, vs, e, by rw [upd_ne (ne q hm')]; exact hq, r.strip hp, hm'⟩
  | di kvs => obtain ⟨q, vs, e, hq, r, hm'⟩ := h; exact ⟨q, vs, e, by rw [upd_ne (ne q hm')]; exact hq, r.strip hp, hm'⟩
  | dp kvs => obtain ⟨q, vs, e, hq, r, hm'⟩ := h; exact ⟨q, vs, e, by rw [upd_ne (ne q hm')]; exact hq, r.strip hp, hm'⟩
  | rdi kvs => exact h
  | rdp kvs => exact h
  | res R => cases pl
/-- a dict's lock: it goes from the owned to the frozen part -/
theorem Env.lockP {B F M H σ} (E : Env K B F M H σ ds) {i : Nat} (hi : i < ds.length) {kvs : List (PP × PyData)} (hx : ds[i]? = some (.dp kvs)) : ∃ p kv, σ[i]? = some (some (.ref p)) ∧ H p = some (dpO kv) ∧ M p ∧ F p = none ∧ B p = none ∧
    ∀ od, Env K B (upd F p (.frz od (dpO kv))) (fun a => M a ∧ a ≠ p) (upd H p (.frz od (dpO kv))) σ (ds.set i (.res (LkP p od kv kvs))) := by
  obtain ⟨len, sB, sF, mB, mF, mH, mT, foot, f1, f2, f3⟩ := E
  have h3 := f3 i
  rw [hx] at h3
  obtain ⟨p, kv, e, hp, r, hm⟩ := h3
  have hM := f1 i p hm
  have hF := mF p hM
  have hB := mB p hM
  refine ⟨p, kv, e, hp, hM, hF, hB, fun od => ⟨by rw [List.length_set, len], same_upd2 sB hB, fun a o z => ?_, fun a z => mB a z.1, fun a z => by rw [upd_ne z.2]; exact mF a z.1, fun a z => by rw [upd_ne z.2]; exact mH a z.1, fun a xs z => by rw [upd_ne z.2]; exact mT a xs z.1,
    fun j a => foot j a ∧ j ≠ i, fun j a z => ⟨f1 j a z.1, fun w => z.2 (f2 j i a z.1 (by rw [w]; exact hm))⟩, fun j k a z1 z2 => f2 j k a z1.1 z2.1, fun j => ?_⟩⟩
  · unfold L2.upd at z ⊢
    split at z
    · rename_i hb; rw [if_pos hb]; exact z
    · rename_i hb; rw [if_neg hb]; exact sF a o z
  · rw [getD_set ds i j _ hi]
    by_cases h : j = i
    · subst h
      rw [if_pos rfl]
      exact ⟨.ref p, e, rfl, upd_same, r.mono (same_upd hF)⟩
    · rw [if_neg h]
      have q : hold K B F H (ds[j]?.getD .no) (σ[j]?) (fun a => foot j a ∧ j ≠ i) := by
        have : (fun a => foot j a ∧ j ≠ i) = foot j := by
          funext a
          exact propext ⟨fun z => z.1, fun z => ⟨z, h⟩⟩
        rw [this]
        exact f3 j
      have sF' : Same F (upd F p (.frz od (dpO kv))) := same_upd hF
      refine q.mono sF' (fun a o ha hz => ?_) sF ?_
      · rw [upd_ne fun z => h (f2 j i a ha.1 (by rw [z]; exact hm))]
        exact hz
      · intro a o z
        unfold L2.upd at z ⊢
        split at z
        · rename_i hb; rw [if_pos hb]; exact z
        · rename_i hb; rw [if_neg hb]; exact sF a o z
/-- and back -/
theorem Env.unlockP {B F M H σ} {p : Addr} {od : Obj} {kv : List (PP × V)} {kvs : List (PP × PyData)} (E : Env K B F M H σ es) {i : Nat} (hi : i < es.length) (hx : es[i]? = some (.res (LkP p od kv kvs))) (pl : ∀ j, j ≠ i → (es[j]?.getD Sl.no).plain = true) (hB : B p = none) :
    Env K B (cutF F p) (fun a => M a ∨ a = p) (upd H p (dpO kv)) σ (es.set i (.dp kvs)) := by
  obtain ⟨len, sB, sF, mB, mF, mH, mT, foot, f1, f2, f3⟩ := E
  have h3 := f3 i
  rw [hx] at h3
  obtain ⟨v, e, rfl, hp, r⟩ := h3
  have nM : ¬ M p := fun z => by rw [mF p z] at hp; cases hp
  refine ⟨by rw [List.length_set, len], same_upd2 sB hB, fun a o z => ?_, fun a z => ?_, fun a z => ?_, fun a z => ?_, fun a xs z => ?_, fun j a => if j = i then a = p else foot j a, fun j a z => ?_, fun j k a h1 h2 => ?_, fun j => ?_⟩
  · unfold cutF at z
    split at z
    · cases z
    · rename_i hb; rw [upd_ne hb]; exact sF a o z
  · rcases z with z | rfl
    · exact mB a z
    · exact hB
  · unfold cutF
    split
    · rfl
    · rename_i hb
      exact mF a (z.resolve_right hb)
  · unfold L2.upd
    split
    · exact fun z => nomatch z
    · rename_i hb
      exact mH a (z.resolve_right hb)
  · unfold L2.upd
    split
    · exact fun z => nomatch z
    · rename_i hb
      exact mT a xs (z.resolve_right hb)
  · by_cases h : j = i
    · simp only [if_pos h] at z; exact .inr z
    · simp only [if_neg h] at z; exact .inl (f1 j a z)
  · by_cases hj : j = i
    · by_cases hk : k = i
      · rw [hj, hk]
      · simp only [if_pos hj] at h1
        simp only [if_neg hk] at h2
        exact absurd (h1 ▸ f1 k a h2) nM
    · by_cases hk : k = i
      · simp only [if_neg hj] at h1
        simp only [if_pos hk] at h2
        exact absurd (h2 ▸ f1 j a h1) nM
      · simp only [if_neg hj] at h1
        simp only [if_neg hk] at h2
        exact f2 j k a h1 h2
  · rw [getD_set es i j _ hi]
    by_cases h : j = i
    · subst h
      rw [if_pos rfl]
      exact ⟨p, kv, e, upd_same, r.strip hp, by simp⟩
    · rw [if_neg h]
      show hold K B _ _ _ _ (fun a => if j = i then a = p else foot j a)
      simp only [if_neg h]
      exact hold.strip (pl j h) hp (fun z => nM (f1 j p z)) (f3 j)
theorem ev_dinL {i : Nat} {p : Addr} {od : Obj} {kv : List (PP × V)} {kvs : List (PP × β)} {ok : Option PP} (hx : ds[i]? = some (.res (LkP p od kv (emD kvs)))) (hk : EvO K ds m tb ok) : EvO K ds .f (tDNotIn tb (tVar i)) (odnin ok kvs) := by
  intro z hz B F M H σ Q E q
  cases ok with
  | none => cases hz
  | some kk =>
    cases hz
    refine hk kk rfl B F M H σ _ E fun w F' H' x r => ?_
    have E' := E.ext x
    obtain ⟨_, _, v, e, rfl, hp, rk⟩ := E'.at hx
    obtain ⟨b, x1, x2', rfl, hb, ra, rb⟩ := rp_pair (r.mono (hp_H E'))
    rw [rp_int ra, rp_int rb] at hb
    have e2 := valV_map (κ' := List L2.Key) (f := kyP) kyP_inj kv kk
    have hd : DGet H' p (.ref b) (valV (mapK kyP kv) (kyP kk)) := .inr ⟨mapK kyP kv, kyP kk, b, .inr ⟨od, E'.sF _ _ hp⟩, rfl, hb, rfl⟩
    rw [e2] at hd
    refine ⟨.ref p, e, p, _, rfl, hd, ?_⟩
    have : (dget kv kk).isSome = (dget kvs kk).isSome := by
      have g := emD_get kvs kk
      rcases rk.get kk with ⟨a, b⟩ | ⟨v, d, a, b, _⟩
      · rw [a]; rw [b] at g; cases h : dget kvs kk with
        | none => rfl
        | some y => rw [h] at g; cases g
      · rw [a]; rw [b] at g; cases h : dget kvs kk with
        | none => rw [h] at g; cases g
        | some y => rfl
    rw [this]
    exact q _ F' H' x (.bl _)
theorem Env.stripP {B F M H σ} {p : Addr} {od : Obj} {u o : HO} (E : Env K B F M H σ es) (hp : F p = some (.frz od u)) (pl : ∀ j : Nat, (es[j]?.getD Sl.no).plain = true) (hB : B p = none) : Env K B (cutF F p) M (upd H p o) σ es := by
  obtain ⟨len, sB, sF, mB, mF, mH, mT, foot, f1, f2, f3⟩ := E
  have nM : ¬ M p := fun z => by rw [mF p z] at hp; cases hp
  have ne : ∀ a, M a → a ≠ p := fun a z e => nM (e ▸ z)
  refine ⟨len, same_upd2 sB hB, fun a o z => ?_, mB, fun a z => by rw [cutF_ne (ne a z)]; exact mF a z, fun a z => by rw [upd_ne (ne a z)]; exact mH a z, fun a xs z => by rw [upd_ne (ne a z)]; exact mT a xs z, foot, f1, f2, fun j => hold.strip (pl j) hp (fun z => nM (f1 j p z)) (f3 j)⟩
  unfold cutF at z
  split at z
  · cases z
  · rename_i hb; rw [upd_ne hb]; exact sF a o z
theorem Stp.unlock {F H F' H' : Hp} {M M' : Addr → Prop} {p : Addr} {od : Obj} {u : HO} {N : Addr → Prop} (hM : M p) (hF : F p = none) (st : Stp (upd F p (.frz od u)) (fun a => M a ∧ a ≠ p) (upd H p (.frz od u)) F' M' H') (hN : ∀ a, N a → M' a ∨ a = p) : Stp F M H (cutF F' p) N (upd H' p u) := by
  refine ⟨fun a o z => ?_, fun a z => ?_, fun b o z nm => ?_, fun a z => ?_⟩
  · have hb : a ≠ p := fun e => by rw [e, hF] at z; cases z
    rw [cutF_ne hb]
    exact st.sF a o (by rw [upd_ne hb]; exact z)
  · unfold cutF at z
    split at z
    · exact absurd rfl z
    · rename_i hb
      rcases st.new a z with h | (h | ⟨ts, h⟩) | h
      · rw [upd_ne hb] at h; exact .inl h
      · rw [upd_ne hb] at h; exact .inr (.inl (.inl h))
      · rw [upd_ne hb] at h; exact .inr (.inl (.inr ⟨ts, h⟩))
      · exact .inr (.inr h.1)
  · have hb : b ≠ p := fun e => nm (e ▸ hM)
    rw [upd_ne hb]
    exact st.keep b o (by rw [upd_ne hb]; exact z) fun w => nm w.1
  · rcases hN a z with z | rfl
    · rcases st.mn a z with h | h
      · exact .inl h.1
      · by_cases hb : a = p
        · rw [hb]; exact .inl hM
        · rw [upd_ne hb] at h; exact .inr h
    · exact .inl hM
/-- for .. in a dict of one's own with pairs as keys -/
theorem sv_forDP {i : Nat} {js : List Nat} {kvs : List (PP × β)} {E : Rs → S → List Sl} {s0 : S} {d1 : Rs → S → PP → List Sl} {f : S → PP → Option (Flow S ρ)} {bo : Rs → Flow S ρ → Out} {rd : ρ → PyData} {k : S → Option τ} {kd : ρ → Option τ}
    (hi : i < ds.length) (hx : ds[i]? = some (.dp (emD kvs))) (l0 : ∀ R, Le (ds.set i (.res R)) (E R s0)) (he : ∀ R s, (E R s)[i]? = some (.res R)) (pl : ∀ R s j, j ≠ i → ((E R s)[j]?.getD Sl.no).plain = true)
    (tg : ∀ R s x, Tg K .f (E R s) g js (em x) (d1 R s x)) (body : ∀ p od kv s x, SvO K (d1 (LkP p od kv (emD kvs)) s x) t (f s x) (bo (LkP p od kv (emD kvs))))
    (b1 : ∀ R s, bo R (.nx s) = .lp (E R s)) (b2 : ∀ R s, bo R (.bk s) = .bk (E R s)) (b3 : ∀ R r, bo R (.dn r) = .rt (.val (rd r))) (b4 : ∀ r x, kd r = some x → out x = .rt (.val (rd r)))
    (rest : ∀ R s, SvO K ((E R s).set i (.dp (emD kvs))) u (k s) out) : SvO K ds (tSeq (tLock (tFor (iKeys (tVar i)) g t)) u) (after (loopM f (kvs.map (·.1)) s0) k kd) out := by
  intro z hz B F M H σ D Ev fin
  obtain ⟨p, kv, e, hp, hM, hF, hB, lk⟩ := Ev.lockP hi hx
  refine ⟨p, dpO kv, hp, trivial, fun od => ?_⟩
  have E1 := lk od
  generalize hR : LkP p od kv (emD kvs) = R at E1
  have hkv : kv.map (·.1) = kvs.map (·.1) := by
    obtain ⟨_, _, p', kv', e', hp', r', _⟩ := Ev.at hx
    have : p' = p := by
      rw [e] at e'
      cases e'
      rfl
    subst this
    have : dpO kv' = dpO kv := Option.some.inj (hp'.symm.trans hp)
    have r2 := r'.keysM
    have e3 : kv'.map (fun x => ([Sum.inl x.1.1, Sum.inl x.1.2] : List L2.Key)) = kv.map (fun x => [Sum.inl x.1.1, Sum.inl x.1.2]) := by
      have e4 := HO.dT.inj this
      have e5 := congrArg (List.map (·.1)) e4
      rw [List.map_map, List.map_map] at e5
      exact e5
    have e6 : kv'.map (·.1) = kv.map (·.1) := by
      have : ∀ {a b : List (PP × V)}, a.map (fun x => ([Sum.inl x.1.1, Sum.inl x.1.2] : List L2.Key)) = b.map (fun x => [Sum.inl x.1.1, Sum.inl x.1.2]) → a.map (·.1) = b.map (·.1) := by
        intro a
        induction a with
        | nil => intro b h; cases b with
          | nil => rfl
          | cons y b => cases h
        | cons x a ih =>
          intro b h
          cases b with
          | nil => cases h
          | cons y b =>
            simp only [List.map_cons, List.cons.injEq, Sum.inl.injEq, and_true] at h
            rw [List.map_cons, List.map_cons, ih h.2]
            congr 1
            exact Prod.ext h.1.1 h.1.2
      exact this e3
    rw [← e6, r2]
    unfold emD
    rw [List.map_map]
    rfl
  have Dd : ∀ (F' : Hp) (M' : Addr → Prop) (H' : Hp) (σ' : L2.St) (s : S), Stp (upd F p (.frz od (dpO kv))) (fun a => M a ∧ a ≠ p) (upd H p (.frz od (dpO kv))) F' M' H' → Env K B F' M' H' σ' (E R s) → k s = some z →
      H' p = some (.frz od (dpO kv)) ∧ u D σ' (upd H' p (dpO kv)) := by
    intro F' M' H' σ' s st E' hk
    have hpF := st.sF _ _ (upd_same (H := F))
    refine ⟨E'.sF _ _ hpF, ?_⟩
    have hlen : i < (E R s).length := (List.getElem?_eq_some_iff.mp (he R s)).1
    have E2 := E'.unlockP (od := od) (kv := kv) (kvs := emD kvs) (p := p) hlen (by rw [hR]; exact he R s) (pl R s) hB
    exact rest R s z hk B _ _ _ σ' D E2 (fin.step (Stp.unlock hM hF st fun a z => z))
  refine ⟨.ref p, e, p, od, rfl, .inr ⟨_, upd_same, ?_⟩⟩
  have wk := L2.walk_keysT (d := p) (o := od) (kvs := kv.map fun x => ([Sum.inl x.1.1, Sum.inl x.1.2], x.2))
  refine L2.for_it wk (fun n σ' H' => ∃ F' M' s, Stp (upd F p (.frz od (dpO kv))) (fun a => M a ∧ a ≠ p) (upd H p (.frz od (dpO kv))) F' M' H' ∧ Env K B F' M' H' σ' (E R s) ∧ after (loopM f ((kvs.map (·.1)).drop n) s) k kd = some z) ⟨_, _, s0, .refl, E1.le (l0 R), hz⟩
    (fun n σ' H' _ ⟨F', M', s, st, E', _⟩ => E'.sF _ _ (st.sF _ _ upd_same)) ?_ ?_
  · rintro n v σ' H' H'' hn ⟨F', M', s, st, E', hk⟩ ⟨rfl, ky, w, q, hq1, rfl, hq2⟩
    rw [List.getElem?_map] at hq1
    cases hy : kv[n]? with
    | none => rw [hy] at hq1; cases hq1
    | some y =>
      rw [hy] at hq1
      cases hq1
      have hdr : (kvs.map (·.1)).drop n = y.1 :: (kvs.map (·.1)).drop (n + 1) := by
        rw [← hkv]
        have hlt := (List.getElem?_eq_some_iff.mp hy).1
        rw [List.drop_eq_getElem_cons (by rw [List.length_map]; exact hlt), List.getElem_map]
        rw [(List.getElem?_eq_some_iff.mp hy).2]
      rw [hdr] at hk
      unfold after at hk
      obtain ⟨fl, hfl, hk⟩ := bind_some' hk
      simp only [loopM] at hfl
      obtain ⟨fb, hfb, hfl⟩ := bind_some' hfl
      have X := tupF_ext E'.sF
      have E2 := E'.ext X
      have st2 := st.trans (.ofExt (M := M') X)
      have hq2 : H'' q = some (.tup [.int y.1.1, .int y.1.2]) := hq2
      have rk : Rp (tupF F' H'') (.ref q) (em y.1) := .tup (tupF_at E'.sF hq2) (.cons (.int _) (.cons (.int _) .nil))
      refine tg R s y.1 B _ M' H'' σ' _ _ E2 rk fun σ2 E3 _ _ => ?_
      have bd := body p od kv s y.1 fb hfb
      rw [hR] at bd
      refine bd B _ M' H'' σ2 _ E3 ?_
      cases fb with
      | nx s' =>
        rw [b1]
        intro F3 M3 H3 σ3 st3 E4
        have : after (loopM f ((kvs.map (·.1)).drop (n + 1)) s') k kd = some z := by unfold after; rw [show loopM f ((kvs.map (·.1)).drop (n + 1)) s' = some fl from hfl]; exact hk
        exact ⟨⟨F3, M3, s', st2.trans st3, E4, this⟩, ⟨F3, M3, s', st2.trans st3, E4, this⟩⟩
      | bk s' =>
        rw [b2]
        cases hfl
        intro F3 M3 H3 σ3 st3 E4
        exact Dd F3 M3 H3 σ3 s' (st2.trans st3) E4 hk
      | dn r =>
        cases hfl
        rw [b3]
        intro F3 M3 H3 v st3 E4
        have st4 := st2.trans st3
        have hpF := st4.sF _ _ (upd_same (H := F))
        refine ⟨E4.sF _ _ hpF, ?_⟩
        rw [b4 r z hk] at fin
        exact fin _ M3 _ v (Stp.unlock hM hF st4 fun a z => .inl z) (E4.stripP hpF (fun j => by
          cases j with
          | zero => rfl
          | succ j => rfl) hB)
  · rintro σ' H' ⟨F', M', s, st, E', hk⟩
    rw [List.length_map, show kv.length = (kvs.map (·.1)).length by rw [← hkv, List.length_map], List.drop_length] at hk
    exact Dd F' M' H' σ' s st E' hk
end
end Tw
/-! Own trees: lists, dicts, instances of a frame's own, one in another. -/
namespace Tw
open PySem L2
inductive OD
  | v (d : PyData)
  | lst (xs : List OD)
  | di (kvs : List (Int × OD))
  | dp (kvs : List (PP × OD))
  | ins (C : Addr) (fs : List (Str × OD))
mutual
inductive Ow (F H : Hp) : V → OD → List Addr → Prop
  | v {x : V} {d : PyData} : Rp F x d → Ow F H x (.v d) []
  | lst {p : Addr} {vs : List V} {xs : List OD} {ms : List Addr} : H p = some (.lst vs) → OwL F H vs xs ms → p ∉ ms → Ow F H (.ref p) (.lst xs) (p :: ms)
  | di {p : Addr} {kv : List (Int × V)} {xs : List (Int × OD)} {ms : List Addr} : H p = some (diO kv) → OwL F H (kv.map (·.2)) (xs.map (·.2)) ms → kv.map (·.1) = xs.map (·.1) → p ∉ ms → Ow F H (.ref p) (.di xs) (p :: ms)
  | dp {p : Addr} {kv : List (PP × V)} {xs : List (PP × OD)} {ms : List Addr} : H p = some (dpO kv) → OwL F H (kv.map (·.2)) (xs.map (·.2)) ms → kv.map (·.1) = xs.map (·.1) → p ∉ ms → Ow F H (.ref p) (.dp xs) (p :: ms)
  | ins {p dx C : Addr} {fs : List (Str × V)} {xs : List (Str × OD)} {ms : List Addr} : H p = some (.ins C dx fs) → H dx = some (.own p) → OwL F H (fs.map (·.2)) (xs.map (·.2)) ms → fs.map (·.1) = xs.map (·.1) → p ∉ ms → dx ∉ ms → p ≠ dx → Ow F H (.ref p) (.ins C xs) (p :: dx :: ms)
inductive OwL (F H : Hp) : List V → List OD → List Addr → Prop
  | nil : OwL F H [] [] []
  | cons {x : V} {vs : List V} {o : OD} {xs : List OD} {m1 m2 : List Addr} : Ow F H x o m1 → OwL F H vs xs m2 → (∀ a ∈ m1, a ∉ m2) → OwL F H (x :: vs) (o :: xs) (m1 ++ m2)
end
mutual
theorem Ow.mono {F H F' H' : Hp} (sF : Same F F') : ∀ {x : V} {o : OD} {ms : List Addr}, (∀ a ∈ ms, ∀ u, H a = some u → H' a = some u) → Ow F H x o ms → Ow F' H' x o ms
  | _, _, _, _, .v r => .v (r.mono sF)
  | _, _, _, k, .lst h r n => .lst (k _ (by simp) _ h) (OwL.mono sF (fun a ha => k a (by simp [ha])) r) n
  | _, _, _, k, .di h r e n => .di (k _ (by simp) _ h) (OwL.mono sF (fun a ha => k a (by simp [ha])) r) e n
  | _, _, _, k, .dp h r e n => .dp (k _ (by simp) _ h) (OwL.mono sF (fun a ha => k a (by simp [ha])) r) e n
  | _, _, _, k, .ins h h2 r e n n2 n3 => .ins (k _ (by simp) _ h) (k _ (by simp) _ h2) (OwL.mono sF (fun a ha => k a (by simp [ha])) r) e n n2 n3
theorem OwL.mono {F H F' H' : Hp} (sF : Same F F') : ∀ {vs : List V} {xs : List OD} {ms : List Addr}, (∀ a ∈ ms, ∀ u, H a = some u → H' a = some u) → OwL F H vs xs ms → OwL F' H' vs xs ms
  | _, _, _, _, .nil => .nil
  | _, _, _, k, .cons h r d => .cons (Ow.mono sF (fun a ha => k a (by simp [ha])) h) (OwL.mono sF (fun a ha => k a (by simp [ha])) r) d
end
mutual
theorem Ow.at {F H : Hp} : ∀ {x : V} {o : OD} {ms : List Addr}, Ow F H x o ms → ∀ a ∈ ms, ∃ u, H a = some u ∧ ∀ xs, u ≠ .tup xs
  | _, _, _, .v r, a, ha => by cases ha
  | _, _, _, .lst h r n, a, ha => by
    rcases List.mem_cons.mp ha with rfl | ha
    · exact ⟨_, h, fun _ z => nomatch z⟩
    · exact OwL.at r a ha
  | _, _, _, .di h r e n, a, ha => by
    rcases List.mem_cons.mp ha with rfl | ha
    · exact ⟨_, h, fun _ z => nomatch z⟩
    · exact OwL.at r a ha
  | _, _, _, .dp h r e n, a, ha => by
    rcases List.mem_cons.mp ha with rfl | ha
    · exact ⟨_, h, fun _ z => nomatch z⟩
    · exact OwL.at r a ha
  | _, _, _, .ins h h2 r e n n2 n3, a, ha => by
    rcases List.mem_cons.mp ha with rfl | ha
    · exact ⟨_, h, fun _ z => nomatch z⟩
    · rcases List.mem_cons.mp ha with rfl | ha
      · exact ⟨_, h2, fun _ z => nomatch z⟩
      · exact OwL.at r a ha
theorem OwL.at {F H : Hp} : ∀ {vs : List V} {xs : List OD} {ms : List Addr}, OwL F H vs xs ms → ∀ a ∈ ms, ∃ u, H a = some u ∧ ∀ xs, u ≠ .tup xs
  | _, _, _, .nil, a, ha => by cases ha
  | _, _, _, .cons h r d, a, ha => by
    rcases List.mem_append.mp ha with ha | ha
    · exact Ow.at h a ha
    · exact OwL.at r a ha
end
theorem OwL.len {F H : Hp} : ∀ {vs : List V} {xs : List OD} {ms : List Addr}, OwL F H vs xs ms → vs.length = xs.length
  | _, _, _, .nil => rfl
  | _, _, _, .cons _ r _ => by rw [List.length_cons, List.length_cons, OwL.len r]
/-- one of some trees, and what may stand in its place -/
theorem OwL.get {F H : Hp} : ∀ {vs : List V} {xs : List OD} {ms : List Addr} {i : Nat} {o : OD}, OwL F H vs xs ms → xs[i]? = some o →
    ∃ (x : V) (m R : List Addr), vs[i]? = some x ∧ Ow F H x o m ∧ (∀ a, a ∈ ms ↔ a ∈ m ∨ a ∈ R) ∧ (∀ a ∈ m, a ∉ R) ∧
      ∀ F' H' x' o' m', Same F F' → (∀ a ∈ R, ∀ u, H a = some u → H' a = some u) → Ow F' H' x' o' m' → (∀ a ∈ m', a ∉ R) → ∃ ms', OwL F' H' (vs.set i x') (xs.set i o') ms' ∧ ∀ a, a ∈ ms' ↔ a ∈ m' ∨ a ∈ R
  | _, _, _, _, _, .nil, e => by simp at e
  | _, _, _, 0, o, .cons (m1 := m1) (m2 := m2) h r d, e => by
    simp only [List.getElem?_cons_zero, Option.some.injEq] at e
    subst e
    refine ⟨_, m1, m2, rfl, h, fun a => List.mem_append, d, fun F' H' x' o' m' sF k h' d' => ⟨m' ++ m2, ?_, fun a => List.mem_append⟩⟩
    exact .cons h' (OwL.mono sF k r) d'
  | _, _, _, i + 1, o, .cons (m1 := m1) (m2 := m2) h r d, e => by
    simp only [List.getElem?_cons_succ] at e
    obtain ⟨x, m, R, h1, h2, h3, h4, h5⟩ := OwL.get r e
    refine ⟨x, m, m1 ++ R, by simpa using h1, h2, fun a => ?_, fun a ha z => ?_, fun F' H' x' o' m' sF k h' d' => ?_⟩
    · rw [List.mem_append, List.mem_append, h3]
      constructor
      · rintro (z | z | z)
        · exact .inr (.inl z)
        · exact .inl z
        · exact .inr (.inr z)
      · rintro (z | z | z)
        · exact .inr (.inl z)
        · exact .inl z
        · exact .inr (.inr z)
    · rcases List.mem_append.mp z with z | z
      · exact d a z ((h3 a).mpr (.inl ha))
      · exact h4 a ha z
    · obtain ⟨ms', g1, g2⟩ := h5 F' H' x' o' m' sF (fun a ha => k a (by simp [ha])) h' (fun a ha z => d' a ha (by simp [z]))
      refine ⟨m1 ++ ms', .cons (Ow.mono sF (fun a ha => k a (by simp [ha])) h) g1 (fun a ha z => ?_), fun a => ?_⟩
      · rcases (g2 a).mp z with z | z
        · exact d' a z (by simp [ha])
        · exact d a ha ((h3 a).mpr (.inr z))
      · rw [List.mem_append, List.mem_append, g2]
        constructor
        · rintro (z | z | z)
          · exact .inr (.inl z)
          · exact .inl z
          · exact .inr (.inr z)
        · rintro (z | z | z)
          · exact .inr (.inl z)
          · exact .inl z
          · exact .inr (.inr z)
theorem OwL.app {F H : Hp} : ∀ {vs ws : List V} {xs ys : List OD} {m1 m2 : List Addr}, OwL F H vs xs m1 → OwL F H ws ys m2 → (∀ a ∈ m1, a ∉ m2) → OwL F H (vs ++ ws) (xs ++ ys) (m1 ++ m2)
  | _, _, _, _, _, _, .nil, q, _ => q
  | _, _, _, _, _, _, .cons (m1 := a1) (m2 := a2) h r d, q, dd => by
    rw [List.append_assoc]
    refine .cons h (OwL.app r q fun a ha => dd a (by simp [ha])) fun a ha z => ?_
    rcases List.mem_append.mp z with z | z
    · exact d a ha z
    · exact dd a (by simp [ha]) z

/-! ### places in a tree -/
inductive Sp1 | ix (i : Nat) | fld (f : Str)
def subO : OD → List Sp1 → Option OD
  | o, [] => some o
  | .lst xs, .ix i :: π => xs[i]?.bind fun o => subO o π
  | .ins _ fs, .fld f :: π => (fs.lookup f).bind fun o => subO o π
  | _, _ => none
/-- what stands at a place of the heap -/
def AtP (H : Hp) : V → List Sp1 → V → Prop
  | v, [], w => v = w
  | v, .ix i :: π, w => ∃ p vs u, v = .ref p ∧ H p = some (.lst vs) ∧ vs[i]? = some u ∧ AtP H u π w
  | v, .fld f :: π, w => ∃ p C dx fs u, v = .ref p ∧ H p = some (.ins C dx fs) ∧ fs.lookup f = some u ∧ AtP H u π w
theorem AtP.mono {H H' : Hp} (s : Same H H') : ∀ {π : List Sp1} {v w : V}, AtP H v π w → AtP H' v π w
  | [], _, _, h => h
  | .ix i :: π, _, _, ⟨p, vs, u, e, h1, h2, h3⟩ => ⟨p, vs, u, e, s _ _ h1, h2, h3.mono s⟩
  | .fld f :: π, _, _, ⟨p, C, dx, fs, u, e, h1, h2, h3⟩ => ⟨p, C, dx, fs, u, e, s _ _ h1, h2, h3.mono s⟩
theorem AtP.app {H : Hp} : ∀ {π ρ : List Sp1} {v w x : V}, AtP H v π w → AtP H w ρ x → AtP H v (π ++ ρ) x
  | [], _, _, _, _, h, g => by cases h; exact g
  | .ix i :: π, _, _, _, _, ⟨p, vs, u, e, h1, h2, h3⟩, g => ⟨p, vs, u, e, h1, h2, h3.app g⟩
  | .fld f :: π, _, _, _, _, ⟨p, C, dx, fs, u, e, h1, h2, h3⟩, g => ⟨p, C, dx, fs, u, e, h1, h2, h3.app g⟩
theorem AtP.uniq {H : Hp} : ∀ {π : List Sp1} {v w x : V}, AtP H v π w → AtP H v π x → w = x
  | [], _, _, _, h, g => by cases h; exact g
  | .ix i :: π, _, _, _, ⟨p, vs, u, e, h1, h2, h3⟩, ⟨p', vs', u', e', h1', h2', h3'⟩ => by
    subst e
    cases e'
    rw [h1] at h1'
    cases h1'
    rw [h2] at h2'
    cases h2'
    exact h3.uniq h3'
  | .fld f :: π, _, _, _, ⟨p, C, dx, fs, u, e, h1, h2, h3⟩, ⟨p', C', dx', fs', u', e', h1', h2', h3'⟩ => by
    subst e
    cases e'
    rw [h1] at h1'
    cases h1'
    rw [h2] at h2'
    cases h2'
    exact h3.uniq h3'
/-- the number of a name among fields -/
def fldIx {α : Type} : List (Str × α) → Str → Option Nat
  | [], _ => none
  | x :: fs, f => if f = x.1 then some 0 else (fldIx fs f).map (· + 1)
theorem lookup_ix {α : Type} : ∀ {fs : List (Str × α)} {f : Str} {x : α}, fs.lookup f = some x → ∃ i : Nat, fldIx fs f = some i ∧ fs[i]? = some (f, x)
  | [], _, _, h => by cases h
  | (g, y) :: fs, f, x, h => by
    unfold fldIx
    by_cases e : f = g
    · subst e
      rw [List.lookup_cons_self] at h
      cases h
      exact ⟨0, if_pos rfl, rfl⟩
    · have e2 : (f == g) = false := by simpa using e
      rw [List.lookup_cons, e2] at h
      obtain ⟨i, h1, h2⟩ := lookup_ix (fs := fs) h
      exact ⟨i + 1, by rw [if_neg e, h1]; rfl, by simpa using h2⟩
theorem ix_lookup {α : Type} : ∀ {fs : List (Str × α)} {f : Str} {i : Nat}, fldIx fs f = some i → ∃ x, fs[i]? = some (f, x) ∧ fs.lookup f = some x
  | [], _, _, h => by cases h
  | (g, y) :: fs, f, i, h => by
    unfold fldIx at h
    by_cases e : f = g
    · subst e
      rw [if_pos rfl] at h
      cases h
      exact ⟨y, rfl, List.lookup_cons_self⟩
    · have e2 : (f == g) = false := by simpa using e
      rw [if_neg e] at h
      cases hi : fldIx fs f with
      | none => rw [hi] at h; cases h
      | some j =>
        rw [hi] at h
        cases h
        obtain ⟨x, h1, h2⟩ := ix_lookup hi
        exact ⟨x, by simpa using h1, by rw [List.lookup_cons, e2]; exact h2⟩
theorem fldIx_keys {α β : Type} : ∀ {fs : List (Str × α)} {gs : List (Str × β)} {f : Str}, fs.map (·.1) = gs.map (·.1) → fldIx fs f = fldIx gs f
  | [], [], _, _ => rfl
  | [], _ :: _, _, h => by cases h
  | _ :: _, [], _, h => by cases h
  | (x1, x2) :: fs, (y1, y2) :: gs, f, h => by
    simp only [List.map_cons, List.cons.injEq] at h
    obtain ⟨rfl, h⟩ := h
    unfold fldIx
    rw [fldIx_keys h]
def setO : List Sp1 → OD → OD → OD
  | [], _, o' => o'
  | .ix i :: π, .lst xs, o' => .lst (match xs[i]? with | some x => xs.set i (setO π x o') | none => xs)
  | .fld f :: π, .ins C fs, o' => .ins C (match fldIx fs f with | some i => (match fs[i]? with | some x => fs.set i (x.1, setO π x.2 o') | none => fs) | none => fs)
  | _, o, _ => o
theorem map_set_fst {α : Type} {fs : List (Str × α)} {i : Nat} {f : Str} {x y : α} (h : fs[i]? = some (f, x)) : (fs.set i (f, y)).map (·.1) = fs.map (·.1) := by
  rw [List.map_set]
  apply List.ext_getElem?
  intro j
  by_cases hj : j = i
  · subst hj
    have hlt := (List.getElem?_eq_some_iff.mp h).1
    rw [List.getElem?_set_self (by rw [List.length_map]; exact hlt), List.getElem?_map, h]
    rfl
  · rw [List.getElem?_set_ne (fun e => hj e.symm)]
theorem map_set_snd {α : Type} {fs : List (Str × α)} {i : Nat} {f : Str} {y : α} : (fs.set i (f, y)).map (·.2) = (fs.map (·.2)).set i y := by rw [List.map_set]
/-- a tree at a place of a tree, and what may stand there instead -/
theorem Ow.focus {F H : Hp} : ∀ {π : List Sp1} {v : V} {od o : OD} {ms : List Addr}, Ow F H v od ms → subO od π = some o →
    ∃ (w : V) (m R : List Addr), AtP H v π w ∧ Ow F H w o m ∧ (∀ a, a ∈ ms ↔ a ∈ m ∨ a ∈ R) ∧ (∀ a ∈ m, a ∉ R) ∧
      ∀ F' H' o' m', Same F F' → (∀ a ∈ R, ∀ u, H a = some u → H' a = some u) → Ow F' H' w o' m' → (∀ a ∈ m', a ∉ R) → ∃ ms', Ow F' H' v (setO π od o') ms' ∧ ∀ a, a ∈ ms' ↔ a ∈ m' ∨ a ∈ R
  | [], x0, od, o, ms, h, e => by
    have e : some od = some o := by cases od <;> exact e
    cases e
    exact ⟨x0, ms, [], rfl, h, fun a => by simp, fun a _ => List.not_mem_nil, fun F' H' o' m' _ _ h' _ => ⟨m', h', fun a => by simp⟩⟩
  | .ix i :: π, x0, od, o, ms, h, e => by
    cases h with
    | v r => cases e
    | di _ _ _ _ => cases e
    | dp _ _ _ _ => cases e
    | ins _ _ _ _ _ _ _ => cases e
    | @lst p vs xs ms' hp r hn =>
      have e : (xs[i]?.bind fun o => subO o π) = some o := e
      obtain ⟨x, e1, e2⟩ := bind_some' e
      obtain ⟨u, m1, R1, g1, g2, g3, g4, g5⟩ := r.get e1
      obtain ⟨w, m2, R2, f1, f2, f3, f4, f5⟩ := g2.focus e2
      refine ⟨w, m2, p :: (R2 ++ R1), ⟨p, vs, u, rfl, hp, g1, f1⟩, f2, fun a => ?_, fun a ha z => ?_, fun F' H' o' m' sF k h' d' => ?_⟩
      · rw [List.mem_cons, g3, f3, List.mem_cons, List.mem_append]
        constructor
        · rintro (z | (z | z) | z)
          · exact .inr (.inl z)
          · exact .inl z
          · exact .inr (.inr (.inl z))
          · exact .inr (.inr (.inr z))
        · rintro (z | z | z | z)
          · exact .inr (.inl (.inl z))
          · exact .inl z
          · exact .inr (.inl (.inr z))
          · exact .inr (.inr z)
      · have hm : a ∈ m1 := (f3 a).mpr (.inl ha)
        rcases List.mem_cons.mp z with rfl | z
        · exact hn ((g3 a).mpr (.inl hm))
        · rcases List.mem_append.mp z with z | z
          · exact f4 a ha z
          · exact g4 a hm z
      · obtain ⟨ms2, q1, q2⟩ := f5 F' H' o' m' sF (fun a ha => k a (by simp [ha])) h' (fun a ha z => d' a ha (by simp [z]))
        obtain ⟨ms3, q3, q4⟩ := g5 F' H' u (setO π x o') ms2 sF (fun a ha => k a (by simp [ha])) q1 (fun a ha z => by
          rcases (q2 a).mp ha with y | y
          · exact d' a y (by simp [z])
          · exact g4 a ((f3 a).mpr (.inr y)) z)
        have hvs : vs.set i u = vs := by
          obtain ⟨hlt, hu⟩ := List.getElem?_eq_some_iff.mp g1
          rw [← hu]
          exact List.set_getElem_self hlt
        rw [hvs] at q3
        have hset : setO (.ix i :: π) (.lst xs) o' = .lst (xs.set i (setO π x o')) := by
          show OD.lst _ = _
          rw [e1]
        rw [hset]
        refine ⟨p :: ms3, .lst (k p (by simp) _ hp) q3 (fun z => ?_), fun a => ?_⟩
        · rcases (q4 p).mp z with y | y
          · rcases (q2 p).mp y with y | y
            · exact d' p y (by simp)
            · exact hn ((g3 p).mpr (.inl ((f3 p).mpr (.inr y))))
          · exact hn ((g3 p).mpr (.inr y))
        · rw [List.mem_cons, q4, q2, List.mem_cons, List.mem_append]
          constructor
          · rintro (z | (z | z) | z)
            · exact .inr (.inl z)
            · exact .inl z
            · exact .inr (.inr (.inl z))
            · exact .inr (.inr (.inr z))
          · rintro (z | z | z | z)
            · exact .inr (.inl (.inl z))
            · exact .inl z
            · exact .inr (.inl (.inr z))
            · exact .inr (.inr z)
  | .fld f :: π, x0, od, o, ms, h, e => by
    cases h with
    | v r => cases e
    | di _ _ _ _ => cases e
    | dp _ _ _ _ => cases e
    | lst _ _ _ => cases e
    | @ins p dx C fs xs ms' hp hdx r hk hn hn2 hn3 =>
      have e : ((xs.lookup f).bind fun o => subO o π) = some o := e
      obtain ⟨x, e1, e2⟩ := bind_some' e
      obtain ⟨i, j1, j2⟩ := lookup_ix e1
      have j3 : (xs.map (·.2))[i]? = some x := by rw [List.getElem?_map, j2]; rfl
      obtain ⟨u, m1, R1, g1, g2, g3, g4, g5⟩ := r.get j3
      obtain ⟨w, m2, R2, f1, f2, f3, f4, f5⟩ := g2.focus e2
      obtain ⟨y, j4, j5⟩ := ix_lookup (fs := fs) (f := f) (i := i) (by rw [fldIx_keys hk]; exact j1)
      have hy : y = u := by
        rw [List.getElem?_map, j4] at g1
        exact Option.some.inj g1
      subst hy
      refine ⟨w, m2, p :: dx :: (R2 ++ R1), ⟨p, C, dx, fs, y, rfl, hp, j5, f1⟩, f2, fun a => ?_, fun a ha z => ?_, fun F' H' o' m' sF k h' d' => ?_⟩
      · rw [List.mem_cons, List.mem_cons, g3, f3, List.mem_cons, List.mem_cons, List.mem_append]
        constructor
        · rintro (z | z | (z | z) | z)
          · exact .inr (.inl z)
          · exact .inr (.inr (.inl z))
          · exact .inl z
          · exact .inr (.inr (.inr (.inl z)))
          · exact .inr (.inr (.inr (.inr z)))
        · rintro (z | z | z | z | z)
          · exact .inr (.inr (.inl (.inl z)))
          · exact .inl z
          · exact .inr (.inl z)
          · exact .inr (.inr (.inl (.inr z)))
          · exact .inr (.inr (.inr z))
      · have hm : a ∈ m1 := (f3 a).mpr (.inl ha)
        rcases List.mem_cons.mp z with rfl | z
        · exact hn ((g3 a).mpr (.inl hm))
        · rcases List.mem_cons.mp z with rfl | z
          · exact hn2 ((g3 a).mpr (.inl hm))
          · rcases List.mem_append.mp z with z | z
            · exact f4 a ha z
            · exact g4 a hm z
      · obtain ⟨ms2, q1, q2⟩ := f5 F' H' o' m' sF (fun a ha => k a (by simp [ha])) h' (fun a ha z => d' a ha (by simp [z]))
        obtain ⟨ms3, q3, q4⟩ := g5 F' H' y (setO π x o') ms2 sF (fun a ha => k a (by simp [ha])) q1 (fun a ha z => by
          rcases (q2 a).mp ha with t | t
          · exact d' a t (by simp [z])
          · exact g4 a ((f3 a).mpr (.inr t)) z)
        have hvs : (fs.map (·.2)).set i y = fs.map (·.2) := by
          obtain ⟨hlt, hu⟩ := List.getElem?_eq_some_iff.mp g1
          conv => lhs; rw [← hu]
          exact List.set_getElem_self hlt
        rw [hvs] at q3
        have hset : setO (.fld f :: π) (.ins C xs) o' = .ins C (xs.set i (f, setO π x o')) := by
          show OD.ins C _ = _
          rw [j1]
          simp only [j2]
        rw [hset]
        refine ⟨p :: dx :: ms3, .ins (k p (by simp) _ hp) (k dx (by simp) _ hdx) (by rw [map_set_snd]; exact q3) (by rw [map_set_fst j2]; exact hk) (fun z => ?_) (fun z => ?_) hn3, fun a => ?_⟩
        · rcases (q4 p).mp z with t | t
          · rcases (q2 p).mp t with t | t
            · exact d' p t (by simp)
            · exact hn ((g3 p).mpr (.inl ((f3 p).mpr (.inr t))))
          · exact hn ((g3 p).mpr (.inr t))
        · rcases (q4 dx).mp z with t | t
          · rcases (q2 dx).mp t with t | t
            · exact d' dx t (by simp)
            · exact hn2 ((g3 dx).mpr (.inl ((f3 dx).mpr (.inr t))))
          · exact hn2 ((g3 dx).mpr (.inr t))
        · rw [List.mem_cons, List.mem_cons, q4, q2, List.mem_cons, List.mem_cons, List.mem_append]
          constructor
          · rintro (z | z | (z | z) | z)
            · exact .inr (.inl z)
            · exact .inr (.inr (.inl z))
            · exact .inl z
            · exact .inr (.inr (.inr (.inl z)))
            · exact .inr (.inr (.inr (.inr z)))
          · rintro (z | z | z | z | z)
            · exact .inr (.inr (.inl (.inl z)))
            · exact .inl z
            · exact .inr (.inl z)
            · exact .inr (.inr (.inl (.inr z)))
            · exact .inr (.inr (.inr z))

/-! ### a slot that holds an own tree -/
def OwR (od : OD) : Rs where
  h := fun F H v M => ∃ ms, Ow F H v od ms ∧ ∀ a ∈ ms, M a
  mono := fun {F H F' H' v M} sF kp s1 s2 ⟨ms, h, k⟩ => ⟨ms, h.mono sF (fun a ha u e => kp a u (k a ha) e), k⟩
section
variable {K : PySem.W.Frag} {ds es : List Sl} {ta tb tc te : TE} {tr : TA} {t u w : TS} {g : TG} {m m1 m2 : Md} {α β γ δ τ S ρ : Type} [Em α] [Em β] [Em γ] [Em δ] {out : τ → Out}
/-- what slot i owns is changed; N is new and comes to it -/
theorem Env.change {B F M H H' σ} (E : Env K B F M H σ ds) {i : Nat} (hi : i < ds.length) {v : V} {R : Rs} {N : Addr → Prop} {foot : Nat → Addr → Prop} (f1 : ∀ i a, foot i a → M a) (f2 : ∀ i j a, foot i a → foot j a → i = j) (f3 : ∀ i, hold K B F H (ds[i]?.getD .no) (σ[i]?) (foot i))
    (hv : σ[i]? = some (some v)) (keep : ∀ a o, H a = some o → ¬ foot i a → H' a = some o) (al : ∀ a, foot i a ∨ N a → ∃ o, H' a = some o ∧ ∀ xs, o ≠ .tup xs) (nB : ∀ a, N a → B a = none) (nF : ∀ a, N a → F a = none) (nM : ∀ a, N a → ¬ M a)
    (r : R.h F H' v (fun a => foot i a ∨ N a)) : Env K B F (fun a => M a ∨ N a) H' σ (ds.set i (.res R)) := by
  have sF : Same F H' := fun a o e => keep a o (E.sF a o e) fun z => by rw [E.mF a (f1 i a z)] at e; cases e
  have sB : Same B H' := fun a o e => keep a o (E.sB a o e) fun z => by rw [E.mB a (f1 i a z)] at e; cases e
  have alM : ∀ a, M a ∨ N a → ∃ o, H' a = some o ∧ ∀ xs, o ≠ .tup xs := fun a z => by
    by_cases hf : foot i a
    · exact al a (.inl hf)
    · rcases z with z | z
      · cases e : H a with
        | none => exact absurd e (E.mH a z)
        | some o => exact ⟨o, keep a o e hf, fun xs q => E.mT a xs z (by rw [e, q])⟩
      · exact al a (.inr z)
  refine ⟨by rw [List.length_set, E.len], sB, sF, fun a z => z.elim (E.mB a) (nB a), fun a z => z.elim (E.mF a) (nF a), fun a z => ?_, fun a xs z => ?_, fun j a => foot j a ∨ (j = i ∧ N a), fun j a z => ?_, fun j k a h1 h2 => ?_, fun j => ?_⟩
  · obtain ⟨o, e, _⟩ := alM a z
    rw [e]; exact fun z => nomatch z
  · obtain ⟨o, e, q⟩ := alM a z
    rw [e]; exact fun z => q xs (Option.some.inj z)
  · exact z.elim (fun z => .inl (f1 j a z)) (fun z => .inr z.2)
  · rcases h1 with h1 | ⟨rfl, h1⟩
    · rcases h2 with h2 | ⟨rfl, h2⟩
      · exact f2 j k a h1 h2
      · exact absurd (f1 j a h1) (nM a h2)
    · rcases h2 with h2 | ⟨rfl, h2⟩
      · exact absurd (f1 k a h2) (nM a h1)
      · rfl
  · rw [getD_set ds i j _ hi]
    by_cases h : j = i
    · subst h
      rw [if_pos rfl]
      refine ⟨v, hv, ?_⟩
      have : (fun a => foot j a ∨ (j = j ∧ N a)) = fun a => foot j a ∨ N a := by
        funext a
        exact propext ⟨fun z => z.imp_right (·.2), fun z => z.imp_right fun q => ⟨rfl, q⟩⟩
      show R.h F H' v (fun a => foot j a ∨ (j = j ∧ N a))
      rw [this]
      exact r
    · rw [if_neg h]
      have : (fun a => foot j a ∨ (j = i ∧ N a)) = foot j := by
        funext a
        exact propext ⟨fun z => z.resolve_right fun q => h q.1, .inl⟩
      show hold K B F H' _ _ (fun a => foot j a ∨ (j = i ∧ N a))
      rw [this]
      exact (f3 j).mono (Same.refl _) (fun a o ha hz => keep a o hz fun z => h (f2 j i a ha z)) E.sF sF
/-- lists in a list -/
def oLL {α : Type} [Em α] (xs : List (List α)) : OD := .lst (xs.map fun r => .lst (r.map fun x => .v (em x)))
theorem OwL.vals {F H : Hp} : ∀ {vs : List V} {xs : List α} {ms : List Addr}, OwL F H vs (xs.map fun x => .v (em x)) ms → RpA F vs (xs.map em) ∧ ms = []
  | _, [], _, h => by cases h; exact ⟨.nil, rfl⟩
  | _, x :: xs, _, h => by
    cases h with
    | cons h r d =>
      cases h with
      | v h =>
        obtain ⟨r1, r2⟩ := OwL.vals r
        subst r2
        exact ⟨.cons h r1, rfl⟩
theorem OwL.ofVals {F H : Hp} : ∀ {vs : List V} {xs : List α}, RpA F vs (xs.map em) → OwL F H vs (xs.map fun x => .v (em x)) []
  | _, [], h => by cases h; exact .nil
  | _, x :: xs, h => by
    cases h with
    | cons h r => exact .cons (m1 := []) (m2 := []) (.v h) (OwL.ofVals r) (fun a z => by cases z)
/-- xs[a].append(y) -/
theorem sv_appIx {i : Nat} {xs : List (List α)} {o : Option α} {oa : Option Int} {r : List (List α) → Option τ} (hi : i < ds.length) (hx : ds[i]? = some (.res (OwR (oLL xs)))) (ha : EvO K ds m ta oa) (h : EvO K ds .f te o)
    (k : ∀ ys : List (List α), SvO K (ds.set i (.res (OwR (oLL ys)))) u (r ys) out) :
    SvO K ds (tSeq (tDrop (tBM K "list" rAppend (tOp (rIxL K) (tVar i) ta) (tCons te tNil))) u) ((oa.bind fun a => o.bind fun y => (atI xs a).bind fun row => (oapp row y).bind fun row' => oset xs a row').bind r) out := by
  intro z hz B F M H σ D E fin
  obtain ⟨zs, e1, e2⟩ := bind_some' hz
  obtain ⟨a, e3, e1⟩ := bind_some' e1
  obtain ⟨y, e4, e1⟩ := bind_some' e1
  obtain ⟨row, e5, e1⟩ := bind_some' e1
  obtain ⟨row', e6, e1⟩ := bind_some' e1
  obtain ⟨foot, f1, f2, f3⟩ := id E.ft
  have h3 := f3 i
  rw [hx] at h3
  obtain ⟨v0, ev, ms, hO, hms⟩ := h3
  unfold atI at e5
  cases hj : ixN xs.length a with
  | none => rw [hj] at e5; cases e5
  | some j =>
    rw [hj] at e5
    have e5 : xs[j]? = some row := e5
    have hsub : subO (oLL xs) [.ix j] = some (.lst (row.map fun x => .v (em x))) := by
      show ((xs.map _)[j]?.bind fun o => subO o []) = _
      rw [List.getElem?_map, e5]
      rfl
    obtain ⟨w0, m0, R0, hat, hw0, hmem, hdis, hrep⟩ := hO.focus hsub
    obtain ⟨p, vs, w, rfl, hp, hvj, hww⟩ := hat
    cases hww
    cases hw0 with
    | @lst q ws _ mw hq hwl hqn =>
      obtain ⟨rws, rfl⟩ := OwL.vals hwl
      refine ⟨.ref p, ev, ha a e3 B F M H σ _ E fun wa F1 H1 x1 ra => ?_⟩
      have hlen : vs.length = xs.length := by
        cases hO with
        | lst h' r' _ =>
          have h' : H p = _ := h'
          rw [hp] at h'
          cases h'
          rw [r'.len, List.length_map]
      have hat : atI vs a = some (.ref q) := by
        unfold atI
        rw [hlen, hj]
        exact hvj
      refine ⟨p, vs, a, .ref q, rfl, rp_int ra, SqL.of (x1.sH _ _ hp), hat, .inl ⟨rfl, ws, SqL.of (x1.sH _ _ hq)⟩, h y e4 B F1 M H1 σ _ (E.ext x1) fun wy F2 H2 x2 ry => ?_⟩
      have X := x1.trans x2
      have E2 := E.ext X
      unfold oapp at e6
      split at e6
      · rename_i hl
        cases e6
        refine ⟨q, ws, wy, rfl, rfl, X.sH _ _ hq, Nat.lt_of_lt_of_le (by rw [rws.len, List.length_map]; exact hl) (by decide : 100000 ≤ sizeLine), ?_⟩
        have f3' : ∀ i, hold K B F2 H2 (ds[i]?.getD .no) (σ[i]?) (foot i) := fun i => (f3 i).mono X.sF (fun a o _ z => X.sH a o z) E.sF X.sub
        have hqm : q ∈ ms := (hmem q).mpr (.inl (by simp))
        have hqf : foot i q := hms q hqm
        have hmap : (row ++ [y]).map (fun x => OD.v (em x)) = row.map (fun x => OD.v (em x)) ++ [.v (em y)] := by rw [List.map_append]; rfl
        have hnew : Ow F2 (upd H2 q (.lst (ws ++ [wy]))) (.ref q) (.lst ((row ++ [y]).map fun x => .v (em x))) [q] := by
          refine .lst upd_same (OwL.ofVals ?_) List.not_mem_nil
          rw [List.map_append]
          exact (rws.mono X.sF).app (.cons ry .nil)
        obtain ⟨ms', g1, g2⟩ := hrep F2 (upd H2 q (.lst (ws ++ [wy]))) _ [q] X.sF (fun a hR u e => by
          rw [upd_ne (fun z => hdis q (by simp) (by rw [← z]; exact hR))]
          exact X.sH _ _ e) hnew (fun a z => by rw [List.mem_singleton] at z; subst z; exact hdis a (by simp))
        have hzs : setO [.ix j] (oLL xs) (.lst ((row ++ [y]).map fun x => .v (em x))) = oLL zs := by
          unfold oset at e1
          rw [hj] at e1
          cases e1
          show OD.lst _ = OD.lst _
          congr 1
          rw [List.getElem?_map, e5]
          show (xs.map _).set j (setO [] _ _) = _
          rw [List.map_set]
          rfl
        rw [hzs] at g1
        refine k zs z e2 B F2 _ _ σ D (E2.change (N := fun _ => False) hi f1 f2 f3' ev (fun a o e nf => ?_) (fun a z => ?_) (fun _ z => z.elim) (fun _ z => z.elim) (fun _ z => z.elim) ⟨ms', g1, fun a z => ?_⟩) (fin.step ⟨X.sF, fun a z => (X.new a z).imp_right .inl, fun b o z nm => ?_, fun a z => .inl (z.resolve_right fun q => q)⟩)
        · rw [upd_ne (fun z => nf (by rw [z]; exact hqf))]; exact e
        · rcases z with z | z
          · by_cases hb : a = q
            · subst hb; exact ⟨_, upd_same, fun _ z => nomatch z⟩
            · rw [upd_ne hb]
              cases e : H2 a with
              | none => exact absurd e (E2.mH a (f1 i a z))
              | some o => exact ⟨o, rfl, fun xs q => E2.mT a xs (f1 i a z) (by rw [e, q])⟩
          · exact z.elim
        · refine .inl (hms a ?_)
          rcases (g2 a).mp z with z | z
          · rw [List.mem_singleton] at z; subst z; exact hqm
          · exact (hmem a).mpr (.inr z)
        · rw [upd_ne (fun e => nm (by rw [e]; exact f1 i q hqf))]
          exact X.sH b o z
      · cases e6
/-- a new own tree -/
def EvOw (K : PySem.W.Frag) (ds : List Sl) (te : TE) (o : Option OD) : Prop := ∀ od, o = some od → ∀ B F M H σ Q, Env K B F M H σ ds →
  (∀ v ms F' H', Ext F H F' H' → Ow F' H' v od ms → (∀ a ∈ ms, F' a = none ∧ H a = none) → Q v H') → te σ H Q
theorem Ext.fresh {F H F' H' : Hp} (x : Ext F H F' H') {a : Addr} {u : HO} (hF : F a = none) (hH : H a = some u) (hu : ∀ xs, u ≠ .tup xs) : F' a = none := by
  cases z : F' a with
  | none => rfl
  | some o =>
    rcases x.new a (by rw [z]; exact fun z => nomatch z) with h | h | ⟨ts, h⟩
    · exact absurd hF h
    · rw [hH] at h; cases h
    · rw [hH] at h; exact absurd (Option.some.inj h) (hu ts)
theorem eo_L {o : Option (List α)} (h : EvL K ds te o) : EvOw K ds te (o.map fun xs => .lst (xs.map fun x => .v (em x))) := fun od hod B F M H σ Q E q => by
  cases o with
  | none => cases hod
  | some xs =>
    cases hod
    exact h xs rfl B F M H σ _ E fun p vs F' H' e h1 h2 h3 r => q (.ref p) [p] F' H' e (.lst h3 (OwL.ofVals r) List.not_mem_nil) fun a ha => by
      rw [List.mem_singleton] at ha
      subst ha
      exact ⟨h1, h2⟩
theorem sv_asgO {i : Nat} {o : Option OD} {r : OD → Option τ} (hi : i < ds.length) (h : EvOw K ds te o) (k : ∀ od, SvO K (ds.set i (.res (OwR od))) u (r od) out) : SvO K ds (tSeq (tAsg te (gName i)) u) (o.bind r) out := by
  intro x hx B F M H σ D E f
  obtain ⟨y, e1, e2⟩ := bind_some' hx
  refine h y e1 B F M H σ _ E fun v ms F' H' e hO hf => ?_
  have E' := E.ext e
  refine k y x e2 B F' _ H' _ D (E'.setres hi (N := fun a => a ∈ ms) (fun a z => none_of_same E.sB (hf a z).2) (fun a z => (hf a z).1) (fun a z w => E.mH a w (hf a z).2) (fun a z => ?_) (fun a xs z => ?_) ⟨ms, hO, fun a z => z⟩) (f.step ⟨e.sF, fun a z => (e.new a z).imp_right .inl, fun b o z _ => e.sH b o z, fun a z => z.imp_right fun z => (hf a z).2⟩)
  · obtain ⟨u, e1, _⟩ := hO.at a z
    rw [e1]; exact fun z => nomatch z
  · obtain ⟨u, e1, e2⟩ := hO.at a z
    rw [e1]; exact fun z => e2 xs (Option.some.inj z)
/-- a list of new trees, made one by one -/
theorem eo_lc {tt : TT} {wi : TI} {vs js : List Nat} {o : Option (List α)} {d1 : α → List Sl} {c : α → Option Bool} {k : α → Option OD} (hw : EvW K ds m wi o) (tg : ∀ x, Tg K m (wipeD ds vs) g js (em x) (d1 x)) (hj : ∀ i ∈ js, i ∈ vs)
    (ht : ∀ x, EvT K (d1 x) tt (c x)) (he : ∀ x, EvOw K (d1 x) te (k x)) : EvOw K ds (tLc wi g tt te vs) ((olc o c k).map OD.lst) := by
  intro od hod B F M H σ Q Ev q
  cases hy : olc o c k with
  | none => rw [hy] at hod; cases hod
  | some ys =>
    rw [hy] at hod
    cases hod
    obtain ⟨xs, e1, e2⟩ := bind_some' hy
    split at e2
    · rename_i hlen
      refine hw xs e1 B F M H σ _ Ev fun J F1 H1 vl x wk hm ra D hD => ?_
      have E1 := Ev.ext x
      have DF1 : F1 D = none := none_of_same x.sub hD
      have DB : B D = none := none_of_same E1.sB hD
      refine L2.lc_it wk (fun i H' => ∃ F' acc done todo ms, Ext F1 H1 F' H' ∧ F' D = none ∧ H' D = some (.lst acc) ∧ OwL F' H' acc done ms ∧ (∀ a ∈ ms, F' a = none ∧ H1 a = none ∧ a ≠ D) ∧ ocomp c k (xs.drop i) = some todo ∧ done ++ todo = ys) ⟨F1, [], [], ys, [], .new0 x.sub hD, DF1, upd_same, .nil, (fun a z => by cases z), e2, rfl⟩
        (fun i H' _ ⟨F', acc, dn, td, ms, xx, _⟩ => ⟨xx.sF.trans xx.sub, E1.sB.trans xx.sH⟩) ?_ ?_
      · rintro i v H' H'' hi ⟨F', acc, dn, td, ms, xx, dF, dH, ra2, hms, hk, hd⟩ ⟨rfl, hv⟩
        obtain ⟨d, hd', rd⟩ := ra.getV hv
        rw [List.getElem?_map] at hd'
        cases hy : xs[i]? with
        | none => rw [hy] at hd'; cases hd'
        | some y =>
          rw [hy] at hd'
          cases hd'
          have hdr : xs.drop i = y :: xs.drop (i + 1) := by
            have hlt := (List.getElem?_eq_some_iff.mp hy).1
            rw [List.drop_eq_getElem_cons hlt]
            rw [(List.getElem?_eq_some_iff.mp hy).2]
          rw [hdr] at hk
          simp only [ocomp] at hk
          obtain ⟨b, hb, hk⟩ := bind_some' hk
          have E2 := (E1.ext xx).wipe vs
          refine tg y B F' M H'' _ v _ E2 (rd.mono (hp_FB hm xx.sF)) fun σ2 E3 l3 o3 => ⟨wipe_eq l3 hj o3, ?_⟩
          refine ht y b hb B F' M H'' σ2 _ E3 fun F3 H3 x3 => ?_
          have keepms : ∀ {G G' : Hp}, Ext F' H'' G G' → ∀ a ∈ ms, G a = none := fun {G G'} e a ha => by
            obtain ⟨u, u1, u2⟩ := ra2.at a ha
            exact e.fresh (hms a ha).1 u1 u2
          have keepD : ∀ {G G' : Hp}, Ext F' H'' G G' → G D = none := fun {G G'} e => e.fresh dF dH (fun _ z => nomatch z)
          cases b with
          | false => exact ⟨F3, acc, dn, td, ms, xx.trans x3, keepD x3, x3.sH _ _ dH, ra2.mono x3.sF (fun a _ u e => x3.sH a u e), fun a ha => ⟨keepms x3 a ha, (hms a ha).2⟩, hk, hd⟩
          | true =>
            obtain ⟨z, hz, hk⟩ := bind_some' (show (k y).bind _ = some td from hk)
            obtain ⟨zs, hzs, hk⟩ := bind_some' hk
            cases hk
            show te σ2 H3 _
            refine he y z hz B F3 M H3 σ2 _ (E3.ext x3) fun w mw F4 H4 x4 hO hf4 => ?_
            have x34 := x3.trans x4
            have hacc : acc.length = dn.length := ra2.len
            have hle : dn.length + (z :: zs).length ≤ xs.length := by
              have h1 := congrArg List.length hd
              rw [List.length_append] at h1
              have h2 := ocomp_len e2
              omega
            have hDH3 : H3 D = some (.lst acc) := x3.sH _ _ dH
            have mwD : ∀ a ∈ mw, a ≠ D := fun a ha e => by
              have := (hf4 a ha).2
              rw [e, hDH3] at this
              cases this
            have mwms : ∀ a ∈ ms, a ∉ mw := fun a ha hb => by
              obtain ⟨u, u1, u2⟩ := ra2.at a ha
              have := (hf4 a hb).2
              rw [x3.sH _ _ u1] at this
              cases this
            refine ⟨acc, x34.sH _ _ dH, Nat.lt_of_lt_of_le (show acc.length < 100001 by simp only [List.length_cons] at hle; omega) (by decide), F4, acc ++ [w], dn ++ [z], zs, ms ++ (mw ++ []), ?_, keepD x34, upd_same, ?_, ?_, hzs, by rw [List.append_assoc]; exact hd⟩
            · have xa := xx.trans x34
              exact ⟨xa.sF, same_upd2 xa.sH hD, same_upd2 xa.sub (keepD x34), xa.new⟩
            · refine OwL.app (ra2.mono x34.sF (fun a ha u e => ?_)) (.cons (hO.mono (Same.refl _) (fun a ha u e => ?_)) .nil fun a _ => List.not_mem_nil) fun a ha z => ?_
              · rw [upd_ne (hms a ha).2.2]; exact x34.sH a u e
              · rw [upd_ne (mwD a ha)]; exact e
              · rw [List.append_nil] at z
                exact mwms a ha z
            · intro a ha
              rw [List.append_nil] at ha
              rcases List.mem_append.mp ha with ha | ha
              · exact ⟨keepms x34 a ha, (hms a ha).2⟩
              · refine ⟨(hf4 a ha).1, ?_, mwD a ha⟩
                exact none_of_same ((xx.trans x3).sH) (hf4 a ha).2
      · rintro H' ⟨F', acc, dn, td, ms, xx, dF, dH, ra2, hms, hk, hd⟩
        rw [show xs.drop xs.length = [] from List.drop_length] at hk
        cases hk
        rw [List.append_nil] at hd
        subst hd
        refine q (.ref D) (D :: ms) F' H' (x.trans xx) (.lst dH ra2 fun z => (hms D z).2.2 rfl) fun a ha => ?_
        rcases List.mem_cons.mp ha with rfl | ha
        · exact ⟨dF, none_of_same x.sH hD⟩
        · exact ⟨(hms a ha).1, none_of_same x.sH (hms a ha).2.1⟩
    · cases e2
/-- the frozen part, with some addresses of the heap -/
def addF (F H : Hp) (ms : List Addr) : Hp := fun a => if a ∈ ms then H a else F a
theorem addF_in {F H : Hp} {ms : List Addr} {a : Addr} (h : a ∈ ms) : addF F H ms a = H a := if_pos h
theorem addF_out {F H : Hp} {ms : List Addr} {a : Addr} (h : a ∉ ms) : addF F H ms a = F a := if_neg h
mutual
/-- a tree as data, where it is but lists -/
def toD : OD → Option PyData
  | .v d => some d
  | .lst xs => (toDs xs).map .list
  | _ => none
def toDs : List OD → Option (List PyData)
  | [] => some []
  | x :: xs => (toD x).bind fun d => (toDs xs).map fun ds => d :: ds
end
mutual
theorem Ow.toRp {F H G : Hp} (sF : Same F G) : ∀ {x : V} {o : OD} {ms : List Addr} {d : PyData}, (∀ a ∈ ms, G a = H a) → Ow F H x o ms → toD o = some d → Rp G x d
  | _, _, _, _, _, .v r, e => by
    cases e
    exact r.mono sF
  | _, _, _, _, k, .lst (xs := xs) h r n, e => by
    have e : (toDs xs).map PyData.list = some _ := e
    cases h2 : toDs xs with
    | none => rw [h2] at e; cases e
    | some ds =>
      rw [h2] at e
      cases e
      exact .lst (by rw [k _ (by simp)]; exact h) (OwL.toRp sF (fun a ha => k a (by simp [ha])) r h2)
  | _, _, _, _, _, .di _ _ _ _, e => by cases e
  | _, _, _, _, _, .dp _ _ _ _, e => by cases e
  | _, _, _, _, _, .ins _ _ _ _ _ _ _, e => by cases e
theorem OwL.toRp {F H G : Hp} (sF : Same F G) : ∀ {vs : List V} {xs : List OD} {ms : List Addr} {ds : List PyData}, (∀ a ∈ ms, G a = H a) → OwL F H vs xs ms → toDs xs = some ds → RpA G vs ds
  | _, _, _, _, _, .nil, e => by
    cases e
    exact .nil
  | _, _, _, _, k, .cons (o := o) (xs := xs) h r d, e => by
    have e : ((toD o).bind fun d => (toDs xs).map fun ds => d :: ds) = some _ := e
    obtain ⟨d0, h1, e⟩ := bind_some' e
    cases h2 : toDs xs with
    | none => rw [h2] at e; cases e
    | some ds0 =>
      rw [h2] at e
      cases e
      exact .cons (Ow.toRp sF (fun a ha => k a (by simp [ha])) h h1) (OwL.toRp sF (fun a ha => k a (by simp [ha])) r h2)
end
theorem toDs_vals : ∀ xs : List α, toDs (xs.map fun x => .v (em x)) = some (xs.map em)
  | [] => rfl
  | x :: xs => by
    show ((some (em x)).bind fun d => (toDs (xs.map fun x => .v (em x))).map fun ds => d :: ds) = _
    rw [toDs_vals xs]
    rfl
theorem toD_LL (xs : List (List α)) : toD (oLL xs) = some (em xs) := by
  have : ∀ xs : List (List α), toDs (xs.map fun r => OD.lst (r.map fun x => .v (em x))) = some (xs.map em) := by
    intro xs
    induction xs with
    | nil => rfl
    | cons r xs ih =>
      show (((toDs (r.map fun x => OD.v (em x))).map PyData.list).bind fun d => (toDs (xs.map fun r => OD.lst (r.map fun x => .v (em x)))).map fun ds => d :: ds) = _
      rw [toDs_vals, ih]
      rfl
  show (toDs _).map PyData.list = _
  rw [this]
  rfl
theorem ev_ow {i : Nat} {od : OD} (y : α) (h : ds[i]? = some (.res (OwR od))) (hd : toD od = some (em y)) : EvO K ds .h (tVar i) (some y) := by
  intro x hx B F M H σ Q E q
  cases hx
  obtain ⟨_, _, v, e, ms, hO, _⟩ := E.at h
  exact ⟨v, e, q v F H (Ext.refl E.sF) (hO.toRp E.sF (fun _ _ => rfl) hd)⟩
/-- an own tree of lists is frozen -/
theorem sv_frozeO {i : Nat} {od : OD} {y : α} {o : Option τ} (hi : i < ds.length) (hx : ds[i]? = some (.res (OwR od))) (hd : toD od = some (em y)) (k : SvO K (ds.set i (.val (em y))) u o out) : SvO K ds u o out := by
  intro x hx2 B F M H σ D E fin
  obtain ⟨len, sB, sF, mB, mF, mH, mT, foot, f1, f2, f3⟩ := E
  have h3 := f3 i
  rw [hx] at h3
  obtain ⟨v, e, ms, hO, hm⟩ := h3
  have hF : ∀ a ∈ ms, F a = none := fun a ha => mF a (f1 i a (hm a ha))
  have sFG : Same F (addF F H ms) := fun a o z => by
    rw [addF_out fun w => by rw [hF a w] at z; cases z]; exact z
  have sG : Same (addF F H ms) H := fun a o z => by
    by_cases hb : a ∈ ms
    · rw [addF_in hb] at z; exact z
    · rw [addF_out hb] at z; exact sF a o z
  refine k x hx2 B (addF F H ms) (fun a => M a ∧ a ∉ ms) H σ D ⟨by rw [List.length_set, len], sB, sG, fun a z => mB a z.1, fun a z => by rw [addF_out z.2]; exact mF a z.1, fun a z => mH a z.1, fun a xs z => mT a xs z.1, fun j a => foot j a ∧ j ≠ i, fun j a z => ⟨f1 j a z.1, fun q => z.2 (f2 j i a z.1 (hm a q))⟩, fun j k a z1 z2 => f2 j k a z1.1 z2.1, fun j => ?_⟩
    (fin.step ⟨sFG, fun a z => ?_, fun b o z _ => z, fun a z => .inl z.1⟩)
  · rw [getD_set ds i j _ hi]
    by_cases h : j = i
    · subst h
      rw [if_pos rfl]
      exact ⟨v, e, hO.toRp sFG (fun a ha => addF_in ha) hd⟩
    · rw [if_neg h]
      have q := (f3 j).mono sFG (fun a o _ z => z) sF sG
      have : (fun a => foot j a ∧ j ≠ i) = foot j := by
        funext a
        simp [h]
      show hold K B (addF F H ms) H (ds[j]?.getD Sl.no) σ[j]? (fun a => foot j a ∧ j ≠ i)
      rw [this]
      exact q
  · by_cases ha : a ∈ ms
    · exact .inr (.inr (f1 i a (hm a ha)))
    · rw [addF_out ha] at z; exact .inl z
/-- an own tree handed out -/
theorem sv_retOw {i : Nat} {od : OD} {w : β → τ} {y : β} (hx : ds[i]? = some (.res (OwR od))) (ho : out (w y) = .rt (.res (OwR od))) : SvO K ds (tRet (tVar i)) (some (w y)) out := by
  intro z hz B F M H σ D E f
  cases hz
  rw [ho] at f
  obtain ⟨len, sB, sF, mB, mF, mH, mT, foot, f1, f2, f3⟩ := E
  have h3 := f3 i
  rw [hx] at h3
  obtain ⟨v, e, ms, hO, hm⟩ := h3
  refine ⟨v, e, f F M H v .refl ⟨rfl, sB, sF, mB, mF, mH, mT, fun j a => j = 0 ∧ a ∈ ms, fun j a z => f1 i a (hm a z.2), fun j k a z1 z2 => z1.1.trans z2.1.symm, fun i => ?_⟩⟩
  cases i with
  | zero => exact ⟨v, rfl, ms, hO, fun a z => ⟨rfl, z⟩⟩
  | succ i => trivial
/-- a def that hands back a new own tree -/
def spO (K : PySem.W.Frag) {τ β : Type} (en : β → OD) (A : τ → List Ar) (f : τ → Option β) : Sp := fun vs H Q _ => ∃ F t b, Same F H ∧ AOk K F H vs (A t) ∧ f t = some b ∧
  ∀ v ms F' H', Ext F H F' H' → Ow F' H' v (en b) ms → (∀ a ∈ ms, F' a = none ∧ H a = none) → Q v H'
theorem eo_call {β : Type} {en : β → OD} {o : Option τ} {A : τ → List Ar} {f : τ → Option β} {XE : XK} (h : EvA K ds tr o A) : EvOw K ds (tCall (spO K en A f) [] XE tr) ((o.bind f).map en) := fun od hod B F M H σ Q E q => by
  cases hb : o.bind f with
  | none => rw [hb] at hod; cases hod
  | some b =>
    rw [hb] at hod
    cases hod
    obtain ⟨t, e1, e2⟩ := bind_some' hb
    refine h t e1 B F M H σ _ E fun vs F1 H1 x1 a1 => ?_
    show spO K en A f (vs ++ []) H1 Q XE
    rw [List.append_nil]
    exact ⟨F1, t, b, x1.sub, a1, e2, fun v ms F' H' x hO hf => q v ms F' H' (x1.trans x) hO fun a ha => ⟨(hf a ha).1, none_of_same x1.sH (hf a ha).2⟩⟩
end
section
variable {P : Program} {w : World} {K : PySem.W.Frag} {mg : Str → Option Value} {base : Heap} {τ β : Type}
theorem fn_tree {x qual : Str} {st : Stmt} {f : Addr} {fd : FuncData} {N ps : List Str} {k : Nat} {en : β → OD} {A : τ → List Ar} {g : τ → Option β} (F : Fun K x qual st f fd) (S : FnScope N ps (defScope st)) (hA : ∀ t, (A t).length = ps.length)
    (body : ∀ (cdv : Value) (A' : Around) (outer : List PySem.Env) (s : Shared) (H : Hp) (E : XK), Room k (A'.deeper (PyProof.Rows.envOfC qual (defScope st) s.heap.objs.size f cdv)) →
      ∃ t, PSs (cxOf CX0 P w K mg base N qual (defScope st) f cdv A' outer s H E).nox (defBody st) t ∧ ∀ z, SvO K ((A z).map Ar.sl ++ List.replicate (N.length - (A z).length) Sl.no) t (g z) fun b => .rt (.res (OwR (en b)))) : FnOk P w K mg base CX0 (k + 1) f fd ps (spO K en A g) := by
  refine F.ok S (fun vs H Q E h => ?_) (fun cdv A' outer s H vs Q E hr h => ?_)
  · obtain ⟨_, t, _, _, a, _⟩ := h
    rw [a.len, hA]
  · obtain ⟨F0, z, b, sm, a, e, q⟩ := h
    obtain ⟨t, hp, hb⟩ := body cdv A' outer s H E hr
    refine ⟨t, hp, hb z b e H F0 _ H _ _ (env_start N sm a) fun F' M' H' v st E' => ?_⟩
    obtain ⟨m, hm, v', e2, ms, hO, hms⟩ := E'.at (i := 0) rfl
    cases e2
    have e' : Ext F0 H F' H' := ⟨st.sF, fun c o z => st.keep c o z (fun h => h), E'.sF, fun c z => (st.new c z).imp_right fun h => h.resolve_right fun h => h⟩
    exact q v ms F' H' e' hO fun a ha => ⟨E'.mF a (hm a (hms a ha)), E'.mB a (hm a (hms a ha))⟩
end
end Tw
/-! New dicts with int keys: displayed, promised, sorted. -/
namespace Tw
open PySem L2
def EvDI (K : PySem.W.Frag) (ds : List Sl) (te : TE) {β : Type} [Em β] (o : Option (List (Int × β))) : Prop := ∀ kvs, o = some kvs → ∀ B F M H σ Q, Env K B F M H σ ds →
  (∀ p kv F' H', Ext F H F' H' → F' p = none → H p = none → H' p = some (diO kv) → KvR F' kv (emD kvs) → Q (.ref p) H') → te σ H Q
def spD (K : PySem.W.Frag) {τ β : Type} [Em β] (A : τ → List Ar) (f : τ → Option (List (Int × β))) : Sp := fun vs H Q _ => ∃ F t b, Same F H ∧ AOk K F H vs (A t) ∧ f t = some b ∧
  ∀ p kv F' H', Ext F H F' H' → F' p = none → H p = none → H' p = some (diO kv) → KvR F' kv (emD b) → Q (.ref p) H'
def odisp1 {β : Type} (a : Option Int) (b : Option β) : Option (List (Int × β)) := obin (fun k x => some [(k, x)]) a b
def okeysI {β : Type} (o : Option (List (Int × β))) : Option (List Int) := o.bind fun kvs => if kvs.length < 64 then some (sortI (kvs.map (·.1))) else none
section
variable {K : PySem.W.Frag} {ds es : List Sl} {ta tb tc te : TE} {tr : TA} {t u w : TS} {g : TG} {m m1 m2 : Md} {α β γ δ τ S ρ : Type} [Em α] [Em β] [Em γ] [Em δ] {out : τ → Out}
theorem ed_call {o : Option τ} {A : τ → List Ar} {f : τ → Option (List (Int × β))} {XE : XK} (h : EvA K ds tr o A) : EvDI K ds (tCall (spD K A f) [] XE tr) (o.bind f) := fun b hb B F M H σ Q E q => by
  obtain ⟨t, e1, e2⟩ := bind_some' hb
  refine h t e1 B F M H σ _ E fun vs F1 H1 x1 a1 => ?_
  show spD K A f (vs ++ []) H1 Q XE
  rw [List.append_nil]
  exact ⟨F1, t, b, x1.sub, a1, e2, fun p kv F' H' x h1 h2 h3 r => q p kv F' H' (x1.trans x) h1 (none_of_same x1.sH h2) h3 r⟩
theorem ed_disp1 {o1 : Option Int} {o2 : Option β} (h1 : EvO K ds m ta o1) (h2 : EvO K ds .f tb o2) : EvDI K ds (tDisp [(ta, tb)]) (odisp1 o1 o2) := by
  intro kvs hk B F M H σ Q E q
  obtain ⟨k, x, e1, e2, e3⟩ := obin_some hk
  cases e3
  intro p hp
  have X0 : Ext F H F (upd H p (diO [])) := Ext.new0 E.sF hp
  have E0 := E.ext X0
  refine h1 k e1 B F M _ σ _ E0 fun v F1 H1 x1 r1 => h2 x e2 B F1 M H1 σ _ (E0.ext x1) fun w F2 H2 x2 r2 => ?_
  have X := x1.trans x2
  have hp2 : H2 p = some (diO []) := X.sH _ _ upd_same
  have hF2 : F2 p = none := X.fresh (none_of_same E.sF hp) upd_same (fun _ z => nomatch z)
  refine ⟨hp2, [(Sum.inl k, w)], ?_, by show 1 ≤ 15; decide, ?_⟩
  · rw [rp_int r1]; rfl
  · have XX := X0.trans X
    refine q p [(k, w)] F2 _ ⟨XX.sF, fun b u e => ?_, fun b u e => ?_, XX.new⟩ hF2 hp upd_same (.cons r2 .nil)
    · rw [upd_ne (ne_of_none e hp)]
      exact XX.sH b u e
    · rw [upd_ne (ne_of_none e hF2)]
      exact XX.sub b u e
theorem sv_asgDI {i : Nat} {o : Option (List (Int × β))} {r : List (Int × β) → Option τ} (hi : i < ds.length) (h : EvDI K ds te o) (k : ∀ kvs : List (Int × β), SvO K (ds.set i (.di (emD kvs))) u (r kvs) out) : SvO K ds (tSeq (tAsg te (gName i)) u) (o.bind r) out := by
  intro x hx B F M H σ D E f
  obtain ⟨y, e1, e2⟩ := bind_some' hx
  refine h y e1 B F M H σ _ E fun p kv F' H' e h1 h2 h3 r => ?_
  have E' := E.ext e
  refine k y x e2 B F' _ H' _ D (E'.setnew hi (none_of_same E.sB h2) h1 (fun z => E.mH p z h2) (by rw [h3]; exact fun z => nomatch z) (fun xs => by rw [h3]; exact fun z => nomatch z) ⟨p, kv, rfl, h3, r, rfl⟩) (f.step ⟨e.sF, fun a z => (e.new a z).imp_right .inl, fun b o z _ => e.sH b o z, fun a z => ?_⟩)
  rcases z with z | rfl
  · exact .inl z
  · exact .inr h2
/-- an own dict handed out -/
theorem sv_retD {i : Nat} {kvs : List (Int × β)} {w : List (Int × β) → τ} (hi : ds[i]? = some (.di (emD kvs))) (ho : out (w kvs) = .rt (.di (emD kvs))) : SvO K ds (tRet (tVar i)) (some (w kvs)) out := by
  intro z hz B F M H σ D E f
  cases hz
  rw [ho] at f
  obtain ⟨len, sB, sF, mB, mF, mH, mT, foot, f1, f2, f3⟩ := E
  have h3 := f3 i
  rw [hi] at h3
  obtain ⟨p, vs, e, hp, r, hm⟩ := h3
  refine ⟨.ref p, e, f F M H (.ref p) .refl ⟨rfl, sB, sF, mB, mF, mH, mT, fun j a => j = 0 ∧ a = p, fun j a z => z.2 ▸ f1 i p hm, fun j k a z1 z2 => z1.1.trans z2.1.symm, fun i => ?_⟩⟩
  cases i with
  | zero => exact ⟨p, vs, rfl, hp, r, rfl, rfl⟩
  | succ i => trivial
theorem em_keysI {kv : List (Int × V)} {F : Hp} {kvs : List (Int × β)} (r : KvR F kv (emD kvs)) : kv.map (·.1) = kvs.map (·.1) := by
  rw [r.keysM]
  unfold emD
  rw [List.map_map]
  rfl
/-- sorted of a new dict's int keys -/
def rSortedDI : List V → Hp → VK → Prop := fun xs H Q => ∃ (a : Addr) (kvs : List (L2.Key × V)) (ks : List Int), xs = [.ref a] ∧ Rd H a (.dK kvs) ∧ kvs.map (·.1) = ks.map Sum.inl ∧ ks.length < 64 ∧
    ∀ (ys : List Int) (p : Addr), ys.Perm ks → ys.Pairwise (· ≤ ·) → H p = none → Q (.ref p) (upd H p (.lst (ys.map V.int)))
theorem c_sortedDI {X : Cx} (hc : X.calm = true) : CallR X (.builtin "sorted") rSortedDI := call_sortedDI hc
theorem el_sortDI {o : Option (List (Int × β))} (h : EvDI K ds te o) : EvL K ds (tCB rSortedDI (tCons te tNil)) (okeysI o) := by
  intro xs hx B F M H σ Q E q
  obtain ⟨kvs, e1, e2⟩ := bind_some' hx
  split at e2
  · rename_i hl
    cases e2
    refine h kvs e1 B F M H σ _ E fun p kv F' H' e h1 h2 h3 r => ?_
    have hk := em_keysI r
    refine ⟨p, _, kvs.map (·.1), rfl, .inl h3, ?_, by rw [List.length_map]; exact hl, fun ys n hpm hst hn => q n _ F' _ (e.trans (Ext.new0 e.sub hn)) (none_of_same e.sub hn) (none_of_same e.sH hn) upd_same ?_⟩
    · rw [List.map_map, ← hk, List.map_map]
      rfl
    · have e2 : ys = sortI (kvs.map (·.1)) := uniq_sorted (hpm.trans (perm_sortI _).symm) hst (sorted_sortI _)
      rw [e2]
      exact RpA.ofInts _
  · cases e2
end
section
variable {K : PySem.W.Frag} {ds es : List Sl} {ta tb tc te : TE} {tr : TA} {t u w : TS} {g : TG} {m m1 m2 : Md} {α β γ δ τ S ρ : Type} [Em α] [Em β] [Em γ] [Em δ] {out : τ → Out}
theorem ocomp_map {α β γ : Type} {c : α → Option Bool} {k : α → Option β} (f : β → γ) : ∀ xs : List α, ocomp c (fun x => (k x).map f) xs = (ocomp c k xs).map (List.map f)
  | [] => rfl
  | x :: xs => by
    simp only [ocomp]
    cases c x with
    | none => rfl
    | some b =>
      cases b with
      | false => exact ocomp_map f xs
      | true =>
        show ((k x).map f).bind _ = Option.map _ ((k x).bind _)
        cases k x with
        | none => rfl
        | some y =>
          show (ocomp c (fun x => (k x).map f) xs).bind _ = Option.map _ ((ocomp c k xs).bind _)
          rw [ocomp_map f xs]
          cases ocomp c k xs <;> rfl
/-- a new list of new lists -/
theorem eo_lcLL {tt : TT} {wi : TI} {vs js : List Nat} {o : Option (List α)} {d1 : α → List Sl} {c : α → Option Bool} {k : α → Option (List β)} (hw : EvW K ds m wi o) (tg : ∀ x, Tg K m (wipeD ds vs) g js (em x) (d1 x)) (hj : ∀ i ∈ js, i ∈ vs)
    (ht : ∀ x, EvT K (d1 x) tt (c x)) (he : ∀ x, EvL K (d1 x) te (k x)) : EvOw K ds (tLc wi g tt te vs) ((olc o c k).map oLL) := by
  have h := eo_lc hw tg hj ht fun x => eo_L (he x)
  have e : (olc o c fun x => (k x).map fun xs => OD.lst (xs.map fun x => .v (em x))).map OD.lst = (olc o c k).map oLL := by
    unfold olc
    cases o with
    | none => rfl
    | some xs =>
      show Option.map _ (if _ then _ else _) = Option.map _ (if _ then _ else _)
      split
      · rw [ocomp_map]
        cases ocomp c k xs <;> rfl
      · rfl
  rw [e] at h
  exact h
theorem sv_asgLL {i : Nat} {o : Option (List (List α))} {r : List (List α) → Option τ} (hi : i < ds.length) (h : EvOw K ds te (o.map oLL)) (k : ∀ xs, SvO K (ds.set i (.res (OwR (oLL xs)))) u (r xs) out) : SvO K ds (tSeq (tAsg te (gName i)) u) (o.bind r) out := by
  intro x hx B F M H σ D E f
  obtain ⟨y, e1, e2⟩ := bind_some' hx
  refine h (oLL y) (by rw [e1]; rfl) B F M H σ _ E fun v ms F' H' e hO hf => ?_
  have E' := E.ext e
  refine k y x e2 B F' _ H' _ D (E'.setres hi (N := fun a => a ∈ ms) (fun a z => none_of_same E.sB (hf a z).2) (fun a z => (hf a z).1) (fun a z w => E.mH a w (hf a z).2) (fun a z => ?_) (fun a xs z => ?_) ⟨ms, hO, fun a z => z⟩) (f.step ⟨e.sF, fun a z => (e.new a z).imp_right .inl, fun b o z _ => e.sH b o z, fun a z => z.imp_right fun z => (hf a z).2⟩)
  · obtain ⟨u, e1, _⟩ := hO.at a z
    rw [e1]; exact fun z => nomatch z
  · obtain ⟨u, e1, e2⟩ := hO.at a z
    rw [e1]; exact fun z => e2 xs (Option.some.inj z)
/-- d.get(k) -/
theorem ev_dget1I {i : Nat} {kvs : List (Int × β)} {ok : Option Int} (hx : ds[i]? = some (.di (emD kvs))) (hk : EvO K ds m tb ok) : EvO K ds .f (tDGet1 (tVar i) tb) (odgetO kvs ok) := by
  intro z hz B F M H σ Q E q
  cases ok with
  | none => cases hz
  | some kk =>
    cases hz
    obtain ⟨_, _, p0, kv0, e0, hp0, _⟩ := E.at hx
    refine ⟨.ref p0, e0, p0, rfl, .inl ⟨_, .inl hp0⟩, hk kk rfl B F M H σ _ E fun w F' H' x r => ?_⟩
    obtain ⟨_, _, p, kv, e, hp, rk, _⟩ := (E.ext x).at hx
    rw [e0] at e
    cases e
    refine ⟨_, dgetI_run hp (r.mono (hp_H (E.ext x))), q _ F' H' x ?_⟩
    have g := emD_get kvs kk
    rcases rk.get kk with ⟨a, b⟩ | ⟨v, d, a, b, rv⟩
    · rw [a]; rw [b] at g
      cases h : dget kvs kk with
      | none =>
        show Rp F' _ (em (dget kvs kk))
        rw [h]
        exact .non
      | some y => rw [h] at g; cases g
    · rw [a]; rw [b] at g
      cases h : dget kvs kk with
      | none => rw [h] at g; cases g
      | some y =>
        rw [h] at g
        cases g
        show Rp F' _ (em (dget kvs kk))
        rw [h]
        exact rv
end
section
variable {P : Program} {w : World} {K : PySem.W.Frag} {mg : Str → Option Value} {base : Heap} {τ β : Type} [Em β]
theorem fn_dict {x qual : Str} {st : Stmt} {f : Addr} {fd : FuncData} {N ps : List Str} {k : Nat} {A : τ → List Ar} {g : τ → Option (List (Int × β))} (F : Fun K x qual st f fd) (S : FnScope N ps (defScope st)) (hA : ∀ t, (A t).length = ps.length)
    (body : ∀ (cdv : Value) (A' : Around) (outer : List PySem.Env) (s : Shared) (H : Hp) (E : XK), Room k (A'.deeper (PyProof.Rows.envOfC qual (defScope st) s.heap.objs.size f cdv)) →
      ∃ t, PSs (cxOf CX0 P w K mg base N qual (defScope st) f cdv A' outer s H E).nox (defBody st) t ∧ ∀ z, SvO K ((A z).map Ar.sl ++ List.replicate (N.length - (A z).length) Sl.no) t (g z) fun b => .rt (.di (emD b))) : FnOk P w K mg base CX0 (k + 1) f fd ps (spD K A g) := by
  refine F.ok S (fun vs H Q E h => ?_) (fun cdv A' outer s H vs Q E hr h => ?_)
  · obtain ⟨_, t, _, _, a, _⟩ := h
    rw [a.len, hA]
  · obtain ⟨F0, z, b, sm, a, e, q⟩ := h
    obtain ⟨t, hp, hb⟩ := body cdv A' outer s H E hr
    refine ⟨t, hp, hb z b e H F0 _ H _ _ (env_start N sm a) fun F' M' H' v st E' => ?_⟩
    obtain ⟨m, hm, p, kv, e2, hpp, r, mp⟩ := E'.at (i := 0) rfl
    cases e2
    have hM := hm p mp
    have e' : Ext F0 H F' H' := ⟨st.sF, fun c o z => st.keep c o z (fun h => h), E'.sF, fun c z => (st.new c z).imp_right fun h => h.resolve_right fun h => h⟩
    exact q p kv F' H' e' (E'.mF p hM) (E'.mB p hM) hpp r
end
end Tw
/-! A new list, or None. -/
namespace Tw
open PySem L2
def OptR (o : Option (List PyData)) : Rs where
  h := fun F H v M => match o with
    | none => v = .non
    | some ds => ∃ p vs, v = .ref p ∧ H p = some (.lst vs) ∧ RpA F vs ds ∧ M p
  mono := fun {F H F' H' v M} sF kp s1 s2 h => by
    cases o with
    | none => exact h
    | some ds =>
      obtain ⟨p, vs, e, hp, r, hm⟩ := h
      exact ⟨p, vs, e, kp _ _ hm hp, r.mono sF, hm⟩
/-- a new list, or None -/
def EvLO (K : PySem.W.Frag) (ds : List Sl) (te : TE) {α : Type} [Em α] (o : Option (Option (List α))) : Prop := ∀ x, o = some x → ∀ B F M H σ Q, Env K B F M H σ ds →
  (∀ v F' H', Ext F H F' H' → (match x with | none => v = .non | some xs => ∃ p vs, v = .ref p ∧ F' p = none ∧ H p = none ∧ H' p = some (.lst vs) ∧ RpA F' vs (xs.map em)) → Q v H') → te σ H Q
def spLO (K : PySem.W.Frag) {τ β : Type} [Em β] (A : τ → List Ar) (f : τ → Option (Option (List β))) : Sp := fun vs H Q _ => ∃ F t b, Same F H ∧ AOk K F H vs (A t) ∧ f t = some b ∧
  ∀ v F' H', Ext F H F' H' → (match b with | none => v = .non | some xs => ∃ p ws, v = .ref p ∧ F' p = none ∧ H p = none ∧ H' p = some (.lst ws) ∧ RpA F' ws (xs.map em)) → Q v H'
section
variable {K : PySem.W.Frag} {ds es : List Sl} {ta tb tc te : TE} {tr : TA} {t u w : TS} {g : TG} {m m1 m2 : Md} {α β γ δ τ S ρ : Type} [Em α] [Em β] [Em γ] [Em δ] {out : τ → Out}
theorem elo_call {o : Option τ} {A : τ → List Ar} {f : τ → Option (Option (List β))} {XE : XK} (h : EvA K ds tr o A) : EvLO K ds (tCall (spLO K A f) [] XE tr) (o.bind f) := fun b hb B F M H σ Q E q => by
  obtain ⟨t, e1, e2⟩ := bind_some' hb
  refine h t e1 B F M H σ _ E fun vs F1 H1 x1 a1 => ?_
  show spLO K A f (vs ++ []) H1 Q XE
  rw [List.append_nil]
  refine ⟨F1, t, b, x1.sub, a1, e2, fun v F' H' x h => q v F' H' (x1.trans x) ?_⟩
  cases b with
  | none => exact h
  | some xs =>
    obtain ⟨p, ws, e, h1, h2, h3, h4⟩ := h
    exact ⟨p, ws, e, h1, none_of_same x1.sH h2, h3, h4⟩
/-- frozen -/
theorem ev_LO {o : Option (Option (List α))} (h : EvLO K ds te o) : EvO K ds .f te o := fun x hx B F M H σ Q E q =>
  h x hx B F M H σ Q E fun v F' H' e hv => by
    cases x with
    | none =>
      have hv : v = .non := hv
      subst hv
      exact q _ F' H' e .non
    | some xs =>
      obtain ⟨p, vs, rfl, h1, h2, h3, r⟩ := hv
      exact q _ _ _ (e.froze h1 h2 h3) (.lst upd_same (r.mono (same_upd h1)))
theorem sv_asgLO {i : Nat} {o : Option (Option (List α))} {r : Option (List α) → Option τ} (hi : i < ds.length) (h : EvLO K ds te o) (k : ∀ x : Option (List α), SvO K (ds.set i (.res (OptR (x.map fun xs => xs.map em)))) u (r x) out) : SvO K ds (tSeq (tAsg te (gName i)) u) (o.bind r) out := by
  intro z hz B F M H σ D E f
  obtain ⟨y, e1, e2⟩ := bind_some' hz
  refine h y e1 B F M H σ _ E fun v F' H' e hv => ?_
  have E' := E.ext e
  cases y with
  | none =>
    have hv : v = .non := hv
    refine k none z e2 B F' _ H' _ D (E'.setres hi (N := fun _ => False) (fun _ z => z.elim) (fun _ z => z.elim) (fun _ z => z.elim) (fun _ z => z.elim) (fun _ _ z => z.elim) hv) (f.step ⟨e.sF, fun a z => (e.new a z).imp_right .inl, fun b o z _ => e.sH b o z, fun a z => .inl (z.resolve_right fun q => q)⟩)
  | some xs =>
    obtain ⟨p, vs, rfl, h1, h2, h3, r⟩ := hv
    refine k (some xs) z e2 B F' _ H' _ D (E'.setres hi (N := fun a => a = p) (fun a z => z ▸ none_of_same E.sB h2) (fun a z => z ▸ h1) (fun a z w => E.mH p (z ▸ w) h2) (fun a z => by rw [z, h3]; exact fun z => nomatch z) (fun a xs z => by rw [z, h3]; exact fun z => nomatch z) ⟨p, vs, rfl, h3, r, rfl⟩) (f.step ⟨e.sF, fun a z => (e.new a z).imp_right .inl, fun b o z _ => e.sH b o z, fun a z => ?_⟩)
    rcases z with z | rfl
    · exact .inl z
    · exact .inr h2
theorem ev_opt {i : Nat} (x : Option (List α)) (h : ds[i]? = some (.res (OptR (x.map fun xs => xs.map em)))) : EvO K ds .h (tVar i) (some x) := by
  intro y hy B F M H σ Q E q
  cases hy
  obtain ⟨m, _, v, e, hv⟩ := E.at h
  cases x with
  | none =>
    have hv : v = .non := hv
    subst hv
    exact ⟨.non, e, q _ F H (Ext.refl E.sF) .non⟩
  | some xs =>
    obtain ⟨p, vs, rfl, hp, r, _⟩ := hv
    exact ⟨.ref p, e, q _ F H (Ext.refl E.sF) (.lst hp (r.mono E.sF))⟩
theorem sv_appOpt {i : Nat} {x : Option (List α)} {o : Option α} {r : Option (List α) → Option τ} (hi : i < ds.length) (hx : ds[i]? = some (.res (OptR (x.map fun xs => xs.map em)))) (h : EvO K ds .f te o) (k : ∀ z : Option (List α), SvO K (ds.set i (.res (OptR (z.map fun xs => xs.map em)))) u (r z) out) :
    SvO K ds (tSeq (tDrop (tBM K "list" rAppend (tVar i) (tCons te tNil))) u) ((o.bind fun y => x.bind fun xs => (oapp xs y).map some).bind r) out := by
  intro z hz B F M H σ D E fin
  obtain ⟨zs, e1, e2⟩ := bind_some' hz
  obtain ⟨y, e3, e4⟩ := bind_some' e1
  cases x with
  | none => cases e4
  | some xs =>
    obtain ⟨foot, f1, f2, f3⟩ := id E.ft
    have h3 := f3 i
    rw [hx] at h3
    obtain ⟨v0, ev, p, vs, rfl, hp, r1, hm⟩ := h3
    refine ⟨.ref p, ev, .inl ⟨rfl, _, SqL.of hp⟩, h y e3 B F M H σ _ E fun v F' H' x r2 => ?_⟩
    have e4 : (oapp xs y).map some = some zs := e4
    unfold oapp at e4
    split at e4
    · rename_i hl
      cases e4
      have E' := E.ext x
      have f3' : ∀ i, hold K B F' H' (ds[i]?.getD .no) (σ[i]?) (foot i) := fun i => (f3 i).mono x.sF (fun a o _ z => x.sH a o z) E.sF x.sub
      refine ⟨p, vs, v, rfl, rfl, x.sH _ _ hp, Nat.lt_of_lt_of_le (by rw [r1.len, List.length_map]; exact hl) (by decide : 100000 ≤ sizeLine), ?_⟩
      have r3 : RpA F' (vs ++ [v]) ((xs ++ [y]).map em) := by
        rw [List.map_append]
        exact (r1.mono x.sF).app (.cons r2 .nil)
      refine k (some (xs ++ [y])) z e2 B F' M _ σ D (E'.ch2 f1 f2 f3' hi ev hm ⟨p, _, rfl, upd_same, r3, hm⟩) (fin.step ⟨x.sF, fun a z => (x.new a z).imp_right .inl, fun b o z nm => ?_, fun a z => .inl z⟩)
      rw [upd_ne fun q => nm (by rw [q]; exact f1 i p hm)]
      exact x.sH b o z
    · cases e4
theorem sv_setOpt {i : Nat} {x : Option (List α)} {o : Option α} {oi : Option Int} {r : Option (List α) → Option τ} (hi : i < ds.length) (hx : ds[i]? = some (.res (OptR (x.map fun xs => xs.map em)))) (h : EvO K ds .f te o) (h2 : EvO K ds m2 tb oi) (k : ∀ z : Option (List α), SvO K (ds.set i (.res (OptR (z.map fun xs => xs.map em)))) u (r z) out) :
    SvO K ds (tSeq (tAsg te (gSub (tVar i) tb rSetL)) u) ((o.bind fun y => oi.bind fun j => x.bind fun xs => (oset xs j y).map some).bind r) out := by
  intro z hz B F M H σ D E fin
  obtain ⟨ys, e1, e2⟩ := bind_some' hz
  obtain ⟨y, e3, e4⟩ := bind_some' e1
  obtain ⟨jj, e5, e6⟩ := bind_some' e4
  cases x with
  | none => cases e6
  | some xs =>
    obtain ⟨foot, f1, f2, f3⟩ := id E.ft
    have h3 := f3 i
    rw [hx] at h3
    obtain ⟨v0, ev, p, vs, rfl, hp, r1, hm⟩ := h3
    refine h y e3 B F M H σ _ E fun v F' H' x r2 => ⟨.ref p, ev, h2 jj e5 B F' M H' σ _ (E.ext x) fun w F2 H2 x2 r4 => ?_⟩
    have e6 : (oset xs jj y).map some = some ys := e6
    unfold oset at e6
    cases hj : ixN xs.length jj with
    | none => rw [hj] at e6; cases e6
    | some j =>
      rw [hj] at e6
      cases e6
      have xx := x.trans x2
      have E' := E.ext xx
      have hp' := xx.sH _ _ hp
      have f3' : ∀ i, hold K B F2 H2 (ds[i]?.getD .no) (σ[i]?) (foot i) := fun i => (f3 i).mono xx.sF (fun a o _ z => xx.sH a o z) E.sF xx.sub
      refine ⟨p, vs, jj, j, rfl, rp_int r4, hp', by rw [r1.len, List.length_map]; exact hj, ?_⟩
      have r3 : RpA F2 (vs.set j v) ((xs.set j y).map em) := by
        rw [List.map_set]
        exact (r1.mono xx.sF).set (r2.mono x2.sF) j
      refine k (some (xs.set j y)) z e2 B F2 M _ σ D (E'.ch2 f1 f2 f3' hi ev hm ⟨p, _, rfl, upd_same, r3, hm⟩) (fin.step ⟨xx.sF, fun a z => (xx.new a z).imp_right .inl, fun b o z nm => ?_, fun a z => .inl z⟩)
      rw [upd_ne fun q => nm (by rw [q]; exact f1 i p hm)]
      exact xx.sH b o z
theorem sv_retN {w : Option (List α) → τ} (ho : out (w none) = .rt (.res (OptR none))) : SvO K ds (tRet (tC .non)) (some (w none)) out := by
  intro z hz B F M H σ D E f
  cases hz
  rw [ho] at f
  obtain ⟨len, sB, sF, mB, mF, mH, mT, foot, f1, f2, f3⟩ := E
  refine f F M H .non .refl ⟨rfl, sB, sF, mB, mF, mH, mT, fun _ _ => False, fun _ _ z => z.elim, fun _ _ _ z => z.elim, fun i => ?_⟩
  cases i with
  | zero => exact ⟨.non, rfl, rfl⟩
  | succ i => trivial
theorem sv_retOO {i : Nat} {xs : List α} {w : Option (List α) → τ} (hi : ds[i]? = some (.own (xs.map em))) (ho : out (w (some xs)) = .rt (.res (OptR (some (xs.map em))))) : SvO K ds (tRet (tVar i)) (some (w (some xs))) out := by
  intro z hz B F M H σ D E f
  cases hz
  rw [ho] at f
  obtain ⟨len, sB, sF, mB, mF, mH, mT, foot, f1, f2, f3⟩ := E
  have h3 := f3 i
  rw [hi] at h3
  obtain ⟨p, vs, e, hp, r, hm⟩ := h3
  refine ⟨.ref p, e, f F M H (.ref p) .refl ⟨rfl, sB, sF, mB, mF, mH, mT, fun j a => j = 0 ∧ a = p, fun j a z => z.2 ▸ f1 i p hm, fun j k a z1 z2 => z1.1.trans z2.1.symm, fun i => ?_⟩⟩
  cases i with
  | zero => exact ⟨.ref p, rfl, p, vs, rfl, hp, r, rfl, rfl⟩
  | succ i => trivial
end
section
variable {P : Program} {w : World} {K : PySem.W.Frag} {mg : Str → Option Value} {base : Heap} {τ β : Type} [Em β]
theorem fn_opt {x qual : Str} {st : Stmt} {f : Addr} {fd : FuncData} {N ps : List Str} {k : Nat} {A : τ → List Ar} {g : τ → Option (Option (List β))} (F : Fun K x qual st f fd) (S : FnScope N ps (defScope st)) (hA : ∀ t, (A t).length = ps.length)
    (body : ∀ (cdv : Value) (A' : Around) (outer : List PySem.Env) (s : Shared) (H : Hp) (E : XK), Room k (A'.deeper (PyProof.Rows.envOfC qual (defScope st) s.heap.objs.size f cdv)) →
      ∃ t, PSs (cxOf CX0 P w K mg base N qual (defScope st) f cdv A' outer s H E).nox (defBody st) t ∧ ∀ z, SvO K ((A z).map Ar.sl ++ List.replicate (N.length - (A z).length) Sl.no) t (g z) fun b => .rt (.res (OptR (b.map fun xs => xs.map em)))) : FnOk P w K mg base CX0 (k + 1) f fd ps (spLO K A g) := by
  refine F.ok S (fun vs H Q E h => ?_) (fun cdv A' outer s H vs Q E hr h => ?_)
  · obtain ⟨_, t, _, _, a, _⟩ := h
    rw [a.len, hA]
  · obtain ⟨F0, z, b, sm, a, e, q⟩ := h
    obtain ⟨t, hp, hb⟩ := body cdv A' outer s H E hr
    refine ⟨t, hp, hb z b e H F0 _ H _ _ (env_start N sm a) fun F' M' H' v st E' => ?_⟩
    obtain ⟨m, hm, v', e2, hv⟩ := E'.at (i := 0) rfl
    cases e2
    have e' : Ext F0 H F' H' := ⟨st.sF, fun c o z => st.keep c o z (fun h => h), E'.sF, fun c z => (st.new c z).imp_right fun h => h.resolve_right fun h => h⟩
    refine q v F' H' e' ?_
    cases b with
    | none => exact hv
    | some xs =>
      obtain ⟨p, ws, rfl, hpp, r, mp⟩ := hv
      have hM := hm p mp
      exact ⟨p, ws, rfl, E'.mF p hM, E'.mB p hM, hpp, r⟩
end
end Tw
/-! ## mirrors of law_k05_a_shortest_way -/
namespace Tw
open PySem L2
def m_count (cell0 : Int) : Option Int :=
  (oite (oeq (omod (some cell0) (some (4 : Int))) (some (3 : Int)))
  (oadd (some (1 : Int)) (omod (ofdiv (some cell0) (some (4 : Int))) (some (200 : Int))))
  (oadd (some (1 : Int)) (omod (ofdiv (some cell0) (some (4 : Int))) (some (12 : Int)))))
def u_count (t : Int × Unit) : Option Int := m_count (t.1)
def m_digits (cell0 : Int) (base0 : Int) (many0 : Int) : Option (List Int) :=
  (Option.bind (some ([] : List Int)) fun (row1 : (List Int)) =>
  (Option.bind (orange1 (some many0)) fun xs => after (loopM (fun (s2 : (Int × (List Int))) (x3 : Int) => (
  (Option.bind (Option.bind (omod (some s2.1) (some base0)) fun x => oapp s2.2 x) fun (row4 : List Int) =>
  (Option.bind (ofdiv (some s2.1) (some base0)) fun (cell5 : Int) =>
  (some (.nx (cell5, row4))))) : Option (Flow (Int × (List Int)) (List Int)))) xs (cell0, row1)) (fun (s2 : (Int × (List Int))) =>
  (some s2.2)) (fun r => some r)))
def u_digits (t : Int × Int × Int × Unit) : Option (List Int) := m_digits (t.1) (t.2.1) (t.2.2.1)
def m_ties (cells0 : (List Int)) (n0 : Int) (most0 : Int) : Option (List (Int × Int)) :=
  (Option.bind (some ([] : List (Int × Int))) fun (tieshere1 : (List (Int × Int))) =>
  (Option.bind (orange1 (olen (some cells0))) fun xs => after (loopM (fun (s2 : (List (Int × Int))) (x3 : Int) => (
  (Option.bind (omod (oix (some cells0) (some x3)) (some n0)) fun (a4 : Int) =>
  (Option.bind (omod (oadd (oadd (ofdiv (oix (some cells0) (some x3)) (some n0)) (omul (some (7 : Int)) (some x3))) (some (1 : Int))) (some n0)) fun (b5 : Int) =>
  (Option.bind (otup2 (omin2 (some a4) (some b5)) (omax2 (some a4) (some b5))) fun (tie6 : (Int × Int)) =>
  (oite (oand (one (some a4) (some b5)) (oand (onind (some tie6) (some s2)) (olt (olen (some s2)) (some most0))))
  (Option.bind (Option.bind (some tie6) fun x => oapp s2 x) fun (tieshere7 : List (Int × Int)) =>
  (some (.nx tieshere7)))
  (some (.nx s2)))))) : Option (Flow (List (Int × Int)) (List (Int × Int))))) xs tieshere1) (fun (s2 : (List (Int × Int))) =>
  (some s2)) (fun r => some r)))
def u_ties (t : (List Int) × Int × Int × Unit) : Option (List (Int × Int)) := m_ties (t.1) (t.2.1) (t.2.2.1)
def m_cellat (script0 : List Int) (k0 : Int) : Option Int :=
  (oite (olt (some k0) (some (script0.length : Int)))
  (oix (some script0) (some k0))
  (some (0 : Int)))
def u_cellat (t : List Int × Int × Unit) : Option Int := m_cellat (t.1) (t.2.1)
def m_net (script0 : List Int) (n0 : Int) : Option (List (Int × Int)) :=
  (oite (oeq (omod (Option.bind (oarg (some script0) (oarg (some (0 : Int)) (some ()))) u_cellat) (some (2 : Int))) (some (1 : Int)))
  (Option.bind (oarg (ocut (some script0) (Option.map some (some (1 : Int))) (Option.map some (some (63 : Int)))) (oarg (some n0) (oarg (some (40 : Int)) (some ())))) u_ties)
  (Option.bind (some ([] : List (Int × Int))) fun (tieshere1 : (List (Int × Int))) =>
  (Option.bind (Option.bind (oarg (Option.bind (oarg (some script0) (oarg (some (1 : Int)) (some ()))) u_cellat) (oarg (omul (some n0) (some n0)) (oarg (omod (Option.bind (oarg (some script0) (oarg (some (2 : Int)) (some ()))) u_cellat) (some (41 : Int))) (some ())))) u_digits) fun xs => after (loopM (fun (s2 : (List (Int × Int))) (x3 : Int) => (
  (Option.bind (otup2 (omin2 (ofdiv (some x3) (some n0)) (omod (some x3) (some n0))) (omax2 (ofdiv (some x3) (some n0)) (omod (some x3) (some n0)))) fun (tie4 : (Int × Int)) =>
  (oite (oand (one (Option.map (fun z => z.1) (some tie4)) (Option.map (fun z => z.2) (some tie4))) (onind (some tie4) (some s2)))
  (Option.bind (Option.bind (some tie4) fun x => oapp s2 x) fun (tieshere5 : List (Int × Int)) =>
  (some (.nx tieshere5)))
  (some (.nx s2)))) : Option (Flow (List (Int × Int)) (List (Int × Int))))) xs tieshere1) (fun (s2 : (List (Int × Int))) =>
  (some s2)) (fun r => some r))))
def u_net (t : List Int × Int × Unit) : Option (List (Int × Int)) := m_net (t.1) (t.2.1)
def m_neighbours (n0 : Int) (ties0 : (List (Int × Int))) : Option (List (List Int)) :=
  (Option.bind (olc (orange1 (some n0)) (fun (x1 : Int) => (some true)) (fun (x1 : Int) => (some ([] : List Int)))) fun (near2 : (List (List Int))) =>
  (Option.bind (some ties0) fun xs => after (loopM (fun (s3 : (List (List Int))) (x4 : (Int × Int)) => (
  (Option.bind (Option.bind (some x4.1) fun a => Option.bind (some x4.2) fun y => Option.bind (atI s3 a) fun row => Option.bind (oapp row y) fun row' => oset s3 a row') fun (near5 : (List (List Int))) =>
  (Option.bind (Option.bind (some x4.2) fun a => Option.bind (some x4.1) fun y => Option.bind (atI near5 a) fun row => Option.bind (oapp row y) fun row' => oset near5 a row') fun (near6 : (List (List Int))) =>
  (some (.nx near6)))) : Option (Flow (List (List Int)) (List (List Int))))) xs near2) (fun (s3 : (List (List Int))) =>
  (some s3)) (fun r => some r)))
def u_neighbours (t : Int × (List (Int × Int)) × Unit) : Option (List (List Int)) := m_neighbours (t.1) (t.2.1)
def m_reached (near0 : (List (List Int))) (a0 : Int) : Option (List (Int × Int)) :=
  (Option.bind (odisp1 (some a0) (some (0 : Int))) fun (far1 : (List (Int × Int))) =>
  (Option.bind (ocons (some a0) (some ([] : List Int))) fun (waiting2 : (List Int)) =>
  (Option.bind (some (0 : Int)) fun (k3 : Int) =>
  (after (whileM (fun (s4 : ((List (Int × Int)) × ((List Int) × Int))) => (olt (some s4.2.2) (olen (some s4.2.1)))) (fun (s4 : ((List (Int × Int)) × ((List Int) × Int))) => (
  (Option.bind (oix (some s4.2.1) (some s4.2.2)) fun (here5 : Int) =>
  (Option.bind (oix (some near0) (some here5)) fun xs => after (loopM (fun (s6 : ((List (Int × Int)) × (List Int))) (x7 : Int) => (
  (oite (odnin (some x7) s6.1)
  (Option.bind (Option.bind (oadd (odget s6.1 (some here5)) (some (1 : Int))) fun x => Option.bind (some x7) fun k => odput s6.1 k x) fun (far8 : (List (Int × Int))) =>
  (Option.bind (Option.bind (some x7) fun x => oapp s6.2 x) fun (waiting9 : List Int) =>
  (some (.nx (far8, waiting9)))))
  (some (.nx (s6.1, s6.2)))) : Option (Flow ((List (Int × Int)) × (List Int)) (List (Int × Int))))) xs (s4.1, s4.2.1)) (fun (s6 : ((List (Int × Int)) × (List Int))) =>
  (Option.bind (Option.map (fun y => s4.2.2 + y) (some (1 : Int))) fun (k10 : Int) =>
  (some (.nx (s6.1, s6.2, k10))))) (fun r => some (Flow.dn r)))) : Option (Flow ((List (Int × Int)) × ((List Int) × Int)) (List (Int × Int))))) fuel (far1, waiting2, k3)) (fun (s4 : ((List (Int × Int)) × ((List Int) × Int))) =>
  (some s4.1)) (fun r => some r)))))
def u_reached (t : (List (List Int)) × Int × Unit) : Option (List (Int × Int)) := m_reached (t.1) (t.2.1)
def m_shortest (n0 : Int) (ties0 : (List (Int × Int))) (a0 : Int) (b0 : Int) : Option (Option (List Int)) :=
  (Option.bind (Option.bind (oarg (some n0) (oarg (some ties0) (some ()))) u_neighbours) fun (near1 : (List (List Int))) =>
  (Option.bind (Option.bind (oarg (some near1) (oarg (some b0) (some ()))) u_reached) fun (far2 : (List (Int × Int))) =>
  (oite (odnin (some a0) far2)
  (some (none : Option (List Int)))
  (Option.bind (ocons (some a0) (some ([] : List Int))) fun (way3 : (List Int)) =>
  (after (whileM (fun (s4 : (List Int)) => (one (oix (some s4) (oneg (some (1 : Int)))) (some b0))) (fun (s4 : (List Int)) => (
  (Option.bind (oix (some near1) (oix (some s4) (oneg (some (1 : Int))))) fun xs => after (loopM (fun (s5 : (List Int)) (x6 : Int) => (
  (oite (olt (odget far2 (some x6)) (odget far2 (oix (some s5) (oneg (some (1 : Int))))))
  (Option.bind (Option.bind (some x6) fun x => oapp s5 x) fun (way7 : List Int) =>
  (some (.bk way7)))
  (some (.nx s5))) : Option (Flow (List Int) (Option (List Int))))) xs s4) (fun (s5 : (List Int)) =>
  (some (.nx s5))) (fun r => some (Flow.dn r))) : Option (Flow (List Int) (Option (List Int))))) fuel way3) (fun (s4 : (List Int)) =>
  (some (some s4))) (fun r => some r))))))
def u_shortest (t : Int × (List (Int × Int)) × Int × Int × Unit) : Option (Option (List Int)) := m_shortest (t.1) (t.2.1) (t.2.2.1) (t.2.2.2.1)
def m_far (tieshere0 : (List (Int × Int))) (a0 : Int) (b0 : Int) : Option (Option Int) :=
  (Option.bind (some (0 : Int)) fun (farhere1 : Int) =>
  (Option.bind (odisp1 (some a0) (some true)) fun (known2 : (List (Int × Bool))) =>
  (after (whileM (fun (s3 : (Int × (List (Int × Bool)))) => (odnin (some b0) s3.2)) (fun (s3 : (Int × (List (Int × Bool)))) => (
  (Option.bind (olc (ocat (some tieshere0) (olc (some tieshere0) (fun (x4 : (Int × Int)) => (some true)) (fun (x4 : (Int × Int)) => (otup2 (some x4.2) (some x4.1))))) (fun (x5 : (Int × Int)) => (oand (odin (some x5.1) s3.2) (odnin (some x5.2) s3.2))) (fun (x5 : (Int × Int)) => (some x5.2))) fun (more6 : (List Int)) =>
  (oite (oeqd (some more6) (some ([] : List Int)))
  (Option.map Flow.dn (some (none : (Option Int))))
  (Option.bind (some more6) fun xs => after (loopM (fun (s7 : (List (Int × Bool))) (x8 : Int) => (
  (Option.bind (Option.bind (some true) fun x => Option.bind (some x8) fun k => odput s7 k x) fun (known9 : (List (Int × Bool))) =>
  (some (.nx known9))) : Option (Flow (List (Int × Bool)) (Option Int)))) xs s3.2) (fun (s7 : (List (Int × Bool))) =>
  (Option.bind (Option.map (fun y => s3.1 + y) (some (1 : Int))) fun (farhere10 : Int) =>
  (some (.nx (farhere10, s7))))) (fun r => some (Flow.dn r))))) : Option (Flow (Int × (List (Int × Bool))) (Option Int)))) fuel (farhere1, known2)) (fun (s3 : (Int × (List (Int × Bool)))) =>
  (Option.map some (some s3.1))) (fun r => some r))))
def u_far (t : (List (Int × Int)) × Int × Int × Unit) : Option (Option Int) := m_far (t.1) (t.2.1) (t.2.2.1)
def m_whole (found0 : Int) : Option Bool :=
  (oand (oisi "int" (some found0)) (onot (oisi "bool" (some found0))))
def u_whole (t : Int × Unit) : Option Bool := m_whole (t.1)
def m_good (found0 : (Option (List Int))) (tieshere0 : (List (Int × Int))) (farhere0 : (Option Int)) (a0 : Int) (b0 : Int) : Option Bool :=
  (oite (oisN (some farhere0))
  (oisN (some found0))
  (oite (oor (onot (oisi "list" (some found0))) (oor (one (olen (Option.bind (some found0) id)) (oadd (Option.bind (some farhere0) id) (some (1 : Int)))) (onot (oall (olc (Option.bind (some found0) id) (fun (x1 : Int) => (some true)) (fun (x1 : Int) => (Option.bind (oarg (some x1) (some ())) u_whole)))))))
  (some false)
  (Option.bind (orange1 (Option.bind (some farhere0) id)) fun xs => after (loopM (fun (s2 : Unit) (x3 : Int) => (
  (oite (onind (otup2 (omin2 (oix (Option.bind (some found0) id) (some x3)) (oix (Option.bind (some found0) id) (oadd (some x3) (some (1 : Int))))) (omax2 (oix (Option.bind (some found0) id) (some x3)) (oix (Option.bind (some found0) id) (oadd (some x3) (some (1 : Int)))))) (some tieshere0))
  (Option.map Flow.dn (some false))
  (some (.nx ()))) : Option (Flow Unit Bool))) xs ()) (fun (s2 : Unit) =>
  (oand (oeq (oix (Option.bind (some found0) id) (some (0 : Int))) (some a0)) (oeq (oix (Option.bind (some found0) id) (oneg (some (1 : Int)))) (some b0)))) (fun r => some r))))
def u_good (t : (Option (List Int)) × (List (Int × Int)) × (Option Int) × Int × Int × Unit) : Option Bool := m_good (t.1) (t.2.1) (t.2.2.1) (t.2.2.2.1) (t.2.2.2.2.1)
def m_law (script0 : List Int) : Option Bool :=
  (Option.bind (Option.bind (oarg (ofdiv (Option.bind (oarg (some script0) (oarg (some (0 : Int)) (some ()))) u_cellat) (some (2 : Int))) (some ())) u_count) fun (n1 : Int) =>
  (Option.bind (Option.bind (oarg (some script0) (oarg (some n1) (some ()))) u_net) fun (tieshere2 : (List (Int × Int))) =>
  (Option.bind (ocut (ocut (some tieshere2) (Option.map some (ofdiv (olen (some tieshere2)) (some (2 : Int)))) (some none)) (some none) (Option.map some (some (1 : Int)))) fun (pairs3 : (List (Int × Int))) =>
  (Option.bind (orange1 (some (4 : Int))) fun xs => after (loopM (fun (s4 : (List (Int × Int))) (x5 : Int) => (
  (Option.bind (Option.bind (oarg (some script0) (oarg (oadd (some (3 : Int)) (some x5)) (some ()))) u_cellat) fun (cell6 : Int) =>
  (Option.bind (omod (oadd (ofdiv (some cell6) (some (5 : Int))) (omul (some (3 : Int)) (some x5))) (some n1)) fun (a7 : Int) =>
  (Option.bind (omod (oadd (oadd (ofdiv (some cell6) (omul (some (5 : Int)) (some n1))) (omul (some (2 : Int)) (some x5))) (some (1 : Int))) (some n1)) fun (b8 : Int) =>
  (Option.bind (oite (oeq (omod (some cell6) (some (5 : Int))) (some (4 : Int)))
  (Option.bind (some a7) fun (b10 : Int) =>
  (some b10))
  (some b8)) fun (s9 : Int) =>
  (Option.bind (Option.bind (otup2 (some a7) (some s9)) fun x => oapp s4 x) fun (pairs11 : List (Int × Int)) =>
  (some (.nx pairs11))))))) : Option (Flow (List (Int × Int)) Bool))) xs pairs3) (fun (s4 : (List (Int × Int))) =>
  (Option.bind (some s4) fun xs => after (loopM (fun (s12 : Unit) (x13 : (Int × Int)) => (
  (Option.bind (some tieshere2) fun (handed14 : (List (Int × Int))) =>
  (Option.bind (Option.bind (oarg (some n1) (oarg (some handed14) (oarg (some x13.1) (oarg (some x13.2) (some ()))))) u_shortest) fun (told15 : Option (List Int)) =>
  (Option.bind (Option.bind (oarg (some tieshere2) (oarg (some x13.1) (oarg (some x13.2) (some ())))) u_far) fun (farhere16 : (Option Int)) =>
  (oite (onot (Option.bind (oarg (some told15) (oarg (some tieshere2) (oarg (some farhere16) (oarg (some x13.1) (oarg (some x13.2) (some ())))))) u_good))
  (Option.map Flow.dn (some false))
  (Option.bind (oite (onotN (some told15))
  (Option.bind (Option.bind (some x13.1) fun y => Option.bind told15 fun xs => Option.map some (oapp xs y)) fun (told18 : Option (List Int)) =>
  (Option.bind (Option.bind (oneg (some (1 : Int))) fun y => Option.bind (some (0 : Int)) fun j => Option.bind told18 fun xs => Option.map some (oset xs j y)) fun (told19 : Option (List Int)) =>
  (some ())))
  (some ())) fun (s17 : Unit) =>
  (Option.bind (Option.bind (oarg (some n1) (oarg (some handed14) (oarg (some x13.1) (oarg (some x13.2) (some ()))))) u_shortest) fun (again20 : (Option (List Int))) =>
  (oite (oor (onot (Option.bind (oarg (some again20) (oarg (some tieshere2) (oarg (some farhere16) (oarg (some x13.1) (oarg (some x13.2) (some ())))))) u_good)) (oned (some handed14) (some tieshere2)))
  (Option.map Flow.dn (some false))
  (some (.nx ()))))))))) : Option (Flow Unit Bool))) xs ()) (fun (s12 : Unit) =>
  (some true)) (fun r => some r))) (fun r => some r)))))
def u_law (t : List Int × Unit) : Option Bool := m_law (t.1)
end Tw
namespace Tw
open PySem L2
def top (i : Nat) : Stmt := PySem.Challenge.pw_tiewood_k05_a_shortest_way.main.body.getD i (.Pass ⟨0, 0, 0, 0⟩)
/-! ### count -/
abbrev s_count : Stmt := top 7
abbrev N_count : List Str := ["_law_cell"]
abbrev P_count : List Str := ["_law_cell"]
def A_count (t : Int × Unit) : List Ar := [.f (em t.1)]
/-! ### digits -/
abbrev s_digits : Stmt := top 9
abbrev N_digits : List Str := ["_law_cell", "_law_base", "_law_many", "_law_row", "_law_k"]
abbrev P_digits : List Str := ["_law_cell", "_law_base", "_law_many"]
def A_digits (t : Int × Int × Int × Unit) : List Ar := [.f (em t.1), .f (em t.2.1), .f (em t.2.2.1)]
/-! ### ties -/
abbrev s_ties : Stmt := top 8
abbrev N_ties : List Str := ["_law_cells", "_law_n", "_law_most", "_law_ties_here", "_law_k", "_law_a", "_law_b", "_law_tie"]
abbrev P_ties : List Str := ["_law_cells", "_law_n", "_law_most"]
def A_ties (t : (List Int) × Int × Int × Unit) : List Ar := [.r (em t.1), .f (em t.2.1), .f (em t.2.2.1)]
/-! ### cellat -/
abbrev s_cellat : Stmt := top 5
abbrev N_cellat : List Str := ["_law_script", "_law_k"]
abbrev P_cellat : List Str := ["_law_script", "_law_k"]
def A_cellat (t : List Int × Int × Unit) : List Ar := [.s t.1, .f (em t.2.1)]
/-! ### net -/
abbrev s_net : Stmt := top 10
abbrev N_net : List Str := ["_law_script", "_law_n", "_law_ties_here", "_law_digit", "_law_tie"]
abbrev P_net : List Str := ["_law_script", "_law_n"]
def A_net (t : List Int × Int × Unit) : List Ar := [.s t.1, .f (em t.2.1)]
/-! ### neighbours -/
abbrev s_neighbours : Stmt := top 1
abbrev N_neighbours : List Str := ["n", "ties", "near", "a", "b", "k"]
abbrev P_neighbours : List Str := ["n", "ties"]
def A_neighbours (t : Int × (List (Int × Int)) × Unit) : List Ar := [.f (em t.1), .r (em t.2.1)]
/-! ### reached -/
abbrev s_reached : Stmt := top 2
abbrev N_reached : List Str := ["near", "a", "far", "waiting", "k", "here", "other"]
abbrev P_reached : List Str := ["near", "a"]
def A_reached (t : (List (List Int)) × Int × Unit) : List Ar := [.r (em t.1), .f (em t.2.1)]
/-! ### shortest -/
abbrev s_shortest : Stmt := top 3
abbrev N_shortest : List Str := ["n", "ties", "a", "b", "near", "far", "way", "other"]
abbrev P_shortest : List Str := ["n", "ties", "a", "b"]
def A_shortest (t : Int × (List (Int × Int)) × Int × Int × Unit) : List Ar := [.f (em t.1), .r (em t.2.1), .f (em t.2.2.1), .f (em t.2.2.2.1)]
/-! ### far -/
abbrev s_far : Stmt := top 11
abbrev N_far : List Str := ["_law_ties_here", "_law_a", "_law_b", "_law_far_here", "_law_known", "_law_more", "_law_y", "_law_x", "_law_c", "_law_d"]
abbrev P_far : List Str := ["_law_ties_here", "_law_a", "_law_b"]
def A_far (t : (List (Int × Int)) × Int × Int × Unit) : List Ar := [.f (em t.1), .f (em t.2.1), .f (em t.2.2.1)]
/-! ### whole -/
abbrev s_whole : Stmt := top 6
abbrev N_whole : List Str := ["_law_found"]
abbrev P_whole : List Str := ["_law_found"]
def A_whole (t : Int × Unit) : List Ar := [.f (em t.1)]
/-! ### good -/
abbrev s_good : Stmt := top 12
abbrev N_good : List Str := ["_law_found", "_law_ties_here", "_law_far_here", "_law_a", "_law_b", "_law_k", "_law_x"]
abbrev P_good : List Str := ["_law_found", "_law_ties_here", "_law_far_here", "_law_a", "_law_b"]
def A_good (t : (Option (List Int)) × (List (Int × Int)) × (Option Int) × Int × Int × Unit) : List Ar := [.r (em t.1), .r (em t.2.1), .f (em t.2.2.1), .f (em t.2.2.2.1), .f (em t.2.2.2.2.1)]
/-! ### law -/
abbrev s_law : Stmt := top 13
abbrev N_law : List Str := ["_law_script", "_law_n", "_law_ties_here", "_law_pairs", "_law_k", "_law_cell", "_law_a", "_law_b", "_law_handed", "_law_told", "_law_far_here", "_law_again"]
abbrev P_law : List Str := ["_law_script"]
def A_law (t : List Int × Unit) : List Ar := [.s t.1]
structure Txt (K : PySem.W.Frag) (mg : Str → Option Value) where
  a_count : Addr
  fd_count : FuncData
  F_count : Fun K "_law_count" "_law_count" s_count a_count fd_count
  m_count : mg "_law_count" = some (.ref a_count)
  b_count : Binds K fd_count P_count []
  a_digits : Addr
  fd_digits : FuncData
  F_digits : Fun K "_law_digits" "_law_digits" s_digits a_digits fd_digits
  m_digits : mg "_law_digits" = some (.ref a_digits)
  b_digits : Binds K fd_digits P_digits []
  a_ties : Addr
  fd_ties : FuncData
  F_ties : Fun K "_law_ties" "_law_ties" s_ties a_ties fd_ties
  m_ties : mg "_law_ties" = some (.ref a_ties)
  b_ties : Binds K fd_ties P_ties []
  a_cellat : Addr
  fd_cellat : FuncData
  F_cellat : Fun K "_law_cell_at" "_law_cell_at" s_cellat a_cellat fd_cellat
  m_cellat : mg "_law_cell_at" = some (.ref a_cellat)
  b_cellat : Binds K fd_cellat P_cellat []
  a_net : Addr
  fd_net : FuncData
  F_net : Fun K "_law_net" "_law_net" s_net a_net fd_net
  m_net : mg "_law_net" = some (.ref a_net)
  b_net : Binds K fd_net P_net []
  a_neighbours : Addr
  fd_neighbours : FuncData
  F_neighbours : Fun K "neighbours" "neighbours" s_neighbours a_neighbours fd_neighbours
  m_neighbours : mg "neighbours" = some (.ref a_neighbours)
  b_neighbours : Binds K fd_neighbours P_neighbours []
  a_reached : Addr
  fd_reached : FuncData
  F_reached : Fun K "reached" "reached" s_reached a_reached fd_reached
  m_reached : mg "reached" = some (.ref a_reached)
  b_reached : Binds K fd_reached P_reached []
  a_shortest : Addr
  fd_shortest : FuncData
  F_shortest : Fun K "shortest" "shortest" s_shortest a_shortest fd_shortest
  m_shortest : mg "shortest" = some (.ref a_shortest)
  b_shortest : Binds K fd_shortest P_shortest []
  a_far : Addr
  fd_far : FuncData
  F_far : Fun K "_law_far" "_law_far" s_far a_far fd_far
  m_far : mg "_law_far" = some (.ref a_far)
  b_far : Binds K fd_far P_far []
  a_whole : Addr
  fd_whole : FuncData
  F_whole : Fun K "_law_whole" "_law_whole" s_whole a_whole fd_whole
  m_whole : mg "_law_whole" = some (.ref a_whole)
  b_whole : Binds K fd_whole P_whole []
  a_good : Addr
  fd_good : FuncData
  F_good : Fun K "_law_good" "_law_good" s_good a_good fd_good
  m_good : mg "_law_good" = some (.ref a_good)
  b_good : Binds K fd_good P_good []
  a_law : Addr
  fd_law : FuncData
  F_law : Fun K "law" "law" s_law a_law fd_law
  m_law : mg "law" = some (.ref a_law)
  b_law : Binds K fd_law P_law []
  n_all : mg "all" = none
  n_bool : mg "bool" = none
  n_int : mg "int" = none
  n_isinstance : mg "isinstance" = none
  n_len : mg "len" = none
  n_list : mg "list" = none
  n_max : mg "max" = none
  n_min : mg "min" = none
  n_range : mg "range" = none
theorem bt_all : bootBuiltins "all" = some (.builtin "all") := by decide +kernel
theorem bt_bool : bootBuiltins "bool" = some (.type "bool") := by decide +kernel
theorem bt_int : bootBuiltins "int" = some (.type "int") := by decide +kernel
theorem bt_isinstance : bootBuiltins "isinstance" = some (.builtin "isinstance") := by decide +kernel
theorem bt_len : bootBuiltins "len" = some (.builtin "len") := by decide +kernel
theorem bt_list : bootBuiltins "list" = some (.type "list") := by decide +kernel
theorem bt_max : bootBuiltins "max" = some (.builtin "max") := by decide +kernel
theorem bt_min : bootBuiltins "min" = some (.builtin "min") := by decide +kernel
section
variable {P : Program} {w : World} {K : PySem.W.Frag} {mg : Str → Option Value} {base : Heap}
theorem sc_count : FnScope N_count P_count (defScope s_count) := ⟨rfl, rfl, rfl, by decide +kernel, rfl, by decide +kernel, by decide +kernel⟩
theorem ok_count (T : Txt K mg) : FnOk P w K mg base CX0 1 T.a_count T.fd_count P_count (spP K A_count u_count) :=
  fn_pure T.F_count sc_count (fun _ => rfl) fun cdv A outer s H E hr => ⟨_, (pss_cons (ps_if (pt_cmpR op_eq (pe_op op_mod (pv 0) pe_int) pe_int (nomark _))
      (pss_cons (ps_ret (pe_op op_add pe_int (pe_op op_mod (pe_op op_fdiv (pv 0) pe_int) pe_int)))
      pss_nil)
      pss_nil)
      (pss_cons (ps_ret (pe_op op_add pe_int (pe_op op_mod (pe_op op_fdiv (pv 0) pe_int) pe_int)))
      pss_nil)), by
    rintro ⟨cell0, ⟨⟩⟩
    show SvO K [.val (em (cell0 : Int))] _ (m_count cell0) _
    unfold m_count
    exact (sv_ifs (et_test (ev_eq (ev_mod (ev_val (α := Int) cell0 rfl) (ev_c_int 4)) (ev_c_int 3)))
    (sv_assoc (sv_dead (sv_ret0 (ev_add (ev_c_int 1) (ev_mod (ev_fdiv (ev_val (α := Int) cell0 rfl) (ev_c_int 4)) (ev_c_int 200))) fun _ => rfl)))
    (sv_nx (sv_dead (sv_ret0 (ev_add (ev_c_int 1) (ev_mod (ev_fdiv (ev_val (α := Int) cell0 rfl) (ev_c_int 4)) (ev_c_int 12))) fun _ => rfl))))⟩
theorem sc_digits : FnScope N_digits P_digits (defScope s_digits) := ⟨rfl, rfl, rfl, by decide +kernel, rfl, by decide +kernel, by decide +kernel⟩
theorem ok_digits (T : Txt K mg) : FnOk P w K mg base CX0 1 T.a_digits T.fd_digits P_digits (spP K A_digits u_digits) :=
  fn_pure T.F_digits sc_digits (fun _ => rfl) fun cdv A outer s H E hr => ⟨_, (pss_cons (ps_set (i := 3) sc_digits.nd rfl (by first | exact Or.inl rfl | exact Or.inr rfl) (pe_lst pa_nil))
      (pss_cons (ps_for PassesOwn.never rfl (pi_range1 (by rfl) T.n_range (pa_cons (pv 2) pa_nil)) (pg_name (i := 4) sc_digits.nd rfl (by first | exact Or.inl rfl | exact Or.inr rfl))
      (pss_cons (ps_expr (pe_bm PySem.F.plainAttrs_list PySem.F.slot_list_append PySem.F.type_list_append mt_append (pv 3) (pa_cons (pe_op op_mod (pv 0) (pv 1)) pa_nil)))
      (pss_cons (ps_set (i := 0) sc_digits.nd rfl (by first | exact Or.inl rfl | exact Or.inr rfl) (pe_op op_fdiv (pv 0) (pv 1)))
      pss_nil)))
      (pss_cons (ps_ret (pv 3))
      pss_nil))), by
    rintro ⟨cell0, base0, many0, ⟨⟩⟩
    show SvO K [.val (em (cell0 : Int)), .val (em (base0 : Int)), .val (em (many0 : Int)), .no, .no] _ (m_digits cell0 base0 many0) _
    unfold m_digits
    exact (sv_asgL (α := Int) (ilt (n := 5) 3 rfl (by decide)) (el_lst (α := Int) (n := 0) (by decide) ei_nil) fun row1 =>
    (sv_for (E := fun (s2 : (Int × (List Int))) => [.val (em (s2.1 : Int)), .val (em (base0 : Int)), .val (em (many0 : Int)), .own ((s2.2 : List Int).map em), .no]) (s0 := (cell0, row1)) (d1 := fun s2 x3 => [.val (em (s2.1 : Int)), .val (em (base0 : Int)), .val (em (many0 : Int)), .own ((s2.2 : List Int).map em), .val (em (x3 : Int))]) (bo := (fun (fl : Flow (Int × (List Int)) (List Int)) => match fl with | .nx s2 => .lp [.val (em (s2.1 : Int)), .val (em (base0 : Int)), .val (em (many0 : Int)), .own ((s2.2 : List Int).map em), .no] | .bk s2 => .bk [.val (em (s2.1 : Int)), .val (em (base0 : Int)), .val (em (many0 : Int)), .own ((s2.2 : List Int).map em), .no] | .dn r => .rt (.val (em (r : (List Int)))))) (kd := (fun r => some r)) (ew_range1 (ev_val (α := Int) many0 rfl)) (.same (.same (.same (.same (.same .nil))))) (fun s2 x3 => (tg_f (ilt (n := 5) 4 rfl (by decide))))
    (fun s2 x3 =>
    (sv_app (α := Int) (xs := s2.2) (ilt (n := 5) 3 rfl (by decide)) rfl (ev_mod (ev_val (α := Int) s2.1 rfl) (ev_val (α := Int) base0 rfl)) fun row4 =>
    (sv_asg (ev_fdiv (ev_val (α := Int) s2.1 rfl) (ev_val (α := Int) base0 rfl)) (fun _ => tg_f (ilt (n := 5) 0 rfl (by decide))) fun cell5 =>
    (sv_end (.same (.same (.same (.same (.drop .nil))))) (Or.inr rfl))))) (fun _ => rfl) (fun _ => rfl) (fun r x h => by cases h; exact ⟨rfl, rfl⟩) fun s2 =>
    (sv_dead (sv_retF (α := Int) (xs := s2.2) (w := fun z => z) rfl rfl))))⟩
theorem sc_ties : FnScope N_ties P_ties (defScope s_ties) := ⟨rfl, rfl, rfl, by decide +kernel, rfl, by decide +kernel, by decide +kernel⟩
theorem ok_ties (T : Txt K mg) : FnOk P w K mg base CX0 1 T.a_ties T.fd_ties P_ties (spP K A_ties u_ties) :=
  fn_pure T.F_ties sc_ties (fun _ => rfl) fun cdv A outer s H E hr => ⟨_, (pss_cons (ps_set (i := 3) sc_ties.nd rfl (by first | exact Or.inl rfl | exact Or.inr rfl) (pe_lst pa_nil))
      (pss_cons (ps_for PassesOwn.never rfl (pi_range1 (by rfl) T.n_range (pa_cons (pe_callB c_len (by rfl) T.n_len bt_len (pa_cons (pv 0) pa_nil)) pa_nil)) (pg_name (i := 4) sc_ties.nd rfl (by first | exact Or.inl rfl | exact Or.inr rfl))
      (pss_cons (ps_set (i := 5) sc_ties.nd rfl (by first | exact Or.inl rfl | exact Or.inr rfl) (pe_op op_mod (pe_ix ix_list (pv 0) (pv 4) (fun _ _ => rfl)) (pv 1)))
      (pss_cons (ps_set (i := 6) sc_ties.nd rfl (by first | exact Or.inl rfl | exact Or.inr rfl) (pe_op op_mod (pe_op op_add (pe_op op_add (pe_op op_fdiv (pe_ix ix_list (pv 0) (pv 4) (fun _ _ => rfl)) (pv 1)) (pe_op op_mul pe_int (pv 4))) pe_int) (pv 1)))
      (pss_cons (ps_set (i := 7) sc_ties.nd rfl (by first | exact Or.inl rfl | exact Or.inr rfl) (pe_tup (pa_cons (pe_callB (c_min2 rfl) (by rfl) T.n_min bt_min (pa_cons (pv 5) (pa_cons (pv 6) pa_nil))) (pa_cons (pe_callB (c_max2 rfl) (by rfl) T.n_max bt_max (pa_cons (pv 5) (pa_cons (pv 6) pa_nil))) pa_nil))))
      (pss_cons (ps_if (PW.pt (pw_and (pt_cmpR op_ne (pv 5) (pv 6) (nomark _)) (pw_and (pt_cmpR (op_notInD (hu65 hr)) (pv 7) (pv 3) (by rfl)) (pw_and1 (pt_cmpR op_lt (pe_callB c_len (by rfl) T.n_len bt_len (pa_cons (pv 3) pa_nil)) (pv 2) (nomark _))))))
      (pss_cons (ps_expr (pe_bm PySem.F.plainAttrs_list PySem.F.slot_list_append PySem.F.type_list_append mt_append (pv 3) (pa_cons (pv 7) pa_nil)))
      pss_nil)
      pss_nil)
      pss_nil)))))
      (pss_cons (ps_ret (pv 3))
      pss_nil))), by
    rintro ⟨cells0, n0, most0, ⟨⟩⟩
    show SvO K [.rd (em (cells0 : (List Int))), .val (em (n0 : Int)), .val (em (most0 : Int)), .no, .no, .no, .no, .no] _ (m_ties cells0 n0 most0) _
    unfold m_ties
    exact (sv_asgL (α := (Int × Int)) (ilt (n := 8) 3 rfl (by decide)) (el_lst (α := (Int × Int)) (n := 0) (by decide) ei_nil) fun tieshere1 =>
    (sv_for (E := fun (s2 : (List (Int × Int))) => [.rd (em (cells0 : (List Int))), .val (em (n0 : Int)), .val (em (most0 : Int)), .own ((s2 : List (Int × Int)).map em), .no, .no, .no, .no]) (s0 := tieshere1) (d1 := fun s2 x3 => [.rd (em (cells0 : (List Int))), .val (em (n0 : Int)), .val (em (most0 : Int)), .own ((s2 : List (Int × Int)).map em), .val (em (x3 : Int)), .no, .no, .no]) (bo := (fun (fl : Flow (List (Int × Int)) (List (Int × Int))) => match fl with | .nx s2 => .lp [.rd (em (cells0 : (List Int))), .val (em (n0 : Int)), .val (em (most0 : Int)), .own ((s2 : List (Int × Int)).map em), .no, .no, .no, .no] | .bk s2 => .bk [.rd (em (cells0 : (List Int))), .val (em (n0 : Int)), .val (em (most0 : Int)), .own ((s2 : List (Int × Int)).map em), .no, .no, .no, .no] | .dn r => .rt (.val (em (r : (List (Int × Int))))))) (kd := (fun r => some r)) (ew_range1 (ev_len (ev_rd (α := (List Int)) cells0 rfl))) (.same (.same (.same (.same (.same (.same (.same (.same .nil)))))))) (fun s2 x3 => (tg_f (ilt (n := 8) 4 rfl (by decide))))
    (fun s2 x3 =>
    (sv_asg (ev_mod (ev_sc (ev_ix (ev_rd (α := (List Int)) cells0 rfl) (ev_val (α := Int) x3 rfl))) (ev_val (α := Int) n0 rfl)) (fun _ => tg_f (ilt (n := 8) 5 rfl (by decide))) fun a4 =>
    (sv_asg (ev_mod (ev_add (ev_add (ev_fdiv (ev_sc (ev_ix (ev_rd (α := (List Int)) cells0 rfl) (ev_val (α := Int) x3 rfl))) (ev_val (α := Int) n0 rfl)) (ev_mul (ev_c_int 7) (ev_val (α := Int) x3 rfl))) (ev_c_int 1)) (ev_val (α := Int) n0 rfl)) (fun _ => tg_f (ilt (n := 8) 6 rfl (by decide))) fun b5 =>
    (sv_asg (ev_tup2 (ev_min2 (ev_val (α := Int) a4 rfl) (ev_val (α := Int) b5 rfl)) (ev_max2 (ev_val (α := Int) a4 rfl) (ev_val (α := Int) b5 rfl))) (fun _ => tg_f (ilt (n := 8) 7 rfl (by decide))) fun tie6 =>
    (sv_ifs (et_and (et_test (ev_ne (ev_val (α := Int) a4 rfl) (ev_val (α := Int) b5 rfl))) (et_and (et_test (ev_nin (by decide) (ev_val (α := (Int × Int)) tie6 rfl) (ev_own (α := (Int × Int)) s2 rfl))) (et_test (ev_lt (ev_len (ev_own (α := (Int × Int)) s2 rfl)) (ev_val (α := Int) most0 rfl)))))
    (sv_assoc (sv_app (α := (Int × Int)) (xs := s2) (ilt (n := 8) 3 rfl (by decide)) rfl (ev_val (α := (Int × Int)) tie6 rfl) fun tieshere7 =>
    (sv_nx (sv_end (.same (.same (.same (.same (.drop (.drop (.drop (.drop .nil)))))))) (Or.inr rfl)))))
    (sv_nx (sv_end (.same (.same (.same (.same (.drop (.drop (.drop (.drop .nil)))))))) (Or.inr rfl)))))))) (fun _ => rfl) (fun _ => rfl) (fun r x h => by cases h; exact ⟨rfl, rfl⟩) fun s2 =>
    (sv_dead (sv_retF (α := (Int × Int)) (xs := s2) (w := fun z => z) rfl rfl))))⟩
theorem sc_cellat : FnScope N_cellat P_cellat (defScope s_cellat) := ⟨rfl, rfl, rfl, by decide +kernel, rfl, by decide +kernel, by decide +kernel⟩
theorem ok_cellat (T : Txt K mg) : FnOk P w K mg base CX0 1 T.a_cellat T.fd_cellat P_cellat (spP K A_cellat u_cellat) :=
  fn_pure T.F_cellat sc_cellat (fun _ => rfl) fun cdv A outer s H E hr => ⟨_, (pss_cons (ps_if (pt_cmpR op_lt (pv 1) (pe_callB c_len (by rfl) T.n_len bt_len (pa_cons (pv 0) pa_nil)) (nomark _))
      (pss_cons (ps_ret (pe_ix ix_list (pv 0) (pv 1) (fun _ _ => rfl)))
      pss_nil)
      pss_nil)
      (pss_cons (ps_ret pe_int)
      pss_nil)), by
    rintro ⟨script0, k0, ⟨⟩⟩
    show SvO K [.scr script0, .val (em (k0 : Int))] _ (m_cellat script0 k0) _
    unfold m_cellat
    exact (sv_ifs (et_test (ev_lt (ev_val (α := Int) k0 rfl) (ev_lenS rfl)))
    (sv_assoc (sv_dead (sv_ret0 (ev_ixS rfl (ev_val (α := Int) k0 rfl)) fun _ => rfl)))
    (sv_nx (sv_dead (sv_ret0 (ev_c_int 0) fun _ => rfl))))⟩
theorem sc_net : FnScope N_net P_net (defScope s_net) := ⟨rfl, rfl, rfl, by decide +kernel, rfl, by decide +kernel, by decide +kernel⟩
theorem ok_net (T : Txt K mg) : FnOk P w K mg base CX0 2 T.a_net T.fd_net P_net (spP K A_net u_net) :=
  fn_pure T.F_net sc_net (fun _ => rfl) fun cdv A outer s H E hr => ⟨_, (pss_cons (ps_if (pt_cmpR op_eq (pe_op op_mod (pe_call (ok_cellat T) (hr.mono (by decide)) (by rfl) T.m_cellat T.F_cellat.kp T.b_cellat .nil pass0 (pa_cons (pv 0) (pa_cons pe_int pa_nil))) pe_int) pe_int (nomark _))
      (pss_cons (ps_ret (pe_call (ok_ties T) (hr.mono (by decide)) (by rfl) T.m_ties T.F_ties.kp T.b_ties .nil pass0 (pa_cons (pe_slice sl_list (pv 0) (po_some pe_int) (po_some pe_int)) (pa_cons (pv 1) (pa_cons pe_int pa_nil)))))
      pss_nil)
      pss_nil)
      (pss_cons (ps_set (i := 2) sc_net.nd rfl (by first | exact Or.inl rfl | exact Or.inr rfl) (pe_lst pa_nil))
      (pss_cons (ps_for PassesOwn.never rfl (pi_list (pe_call (ok_digits T) (hr.mono (by decide)) (by rfl) T.m_digits T.F_digits.kp T.b_digits .nil pass0 (pa_cons (pe_call (ok_cellat T) (hr.mono (by decide)) (by rfl) T.m_cellat T.F_cellat.kp T.b_cellat .nil pass0 (pa_cons (pv 0) (pa_cons pe_int pa_nil))) (pa_cons (pe_op op_mul (pv 1) (pv 1)) (pa_cons (pe_op op_mod (pe_call (ok_cellat T) (hr.mono (by decide)) (by rfl) T.m_cellat T.F_cellat.kp T.b_cellat .nil pass0 (pa_cons (pv 0) (pa_cons pe_int pa_nil))) pe_int) pa_nil))))) (pg_name (i := 3) sc_net.nd rfl (by first | exact Or.inl rfl | exact Or.inr rfl))
      (pss_cons (ps_set (i := 4) sc_net.nd rfl (by first | exact Or.inl rfl | exact Or.inr rfl) (pe_tup (pa_cons (pe_callB (c_min2 rfl) (by rfl) T.n_min bt_min (pa_cons (pe_op op_fdiv (pv 3) (pv 1)) (pa_cons (pe_op op_mod (pv 3) (pv 1)) pa_nil))) (pa_cons (pe_callB (c_max2 rfl) (by rfl) T.n_max bt_max (pa_cons (pe_op op_fdiv (pv 3) (pv 1)) (pa_cons (pe_op op_mod (pv 3) (pv 1)) pa_nil))) pa_nil))))
      (pss_cons (ps_if (PW.pt (pw_and (pt_cmpR op_ne (pe_ix ix_tup (pv 4) pe_int (fun _ _ => rfl)) (pe_ix ix_tup (pv 4) pe_int (fun _ _ => rfl)) (nomark _)) (pw_and1 (pt_cmpR (op_notInD (hu65 hr)) (pv 4) (pv 2) (by rfl)))))
      (pss_cons (ps_expr (pe_bm PySem.F.plainAttrs_list PySem.F.slot_list_append PySem.F.type_list_append mt_append (pv 2) (pa_cons (pv 4) pa_nil)))
      pss_nil)
      pss_nil)
      pss_nil)))
      (pss_cons (ps_ret (pv 2))
      pss_nil)))), by
    rintro ⟨script0, n0, ⟨⟩⟩
    show SvO K [.scr script0, .val (em (n0 : Int)), .no, .no, .no] _ (m_net script0 n0) _
    unfold m_net
    exact (sv_ifs (et_test (ev_eq (ev_mod (ev_call (ea_s rfl (ea_f (ev_c_int 0) ea_nil))) (ev_c_int 2)) (ev_c_int 1)))
    (sv_assoc (sv_dead (sv_ret0 (ev_call (ea_r (ev_L (el_cutX rfl (eb_at (ev_c_int 1)) (eb_at (ev_c_int 63)))) (ea_f (ev_val (α := Int) n0 rfl) (ea_f (ev_c_int 40) ea_nil)))) fun _ => rfl)))
    (sv_nx (sv_asgL (α := (Int × Int)) (ilt (n := 5) 2 rfl (by decide)) (el_lst (α := (Int × Int)) (n := 0) (by decide) ei_nil) fun tieshere1 =>
    (sv_for (E := fun (s2 : (List (Int × Int))) => [.scr script0, .val (em (n0 : Int)), .own ((s2 : List (Int × Int)).map em), .no, .no]) (s0 := tieshere1) (d1 := fun s2 x3 => [.scr script0, .val (em (n0 : Int)), .own ((s2 : List (Int × Int)).map em), .val (em (x3 : Int)), .no]) (bo := (fun (fl : Flow (List (Int × Int)) (List (Int × Int))) => match fl with | .nx s2 => .lp [.scr script0, .val (em (n0 : Int)), .own ((s2 : List (Int × Int)).map em), .no, .no] | .bk s2 => .bk [.scr script0, .val (em (n0 : Int)), .own ((s2 : List (Int × Int)).map em), .no, .no] | .dn r => .rt (.val (em (r : (List (Int × Int))))))) (kd := (fun r => some r)) (ew_f (ev_call (ea_f (ev_call (ea_s rfl (ea_f (ev_c_int 1) ea_nil))) (ea_f (ev_mul (ev_val (α := Int) n0 rfl) (ev_val (α := Int) n0 rfl)) (ea_f (ev_mod (ev_call (ea_s rfl (ea_f (ev_c_int 2) ea_nil))) (ev_c_int 41)) ea_nil))))) (.same (.same (.same (.same (.same .nil))))) (fun s2 x3 => (tg_f (ilt (n := 5) 3 rfl (by decide))))
    (fun s2 x3 =>
    (sv_asg (ev_tup2 (ev_min2 (ev_fdiv (ev_val (α := Int) x3 rfl) (ev_val (α := Int) n0 rfl)) (ev_mod (ev_val (α := Int) x3 rfl) (ev_val (α := Int) n0 rfl))) (ev_max2 (ev_fdiv (ev_val (α := Int) x3 rfl) (ev_val (α := Int) n0 rfl)) (ev_mod (ev_val (α := Int) x3 rfl) (ev_val (α := Int) n0 rfl)))) (fun _ => tg_f (ilt (n := 5) 4 rfl (by decide))) fun tie4 =>
    (sv_ifs (et_and (et_test (ev_ne (ev_fst (ev_val (α := (Int × Int)) tie4 rfl)) (ev_snd (ev_val (α := (Int × Int)) tie4 rfl)))) (et_test (ev_nin (by decide) (ev_val (α := (Int × Int)) tie4 rfl) (ev_own (α := (Int × Int)) s2 rfl))))
    (sv_assoc (sv_app (α := (Int × Int)) (xs := s2) (ilt (n := 5) 2 rfl (by decide)) rfl (ev_val (α := (Int × Int)) tie4 rfl) fun tieshere5 =>
    (sv_nx (sv_end (.same (.same (.same (.drop (.drop .nil))))) (Or.inr rfl)))))
    (sv_nx (sv_end (.same (.same (.same (.drop (.drop .nil))))) (Or.inr rfl)))))) (fun _ => rfl) (fun _ => rfl) (fun r x h => by cases h; exact ⟨rfl, rfl⟩) fun s2 =>
    (sv_dead (sv_retF (α := (Int × Int)) (xs := s2) (w := fun z => z) rfl rfl))))))⟩
theorem sc_neighbours : FnScope N_neighbours P_neighbours (defScope s_neighbours) := ⟨rfl, rfl, rfl, by decide +kernel, rfl, by decide +kernel, by decide +kernel⟩
theorem ok_neighbours (T : Txt K mg) : FnOk P w K mg base CX0 1 T.a_neighbours T.fd_neighbours P_neighbours (spP K A_neighbours u_neighbours) :=
  fn_pure T.F_neighbours sc_neighbours (fun _ => rfl) fun cdv A outer s H E hr => ⟨_, (pss_cons (ps_setLc (i := 2) (own := [("k", 5)]) (g := (gName 5)) (tt := tYes) rfl sc_neighbours.nd rfl rfl (sw_true rfl rfl rfl (by decide +kernel)) (pi_range1 (by rfl) T.n_range (pa_cons (pv 0) pa_nil)) (blkOk_by (own := [("k", 5)]) (N := N_neighbours) (sc := defScope s_neighbours) (by decide +kernel)) (fun _ _ _ _ _ => (pg_name (i := 5) sc_neighbours.nd rfl (by first | exact Or.inl rfl | exact Or.inr rfl))) (fun _ _ _ _ _ => pts_nil) (fun _ _ _ _ _ => (pe_lst pa_nil)))
      (pss_cons (ps_for PassesOwn.never rfl (pi_list (pv 1)) (pg_tup rfl (pgs_cons (pg_name (i := 3) sc_neighbours.nd rfl (by first | exact Or.inl rfl | exact Or.inr rfl)) (pgs_cons (pg_name (i := 4) sc_neighbours.nd rfl (by first | exact Or.inl rfl | exact Or.inr rfl)) pgs_nil)))
      (pss_cons (ps_expr (pe_bm PySem.F.plainAttrs_list PySem.F.slot_list_append PySem.F.type_list_append mt_append (pe_ix ix_list (pv 2) (pv 3) (fun _ _ => rfl)) (pa_cons (pv 4) pa_nil)))
      (pss_cons (ps_expr (pe_bm PySem.F.plainAttrs_list PySem.F.slot_list_append PySem.F.type_list_append mt_append (pe_ix ix_list (pv 2) (pv 4) (fun _ _ => rfl)) (pa_cons (pv 3) pa_nil)))
      pss_nil)))
      (pss_cons (ps_ret (pv 2))
      pss_nil))), by
    rintro ⟨n0, ties0, ⟨⟩⟩
    show SvO K [.val (em (n0 : Int)), .rd (em (ties0 : (List (Int × Int)))), .no, .no, .no, .no] _ (m_neighbours n0 ties0) _
    unfold m_neighbours
    exact (sv_asgLL (α := Int) (ilt (n := 6) 2 rfl (by decide)) (eo_lcLL (d1 := fun x1 => [.val (em (n0 : Int)), .rd (em (ties0 : (List (Int × Int)))), .no, .no, .no, .val (em (x1 : Int))]) (ew_range1 (ev_val (α := Int) n0 rfl)) (fun x1 => (tg_f (ilt (n := 6) 5 rfl (by decide)))) (by decide) (fun x1 => et_yes) (fun x1 => (el_lst (α := Int) (n := 0) (by decide) ei_nil))) fun near2 =>
    (sv_for (E := fun (s3 : (List (List Int))) => [.val (em (n0 : Int)), .rd (em (ties0 : (List (Int × Int)))), .res (OwR (oLL (s3 : List (List Int)))), .no, .no, .no]) (s0 := near2) (d1 := fun s3 x4 => [.val (em (n0 : Int)), .rd (em (ties0 : (List (Int × Int)))), .res (OwR (oLL (s3 : List (List Int)))), .val (em (x4.1 : Int)), .val (em (x4.2 : Int)), .no]) (bo := (fun (fl : Flow (List (List Int)) (List (List Int))) => match fl with | .nx s3 => .lp [.val (em (n0 : Int)), .rd (em (ties0 : (List (Int × Int)))), .res (OwR (oLL (s3 : List (List Int)))), .no, .no, .no] | .bk s3 => .bk [.val (em (n0 : Int)), .rd (em (ties0 : (List (Int × Int)))), .res (OwR (oLL (s3 : List (List Int)))), .no, .no, .no] | .dn r => .rt (.val (em (r : (List (List Int))))))) (kd := (fun r => some r)) (ew_b (ev_rd (α := (List (Int × Int))) ties0 rfl)) (.same (.same (.same (.same (.same (.same .nil)))))) (fun s3 x4 => (tg_2 (y := x4) (tg_s x4.1 (ilt (n := 6) 3 rfl (by decide))) (tg_s x4.2 (ilt (n := 6) 4 rfl (by decide)))))
    (fun s3 x4 =>
    (sv_appIx (xs := s3) (ilt (n := 6) 2 rfl (by decide)) rfl (ev_val (α := Int) x4.1 rfl) (ev_val (α := Int) x4.2 rfl) fun near5 =>
    (sv_appIx (xs := near5) (ilt (n := 6) 2 rfl (by decide)) rfl (ev_val (α := Int) x4.2 rfl) (ev_val (α := Int) x4.1 rfl) fun near6 =>
    (sv_end (.same (.same (.same (.drop (.drop (.same .nil)))))) (Or.inr rfl))))) (fun _ => rfl) (fun _ => rfl) (fun r x h => by cases h; exact ⟨rfl, rfl⟩) fun s3 =>
    (sv_dead (sv_frozeO (od := oLL (s3 : List (List Int))) (y := (s3 : (List (List Int)))) (ilt (n := 6) 2 rfl (by decide)) rfl (toD_LL _) (sv_ret0 (ev_val (α := (List (List Int))) s3 rfl) fun _ => rfl)))))⟩
theorem sc_reached : FnScope N_reached P_reached (defScope s_reached) := ⟨rfl, rfl, rfl, by decide +kernel, rfl, by decide +kernel, by decide +kernel⟩
theorem ok_reached (T : Txt K mg) : FnOk P w K mg base CX0 1 T.a_reached T.fd_reached P_reached (spD K A_reached u_reached) :=
  fn_dict T.F_reached sc_reached (fun _ => rfl) fun cdv A outer s H E hr => ⟨_, (pss_cons (ps_set (i := 2) sc_reached.nd rfl (by first | exact Or.inl rfl | exact Or.inr rfl) (pe_disp (pps_cons (pv 1) pe_int pps_nil) rfl rfl (by decide) (by decide)))
      (pss_cons (ps_set (i := 3) sc_reached.nd rfl (by first | exact Or.inl rfl | exact Or.inr rfl) (pe_lst (pa_cons (pv 1) pa_nil)))
      (pss_cons (ps_set (i := 4) sc_reached.nd rfl (by first | exact Or.inl rfl | exact Or.inr rfl) pe_int)
      (pss_cons (ps_while PassesOwn.never (pt_cmpR op_lt (pv 4) (pe_callB c_len (by rfl) T.n_len bt_len (pa_cons (pv 3) pa_nil)) (nomark _))
      (pss_cons (ps_set (i := 5) sc_reached.nd rfl (by first | exact Or.inl rfl | exact Or.inr rfl) (pe_ix ix_list (pv 3) (pv 4) (fun _ _ => rfl)))
      (pss_cons (ps_for PassesOwn.never rfl (pi_list (pe_ix ix_list (pv 0) (pv 5) (fun _ _ => rfl))) (pg_name (i := 6) sc_reached.nd rfl (by first | exact Or.inl rfl | exact Or.inr rfl))
      (pss_cons (ps_if (pt_cmp (pc_dnotin (hu_of hr) (pv 6) (pv 2)))
      (pss_cons (ps_dput (hu_of hr) (pv 2) (pv 6) (pe_op op_add (pe_dget (hu_of hr) (pv 2) (pv 5) (fun _ _ => rfl)) pe_int) rfl)
      (pss_cons (ps_expr (pe_bm PySem.F.plainAttrs_list PySem.F.slot_list_append PySem.F.type_list_append mt_append (pv 3) (pa_cons (pv 6) pa_nil)))
      pss_nil))
      pss_nil)
      pss_nil))
      (pss_cons (ps_aug (i := 4) sc_reached.nd rfl (by first | exact Or.inl rfl | exact Or.inr rfl) pe_int ip_add)
      pss_nil))))
      (pss_cons (ps_ret (pv 2))
      pss_nil))))), by
    rintro ⟨near0, a0, ⟨⟩⟩
    show SvO K [.rd (em (near0 : (List (List Int)))), .val (em (a0 : Int)), .no, .no, .no, .no, .no] _ (m_reached near0 a0) _
    unfold m_reached
    exact (sv_asgDI (β := Int) (ilt (n := 7) 2 rfl (by decide)) (ed_disp1 (ev_val (α := Int) a0 rfl) (ev_c_int 0)) fun far1 =>
    (sv_asgL (α := Int) (ilt (n := 7) 3 rfl (by decide)) (el_lst (n := 1) (by decide) (ei_cons (ev_val (α := Int) a0 rfl) ei_nil)) fun waiting2 =>
    (sv_asg (ev_c_int 0) (fun _ => tg_f (ilt (n := 7) 4 rfl (by decide))) fun k3 =>
    (sv_while (E := fun (s4 : ((List (Int × Int)) × ((List Int) × Int))) => [.rd (em (near0 : (List (List Int)))), .val (em (a0 : Int)), .di (emD (s4.1 : (List (Int × Int)))), .own ((s4.2.1 : List Int).map em), .val (em (s4.2.2 : Int)), .no, .no]) (s0 := (far1, waiting2, k3)) (bo := (fun (fl : Flow ((List (Int × Int)) × ((List Int) × Int)) (List (Int × Int))) => match fl with | .nx s4 => .lp [.rd (em (near0 : (List (List Int)))), .val (em (a0 : Int)), .di (emD (s4.1 : (List (Int × Int)))), .own ((s4.2.1 : List Int).map em), .val (em (s4.2.2 : Int)), .no, .no] | .bk s4 => .bk [.rd (em (near0 : (List (List Int)))), .val (em (a0 : Int)), .di (emD (s4.1 : (List (Int × Int)))), .own ((s4.2.1 : List Int).map em), .val (em (s4.2.2 : Int)), .no, .no] | .dn r => .rt (.di (emD (r : (List (Int × Int))))))) (kd := (fun r => some r)) (n := fuel) (.same (.same (.same (.same (.same (.same (.same .nil))))))) (fun s4 => (et_test (ev_lt (ev_val (α := Int) s4.2.2 rfl) (ev_len (ev_own (α := Int) s4.2.1 rfl)))))
    (fun s4 =>
    (sv_asg (ev_ixO (α := Int) (xs := s4.2.1) rfl (ev_val (α := Int) s4.2.2 rfl)) (fun _ => tg_f (ilt (n := 7) 5 rfl (by decide))) fun here5 =>
    (sv_for (E := fun (s6 : ((List (Int × Int)) × (List Int))) => [.rd (em (near0 : (List (List Int)))), .val (em (a0 : Int)), .di (emD (s6.1 : (List (Int × Int)))), .own ((s6.2 : List Int).map em), .val (em (s4.2.2 : Int)), .val (em (here5 : Int)), .no]) (s0 := (s4.1, s4.2.1)) (d1 := fun s6 x7 => [.rd (em (near0 : (List (List Int)))), .val (em (a0 : Int)), .di (emD (s6.1 : (List (Int × Int)))), .own ((s6.2 : List Int).map em), .val (em (s4.2.2 : Int)), .val (em (here5 : Int)), .val (em (x7 : Int))]) (bo := (fun (fl : Flow ((List (Int × Int)) × (List Int)) (List (Int × Int))) => match fl with | .nx s6 => .lp [.rd (em (near0 : (List (List Int)))), .val (em (a0 : Int)), .di (emD (s6.1 : (List (Int × Int)))), .own ((s6.2 : List Int).map em), .val (em (s4.2.2 : Int)), .val (em (here5 : Int)), .no] | .bk s6 => .bk [.rd (em (near0 : (List (List Int)))), .val (em (a0 : Int)), .di (emD (s6.1 : (List (Int × Int)))), .own ((s6.2 : List Int).map em), .val (em (s4.2.2 : Int)), .val (em (here5 : Int)), .no] | .dn r => .rt (.di (emD (r : (List (Int × Int))))))) (kd := (fun r => some (Flow.dn r))) (ew_b (ev_ix (ev_rd (α := (List (List Int))) near0 rfl) (ev_val (α := Int) here5 rfl))) (.same (.same (.same (.same (.same (.same (.same .nil))))))) (fun s6 x7 => (tg_s x7 (ilt (n := 7) 6 rfl (by decide))))
    (fun s6 x7 =>
    (sv_ifs (et_B (ev_dninI (kvs := s6.1) (.inl rfl) (ev_val (α := Int) x7 rfl)))
    (sv_assoc (sv_dputI (kvs := s6.1) (ilt (n := 7) 2 rfl (by decide)) rfl (ev_add (ev_dgetI (kvs := s6.1) rfl (ev_val (α := Int) here5 rfl)) (ev_c_int 1)) (ev_val (α := Int) x7 rfl) fun far8 =>
    (sv_assoc (sv_app (α := Int) (xs := s6.2) (ilt (n := 7) 3 rfl (by decide)) rfl (ev_val (α := Int) x7 rfl) fun waiting9 =>
    (sv_nx (sv_end (.same (.same (.same (.same (.same (.same (.drop .nil))))))) (Or.inr rfl)))))))
    (sv_nx (sv_end (.same (.same (.same (.same (.same (.same (.drop .nil))))))) (Or.inr rfl))))) (fun _ => rfl) (fun _ => rfl) (fun r x h => by cases h; exact ⟨rfl, rfl⟩) fun s6 =>
    (sv_aug (x0 := s4.2.2) (ilt (n := 7) 4 rfl (by decide)) rfl (ev_c_int 1) fun k10 =>
    (sv_end (.same (.same (.same (.same (.same (.drop (.same .nil))))))) (Or.inr rfl)))))) (fun _ => rfl) (fun _ => rfl) (fun r x h => by cases h; exact ⟨rfl, rfl⟩) fun s4 =>
    (sv_dead (sv_retD (β := Int) (kvs := s4.1) (w := fun z => z) rfl rfl))))))⟩
theorem sc_shortest : FnScope N_shortest P_shortest (defScope s_shortest) := ⟨rfl, rfl, rfl, by decide +kernel, rfl, by decide +kernel, by decide +kernel⟩
theorem ok_shortest (T : Txt K mg) : FnOk P w K mg base CX0 2 T.a_shortest T.fd_shortest P_shortest (spLO K A_shortest u_shortest) :=
  fn_opt T.F_shortest sc_shortest (fun _ => rfl) fun cdv A outer s H E hr => ⟨_, (pss_cons (ps_set (i := 4) sc_shortest.nd rfl (by first | exact Or.inl rfl | exact Or.inr rfl) (pe_call (ok_neighbours T) (hr.mono (by decide)) (by rfl) T.m_neighbours T.F_neighbours.kp T.b_neighbours .nil pass0 (pa_cons (pv 0) (pa_cons (pv 1) pa_nil))))
      (pss_cons (ps_set (i := 5) sc_shortest.nd rfl (by first | exact Or.inl rfl | exact Or.inr rfl) (pe_call (ok_reached T) (hr.mono (by decide)) (by rfl) T.m_reached T.F_reached.kp T.b_reached .nil pass0 (pa_cons (pv 4) (pa_cons (pv 3) pa_nil))))
      (pss_cons (ps_if (pt_cmp (pc_dnotin (hu_of hr) (pv 2) (pv 5)))
      (pss_cons (ps_ret pe_non)
      pss_nil)
      pss_nil)
      (pss_cons (ps_set (i := 6) sc_shortest.nd rfl (by first | exact Or.inl rfl | exact Or.inr rfl) (pe_lst (pa_cons (pv 2) pa_nil)))
      (pss_cons (ps_while PassesOwn.never (pt_cmpR op_ne (pe_ix ix_list (pv 6) (pe_un un_neg pe_int) (fun _ _ => rfl)) (pv 3) (nomark _))
      (pss_cons (ps_for PassesOwn.never rfl (pi_list (pe_ix ix_list (pv 4) (pe_ix ix_list (pv 6) (pe_un un_neg pe_int) (fun _ _ => rfl)) (fun _ _ => rfl))) (pg_name (i := 7) sc_shortest.nd rfl (by first | exact Or.inl rfl | exact Or.inr rfl))
      (pss_cons (ps_if (pt_cmpR op_lt (pe_dget (hu_of hr) (pv 5) (pv 7) (fun _ _ => rfl)) (pe_dget (hu_of hr) (pv 5) (pe_ix ix_list (pv 6) (pe_un un_neg pe_int) (fun _ _ => rfl)) (fun _ _ => rfl)) (nomark _))
      (pss_cons (ps_expr (pe_bm PySem.F.plainAttrs_list PySem.F.slot_list_append PySem.F.type_list_append mt_append (pv 6) (pa_cons (pv 7) pa_nil)))
      (pss_cons ps_break
      pss_nil))
      pss_nil)
      pss_nil))
      pss_nil))
      (pss_cons (ps_ret (pv 6))
      pss_nil)))))), by
    rintro ⟨n0, ties0, a0, b0, ⟨⟩⟩
    show SvO K [.val (em (n0 : Int)), .rd (em (ties0 : (List (Int × Int)))), .val (em (a0 : Int)), .val (em (b0 : Int)), .no, .no, .no, .no] _ (m_shortest n0 ties0 a0 b0) _
    unfold m_shortest
    exact (sv_asg (ev_call (ea_f (ev_val (α := Int) n0 rfl) (ea_r (ev_rd (α := (List (Int × Int))) ties0 rfl) ea_nil))) (fun _ => tg_f (ilt (n := 8) 4 rfl (by decide))) fun near1 =>
    (sv_asgDI (β := Int) (ilt (n := 8) 5 rfl (by decide)) (ed_call (ea_r (ev_val (α := (List (List Int))) near1 rfl) (ea_f (ev_val (α := Int) b0 rfl) ea_nil))) fun far2 =>
    (sv_ifs (et_B (ev_dninI (kvs := far2) (.inl rfl) (ev_val (α := Int) a0 rfl)))
    (sv_assoc (sv_dead (sv_retN (α := Int) (w := fun z => z) rfl)))
    (sv_nx (sv_asgL (α := Int) (ilt (n := 8) 6 rfl (by decide)) (el_lst (n := 1) (by decide) (ei_cons (ev_val (α := Int) a0 rfl) ei_nil)) fun way3 =>
    (sv_while (E := fun (s4 : (List Int)) => [.val (em (n0 : Int)), .rd (em (ties0 : (List (Int × Int)))), .val (em (a0 : Int)), .val (em (b0 : Int)), .val (em (near1 : (List (List Int)))), .di (emD (far2 : (List (Int × Int)))), .own ((s4 : List Int).map em), .no]) (s0 := way3) (bo := (fun (fl : Flow (List Int) (Option (List Int))) => match fl with | .nx s4 => .lp [.val (em (n0 : Int)), .rd (em (ties0 : (List (Int × Int)))), .val (em (a0 : Int)), .val (em (b0 : Int)), .val (em (near1 : (List (List Int)))), .di (emD (far2 : (List (Int × Int)))), .own ((s4 : List Int).map em), .no] | .bk s4 => .bk [.val (em (n0 : Int)), .rd (em (ties0 : (List (Int × Int)))), .val (em (a0 : Int)), .val (em (b0 : Int)), .val (em (near1 : (List (List Int)))), .di (emD (far2 : (List (Int × Int)))), .own ((s4 : List Int).map em), .no] | .dn r => .rt (.res (OptR ((r : (Option (List Int))).map fun xs => xs.map em))))) (kd := (fun r => some r)) (n := fuel) (.same (.same (.same (.same (.same (.same (.same (.same .nil)))))))) (fun s4 => (et_test (ev_ne (ev_ixO (α := Int) (xs := s4) rfl (ev_neg (ev_c_int 1))) (ev_val (α := Int) b0 rfl))))
    (fun s4 =>
    (sv_for (E := fun (s5 : (List Int)) => [.val (em (n0 : Int)), .rd (em (ties0 : (List (Int × Int)))), .val (em (a0 : Int)), .val (em (b0 : Int)), .val (em (near1 : (List (List Int)))), .di (emD (far2 : (List (Int × Int)))), .own ((s5 : List Int).map em), .no]) (s0 := s4) (d1 := fun s5 x6 => [.val (em (n0 : Int)), .rd (em (ties0 : (List (Int × Int)))), .val (em (a0 : Int)), .val (em (b0 : Int)), .val (em (near1 : (List (List Int)))), .di (emD (far2 : (List (Int × Int)))), .own ((s5 : List Int).map em), .val (em (x6 : Int))]) (bo := (fun (fl : Flow (List Int) (Option (List Int))) => match fl with | .nx s5 => .lp [.val (em (n0 : Int)), .rd (em (ties0 : (List (Int × Int)))), .val (em (a0 : Int)), .val (em (b0 : Int)), .val (em (near1 : (List (List Int)))), .di (emD (far2 : (List (Int × Int)))), .own ((s5 : List Int).map em), .no] | .bk s5 => .bk [.val (em (n0 : Int)), .rd (em (ties0 : (List (Int × Int)))), .val (em (a0 : Int)), .val (em (b0 : Int)), .val (em (near1 : (List (List Int)))), .di (emD (far2 : (List (Int × Int)))), .own ((s5 : List Int).map em), .no] | .dn r => .rt (.res (OptR ((r : (Option (List Int))).map fun xs => xs.map em))))) (kd := (fun r => some (Flow.dn r))) (ew_f (ev_ix (ev_val (α := (List (List Int))) near1 rfl) (ev_ixO (α := Int) (xs := s4) rfl (ev_neg (ev_c_int 1))))) (.same (.same (.same (.same (.same (.same (.same (.same .nil)))))))) (fun s5 x6 => (tg_f (ilt (n := 8) 7 rfl (by decide))))
    (fun s5 x6 =>
    (sv_ifs (et_test (ev_lt (ev_dgetI (kvs := far2) rfl (ev_val (α := Int) x6 rfl)) (ev_dgetI (kvs := far2) rfl (ev_ixO (α := Int) (xs := s5) rfl (ev_neg (ev_c_int 1))))))
    (sv_assoc (sv_app (α := Int) (xs := s5) (ilt (n := 8) 6 rfl (by decide)) rfl (ev_val (α := Int) x6 rfl) fun way7 =>
    (sv_assoc (sv_deadB (sv_brk (.same (.same (.same (.same (.same (.same (.same (.drop .nil)))))))) rfl)))))
    (sv_nx (sv_end (.same (.same (.same (.same (.same (.same (.same (.drop .nil)))))))) (Or.inr rfl))))) (fun _ => rfl) (fun _ => rfl) (fun r x h => by cases h; exact ⟨rfl, rfl⟩) fun s5 =>
    (sv_end (.same (.same (.same (.same (.same (.same (.same (.same .nil)))))))) (Or.inr rfl)))) (fun _ => rfl) (fun _ => rfl) (fun r x h => by cases h; exact ⟨rfl, rfl⟩) fun s4 =>
    (sv_dead (sv_retOO (α := Int) (xs := s4) (w := fun z => z) rfl rfl))))))))⟩
theorem sc_far : FnScope N_far P_far (defScope s_far) := ⟨rfl, rfl, rfl, by decide +kernel, rfl, by decide +kernel, by decide +kernel⟩
theorem ok_far (T : Txt K mg) : FnOk P w K mg base CX0 1 T.a_far T.fd_far P_far (spP K A_far u_far) :=
  fn_pure T.F_far sc_far (fun _ => rfl) fun cdv A outer s H E hr => ⟨_, (pss_cons (ps_set (i := 3) sc_far.nd rfl (by first | exact Or.inl rfl | exact Or.inr rfl) pe_int)
      (pss_cons (ps_set (i := 4) sc_far.nd rfl (by first | exact Or.inl rfl | exact Or.inr rfl) (pe_disp (pps_cons (pv 1) pe_bl pps_nil) rfl rfl (by decide) (by decide)))
      (pss_cons (ps_while PassesOwn.never (pt_cmp (pc_dnotin (hu_of hr) (pv 2) (pv 4)))
      (pss_cons (ps_setLc (i := 5) (own := [("_law_x", 7), ("_law_y", 6)]) (g := (gTup K 2 (gCons (gName 7) (gCons (gName 6) gNil)))) (tt := _) rfl sc_far.nd rfl rfl (sw_true rfl rfl rfl (by decide +kernel)) (pi_list (pe_op op_cat (pv 0) (pe_lc (own := [("_law_c", 8), ("_law_d", 9)]) (g := (gTup K 2 (gCons (gName 8) (gCons (gName 9) gNil)))) (tt := tYes) rfl sc_far.nd (pi_list (pv 0)) (blkOk_by (own := [("_law_c", 8), ("_law_d", 9)]) (N := N_far) (sc := defScope s_far) (by decide +kernel)) (fun _ _ _ _ _ => (pg_tup rfl (pgs_cons (pg_name (i := 8) sc_far.nd rfl (by first | exact Or.inl rfl | exact Or.inr rfl)) (pgs_cons (pg_name (i := 9) sc_far.nd rfl (by first | exact Or.inl rfl | exact Or.inr rfl)) pgs_nil)))) (fun _ _ _ _ _ => pts_nil) (fun _ _ _ _ _ => (pe_tup (pa_cons (pv 9) (pa_cons (pv 8) pa_nil))))))) (blkOk_by (own := [("_law_x", 7), ("_law_y", 6)]) (N := N_far) (sc := defScope s_far) (by decide +kernel)) (fun _ _ _ _ _ => (pg_tup rfl (pgs_cons (pg_name (i := 7) sc_far.nd rfl (by first | exact Or.inl rfl | exact Or.inr rfl)) (pgs_cons (pg_name (i := 6) sc_far.nd rfl (by first | exact Or.inl rfl | exact Or.inr rfl)) pgs_nil)))) (fun _ _ _ _ _ => (pts_one (PW.pt (pw_and (pt_cmp (pc_din (hu_of hr) (pv 7) (pv 4))) (pw_and1 (pt_cmp (pc_dnotin (hu_of hr) (pv 6) (pv 4)))))))) (fun _ _ _ _ _ => (pv 6)))
      (pss_cons (ps_if (pt_cmpR (op_eqD hr.units) (pv 5) (pe_lst pa_nil) (nomark _))
      (pss_cons (ps_ret pe_non)
      pss_nil)
      pss_nil)
      (pss_cons (ps_for PassesOwn.never rfl (pi_list (pv 5)) (pg_name (i := 6) sc_far.nd rfl (by first | exact Or.inl rfl | exact Or.inr rfl))
      (pss_cons (ps_dput (hu_of hr) (pv 4) (pv 6) pe_bl rfl)
      pss_nil))
      (pss_cons (ps_aug (i := 3) sc_far.nd rfl (by first | exact Or.inl rfl | exact Or.inr rfl) pe_int ip_add)
      pss_nil)))))
      (pss_cons (ps_ret (pv 3))
      pss_nil)))), by
    rintro ⟨tieshere0, a0, b0, ⟨⟩⟩
    show SvO K [.val (em (tieshere0 : (List (Int × Int)))), .val (em (a0 : Int)), .val (em (b0 : Int)), .no, .no, .no, .no, .no, .no, .no] _ (m_far tieshere0 a0 b0) _
    unfold m_far
    exact (sv_asg (ev_c_int 0) (fun _ => tg_f (ilt (n := 10) 3 rfl (by decide))) fun farhere1 =>
    (sv_asgDI (β := Bool) (ilt (n := 10) 4 rfl (by decide)) (ed_disp1 (ev_val (α := Int) a0 rfl) (ev_c_bl true)) fun known2 =>
    (sv_while (E := fun (s3 : (Int × (List (Int × Bool)))) => [.val (em (tieshere0 : (List (Int × Int)))), .val (em (a0 : Int)), .val (em (b0 : Int)), .val (em (s3.1 : Int)), .di (emD (s3.2 : (List (Int × Bool)))), .no, .no, .no, .no, .no]) (s0 := (farhere1, known2)) (bo := (fun (fl : Flow (Int × (List (Int × Bool))) (Option Int)) => match fl with | .nx s3 => .lp [.val (em (tieshere0 : (List (Int × Int)))), .val (em (a0 : Int)), .val (em (b0 : Int)), .val (em (s3.1 : Int)), .di (emD (s3.2 : (List (Int × Bool)))), .no, .no, .no, .no, .no] | .bk s3 => .bk [.val (em (tieshere0 : (List (Int × Int)))), .val (em (a0 : Int)), .val (em (b0 : Int)), .val (em (s3.1 : Int)), .di (emD (s3.2 : (List (Int × Bool)))), .no, .no, .no, .no, .no] | .dn r => .rt (.val (em (r : (Option Int)))))) (kd := (fun r => some r)) (n := fuel) (.same (.same (.same (.same (.same (.same (.same (.same (.same (.same .nil)))))))))) (fun s3 => (et_B (ev_dninI (kvs := s3.2) (.inl rfl) (ev_val (α := Int) b0 rfl))))
    (fun s3 =>
    (sv_asg (ev_L (el_lc (d1 := fun x5 => [.val (em (tieshere0 : (List (Int × Int)))), .val (em (a0 : Int)), .val (em (b0 : Int)), .val (em (s3.1 : Int)), .di (emD (s3.2 : (List (Int × Bool)))), .no, .val (em (x5.2 : Int)), .val (em (x5.1 : Int)), .no, .no]) (ew_f (ev_L (el_cat (ev_val (α := (List (Int × Int))) tieshere0 rfl) (ev_L (el_lc (d1 := fun x4 => [.val (em (tieshere0 : (List (Int × Int)))), .val (em (a0 : Int)), .val (em (b0 : Int)), .val (em (s3.1 : Int)), .di (emD (s3.2 : (List (Int × Bool)))), .no, .no, .no, .val (em (x4.1 : Int)), .val (em (x4.2 : Int))]) (ew_f (ev_val (α := (List (Int × Int))) tieshere0 rfl)) (fun x4 => (tg_2 (y := x4) (tg_f (ilt (n := 10) 8 rfl (by decide))) (tg_f (ilt (n := 10) 9 rfl (by decide))))) (by decide) (fun x4 => et_yes) (fun x4 => (ev_tup2 (ev_val (α := Int) x4.2 rfl) (ev_val (α := Int) x4.1 rfl)))))))) (fun x5 => (tg_2 (y := x5) (tg_f (ilt (n := 10) 7 rfl (by decide))) (tg_f (ilt (n := 10) 6 rfl (by decide))))) (by decide) (fun x5 => (et_and (et_B (ev_dinI (kvs := s3.2) (.inl rfl) (ev_val (α := Int) x5.1 rfl))) (et_B (ev_dninI (kvs := s3.2) (.inl rfl) (ev_val (α := Int) x5.2 rfl))))) (fun x5 => (ev_val (α := Int) x5.2 rfl)))) (fun _ => tg_f (ilt (n := 10) 5 rfl (by decide))) fun more6 =>
    (sv_ifs (et_test (ev_eqd (by decide) (by decide) (ev_val (α := (List Int)) more6 rfl) (ev_L (el_lst (α := Int) (n := 0) (by decide) ei_nil))))
    (sv_assoc (sv_dead (sv_ret (w := Flow.dn) (ev_none (α := Int) ev_c_non) fun _ => rfl)))
    (sv_nx (sv_for (E := fun (s7 : (List (Int × Bool))) => [.val (em (tieshere0 : (List (Int × Int)))), .val (em (a0 : Int)), .val (em (b0 : Int)), .val (em (s3.1 : Int)), .di (emD (s7 : (List (Int × Bool)))), .val (em (more6 : (List Int))), .no, .no, .no, .no]) (s0 := s3.2) (d1 := fun s7 x8 => [.val (em (tieshere0 : (List (Int × Int)))), .val (em (a0 : Int)), .val (em (b0 : Int)), .val (em (s3.1 : Int)), .di (emD (s7 : (List (Int × Bool)))), .val (em (more6 : (List Int))), .val (em (x8 : Int)), .no, .no, .no]) (bo := (fun (fl : Flow (List (Int × Bool)) (Option Int)) => match fl with | .nx s7 => .lp [.val (em (tieshere0 : (List (Int × Int)))), .val (em (a0 : Int)), .val (em (b0 : Int)), .val (em (s3.1 : Int)), .di (emD (s7 : (List (Int × Bool)))), .val (em (more6 : (List Int))), .no, .no, .no, .no] | .bk s7 => .bk [.val (em (tieshere0 : (List (Int × Int)))), .val (em (a0 : Int)), .val (em (b0 : Int)), .val (em (s3.1 : Int)), .di (emD (s7 : (List (Int × Bool)))), .val (em (more6 : (List Int))), .no, .no, .no, .no] | .dn r => .rt (.val (em (r : (Option Int)))))) (kd := (fun r => some (Flow.dn r))) (ew_f (ev_val (α := (List Int)) more6 rfl)) (.same (.same (.same (.same (.same (.same (.same (.same (.same (.same .nil)))))))))) (fun s7 x8 => (tg_f (ilt (n := 10) 6 rfl (by decide))))
    (fun s7 x8 =>
    (sv_dputI (kvs := s7) (ilt (n := 10) 4 rfl (by decide)) rfl (ev_c_bl true) (ev_val (α := Int) x8 rfl) fun known9 =>
    (sv_end (.same (.same (.same (.same (.same (.same (.drop (.same (.same (.same .nil)))))))))) (Or.inr rfl)))) (fun _ => rfl) (fun _ => rfl) (fun r x h => by cases h; exact ⟨rfl, rfl⟩) fun s7 =>
    (sv_aug (x0 := s3.1) (ilt (n := 10) 3 rfl (by decide)) rfl (ev_c_int 1) fun farhere10 =>
    (sv_end (.same (.same (.same (.same (.same (.drop (.same (.same (.same (.same .nil)))))))))) (Or.inr rfl)))))))) (fun _ => rfl) (fun _ => rfl) (fun r x h => by cases h; exact ⟨rfl, rfl⟩) fun s3 =>
    (sv_dead (sv_ret0 (ev_some (ev_val (α := Int) s3.1 rfl)) fun _ => rfl)))))⟩
theorem sc_whole : FnScope N_whole P_whole (defScope s_whole) := ⟨rfl, rfl, rfl, by decide +kernel, rfl, by decide +kernel, by decide +kernel⟩
theorem ok_whole (T : Txt K mg) : FnOk P w K mg base CX0 1 T.a_whole T.fd_whole P_whole (spP K A_whole u_whole) :=
  fn_pure T.F_whole sc_whole (fun _ => rfl) fun cdv A outer s H E hr => ⟨_, (pss_cons (ps_ret (pe_and (pe_callB call_isi (by rfl) T.n_isinstance bt_isinstance (pa_cons (pv 0) (pa_cons (pe_bltn (v := .ty "int") (by rfl) T.n_int bt_int rfl) pa_nil))) (pe_one (pe_not (pe_callB call_isi (by rfl) T.n_isinstance bt_isinstance (pa_cons (pv 0) (pa_cons (pe_bltn (v := .ty "bool") (by rfl) T.n_bool bt_bool rfl) pa_nil)))))))
      pss_nil), by
    rintro ⟨found0, ⟨⟩⟩
    show SvO K [.val (em (found0 : Int))] _ (m_whole found0) _
    unfold m_whole
    exact (sv_dead (sv_ret0 (ev_andV (ev_isi kit_int (ev_val (α := Int) found0 rfl)) (ev_notV (ev_isi kit_bool (ev_val (α := Int) found0 rfl)))) fun _ => rfl))⟩
theorem sc_good : FnScope N_good P_good (defScope s_good) := ⟨rfl, rfl, rfl, by decide +kernel, rfl, by decide +kernel, by decide +kernel⟩
theorem ok_good (T : Txt K mg) : FnOk P w K mg base CX0 2 T.a_good T.fd_good P_good (spP K A_good u_good) :=
  fn_pure T.F_good sc_good (fun _ => rfl) fun cdv A outer s H E hr => ⟨_, (pss_cons (ps_if (pt_cmpR op_isN' (pv 2) pe_non (nomark _))
      (pss_cons (ps_ret (pe_cmpR op_isN' (pv 0) pe_non (nomark _)))
      pss_nil)
      pss_nil)
      (pss_cons (ps_if (PW.pt (pw_or (pt_not (pt_val (pe_callB call_isi (by rfl) T.n_isinstance bt_isinstance (pa_cons (pv 0) (pa_cons (pe_bltn (v := .ty "list") (by rfl) T.n_list bt_list rfl) pa_nil))))) (pw_or (pt_cmpR op_ne (pe_callB c_len (by rfl) T.n_len bt_len (pa_cons (pv 0) pa_nil)) (pe_op op_add (pv 2) pe_int) (nomark _)) (pw_or1 (pt_not (pt_val (pe_callB (cr_all rfl) (by rfl) T.n_all bt_all (pa_cons (pe_lc (own := [("_law_x", 6)]) (g := (gName 6)) (tt := tYes) rfl sc_good.nd (pi_list (pv 0)) (blkOk_by (own := [("_law_x", 6)]) (N := N_good) (sc := defScope s_good) (by decide +kernel)) (fun _ _ _ _ _ => (pg_name (i := 6) sc_good.nd rfl (by first | exact Or.inl rfl | exact Or.inr rfl))) (fun _ _ _ _ _ => pts_nil) (fun _ _ _ _ _ => (pe_call (ok_whole T) (hr.mono (by decide)) (by rfl) T.m_whole T.F_whole.kp T.b_whole .nil pass0 (pa_cons (pv 6) pa_nil)))) pa_nil))))))))
      (pss_cons (ps_ret pe_bl)
      pss_nil)
      pss_nil)
      (pss_cons (ps_for PassesOwn.never rfl (pi_range1 (by rfl) T.n_range (pa_cons (pv 2) pa_nil)) (pg_name (i := 5) sc_good.nd rfl (by first | exact Or.inl rfl | exact Or.inr rfl))
      (pss_cons (ps_if (pt_cmpR (op_notInD (hu65 hr)) (pe_tup (pa_cons (pe_callB (c_min2 rfl) (by rfl) T.n_min bt_min (pa_cons (pe_ix ix_list (pv 0) (pv 5) (fun _ _ => rfl)) (pa_cons (pe_ix ix_list (pv 0) (pe_op op_add (pv 5) pe_int) (fun _ _ => rfl)) pa_nil))) (pa_cons (pe_callB (c_max2 rfl) (by rfl) T.n_max bt_max (pa_cons (pe_ix ix_list (pv 0) (pv 5) (fun _ _ => rfl)) (pa_cons (pe_ix ix_list (pv 0) (pe_op op_add (pv 5) pe_int) (fun _ _ => rfl)) pa_nil))) pa_nil))) (pv 1) (by rfl))
      (pss_cons (ps_ret pe_bl)
      pss_nil)
      pss_nil)
      pss_nil))
      (pss_cons (ps_ret (pe_and (pe_cmpR op_eq (pe_ix ix_list (pv 0) pe_int (fun _ _ => rfl)) (pv 3) (nomark _)) (pe_one (pe_cmpR op_eq (pe_ix ix_list (pv 0) (pe_un un_neg pe_int) (fun _ _ => rfl)) (pv 4) (nomark _)))))
      pss_nil)))), by
    rintro ⟨found0, tieshere0, farhere0, a0, b0, ⟨⟩⟩
    show SvO K [.rd (em (found0 : (Option (List Int)))), .rd (em (tieshere0 : (List (Int × Int)))), .val (em (farhere0 : (Option Int))), .val (em (a0 : Int)), .val (em (b0 : Int)), .no, .no] _ (m_good found0 tieshere0 farhere0 a0 b0) _
    unfold m_good
    exact (sv_ifs (et_test (ev_isN (ev_val (α := (Option Int)) farhere0 rfl) fun _ _ _ q => ⟨rfl, q⟩))
    (sv_assoc (sv_dead (sv_ret0 (ev_isN (ev_rd (α := (Option (List Int))) found0 rfl) fun _ _ _ q => ⟨rfl, q⟩) fun _ => rfl)))
    (sv_nx (sv_ifs (et_or (et_not (et_B (ev_isi kit_list (ev_rd (α := (Option (List Int))) found0 rfl)))) (et_or (et_test (ev_ne (ev_len (ev_join (ev_rd (α := (Option (List Int))) found0 rfl))) (ev_add (ev_join (ev_val (α := (Option Int)) farhere0 rfl)) (ev_c_int 1)))) (et_not (et_B (ev_all (ev_L (el_lc (d1 := fun x1 => [.rd (em (found0 : (Option (List Int)))), .rd (em (tieshere0 : (List (Int × Int)))), .val (em (farhere0 : (Option Int))), .val (em (a0 : Int)), .val (em (b0 : Int)), .no, .val (em (x1 : Int))]) (ew_b (ev_join (ev_rd (α := (Option (List Int))) found0 rfl))) (fun x1 => (tg_s x1 (ilt (n := 7) 6 rfl (by decide)))) (by decide) (fun x1 => et_yes) (fun x1 => (ev_call (ea_f (ev_val (α := Int) x1 rfl) ea_nil))))))))))
    (sv_assoc (sv_dead (sv_ret0 (ev_c_bl false) fun _ => rfl)))
    (sv_nx (sv_for (E := fun (s2 : Unit) => [.rd (em (found0 : (Option (List Int)))), .rd (em (tieshere0 : (List (Int × Int)))), .val (em (farhere0 : (Option Int))), .val (em (a0 : Int)), .val (em (b0 : Int)), .no, .no]) (s0 := ()) (d1 := fun s2 x3 => [.rd (em (found0 : (Option (List Int)))), .rd (em (tieshere0 : (List (Int × Int)))), .val (em (farhere0 : (Option Int))), .val (em (a0 : Int)), .val (em (b0 : Int)), .val (em (x3 : Int)), .no]) (bo := (fun (fl : Flow Unit Bool) => match fl with | .nx s2 => .lp [.rd (em (found0 : (Option (List Int)))), .rd (em (tieshere0 : (List (Int × Int)))), .val (em (farhere0 : (Option Int))), .val (em (a0 : Int)), .val (em (b0 : Int)), .no, .no] | .bk s2 => .bk [.rd (em (found0 : (Option (List Int)))), .rd (em (tieshere0 : (List (Int × Int)))), .val (em (farhere0 : (Option Int))), .val (em (a0 : Int)), .val (em (b0 : Int)), .no, .no] | .dn r => .rt (.val (em (r : Bool))))) (kd := (fun r => some r)) (ew_range1 (ev_join (ev_val (α := (Option Int)) farhere0 rfl))) (.same (.same (.same (.same (.same (.same (.same .nil))))))) (fun s2 x3 => (tg_f (ilt (n := 7) 5 rfl (by decide))))
    (fun s2 x3 =>
    (sv_ifs (et_test (ev_nin (by decide) (ev_tup2 (ev_min2 (ev_sc (ev_ix (ev_join (ev_rd (α := (Option (List Int))) found0 rfl)) (ev_val (α := Int) x3 rfl))) (ev_sc (ev_ix (ev_join (ev_rd (α := (Option (List Int))) found0 rfl)) (ev_add (ev_val (α := Int) x3 rfl) (ev_c_int 1))))) (ev_max2 (ev_sc (ev_ix (ev_join (ev_rd (α := (Option (List Int))) found0 rfl)) (ev_val (α := Int) x3 rfl))) (ev_sc (ev_ix (ev_join (ev_rd (α := (Option (List Int))) found0 rfl)) (ev_add (ev_val (α := Int) x3 rfl) (ev_c_int 1)))))) (ev_rd (α := (List (Int × Int))) tieshere0 rfl)))
    (sv_assoc (sv_dead (sv_ret (w := Flow.dn) (ev_c_bl false) fun _ => rfl)))
    (sv_nx (sv_end (.same (.same (.same (.same (.same (.drop (.same .nil))))))) (Or.inr rfl))))) (fun _ => rfl) (fun _ => rfl) (fun r x h => by cases h; exact ⟨rfl, rfl⟩) fun s2 =>
    (sv_dead (sv_ret0 (ev_andV (ev_eq (ev_sc (ev_ix (ev_join (ev_rd (α := (Option (List Int))) found0 rfl)) (ev_c_int 0))) (ev_val (α := Int) a0 rfl)) (ev_eq (ev_sc (ev_ix (ev_join (ev_rd (α := (Option (List Int))) found0 rfl)) (ev_neg (ev_c_int 1)))) (ev_val (α := Int) b0 rfl))) fun _ => rfl)))))))⟩
theorem sc_law : FnScope N_law P_law (defScope s_law) := ⟨rfl, rfl, rfl, by decide +kernel, rfl, by decide +kernel, by decide +kernel⟩
theorem ok_law (T : Txt K mg) : FnOk P w K mg base CX0 3 T.a_law T.fd_law P_law (spP K A_law u_law) :=
  fn_pure T.F_law sc_law (fun _ => rfl) fun cdv A outer s H E hr => ⟨_, (pss_cons (ps_set (i := 1) sc_law.nd rfl (by first | exact Or.inl rfl | exact Or.inr rfl) (pe_call (ok_count T) (hr.mono (by decide)) (by rfl) T.m_count T.F_count.kp T.b_count .nil pass0 (pa_cons (pe_op op_fdiv (pe_call (ok_cellat T) (hr.mono (by decide)) (by rfl) T.m_cellat T.F_cellat.kp T.b_cellat .nil pass0 (pa_cons (pv 0) (pa_cons pe_int pa_nil))) pe_int) pa_nil)))
      (pss_cons (ps_set (i := 2) sc_law.nd rfl (by first | exact Or.inl rfl | exact Or.inr rfl) (pe_call (ok_net T) (hr.mono (by decide)) (by rfl) T.m_net T.F_net.kp T.b_net .nil pass0 (pa_cons (pv 0) (pa_cons (pv 1) pa_nil))))
      (pss_cons (ps_set (i := 3) sc_law.nd rfl (by first | exact Or.inl rfl | exact Or.inr rfl) (pe_slice sl_list (pe_slice sl_list (pv 2) (po_some (pe_op op_fdiv (pe_callB c_len (by rfl) T.n_len bt_len (pa_cons (pv 2) pa_nil)) pe_int)) po_none) po_none (po_some pe_int)))
      (pss_cons (ps_for PassesOwn.never rfl (pi_range1 (by rfl) T.n_range (pa_cons pe_int pa_nil)) (pg_name (i := 4) sc_law.nd rfl (by first | exact Or.inl rfl | exact Or.inr rfl))
      (pss_cons (ps_set (i := 5) sc_law.nd rfl (by first | exact Or.inl rfl | exact Or.inr rfl) (pe_call (ok_cellat T) (hr.mono (by decide)) (by rfl) T.m_cellat T.F_cellat.kp T.b_cellat .nil pass0 (pa_cons (pv 0) (pa_cons (pe_op op_add pe_int (pv 4)) pa_nil))))
      (pss_cons (ps_set (i := 6) sc_law.nd rfl (by first | exact Or.inl rfl | exact Or.inr rfl) (pe_op op_mod (pe_op op_add (pe_op op_fdiv (pv 5) pe_int) (pe_op op_mul pe_int (pv 4))) (pv 1)))
      (pss_cons (ps_set (i := 7) sc_law.nd rfl (by first | exact Or.inl rfl | exact Or.inr rfl) (pe_op op_mod (pe_op op_add (pe_op op_add (pe_op op_fdiv (pv 5) (pe_op op_mul pe_int (pv 1))) (pe_op op_mul pe_int (pv 4))) pe_int) (pv 1)))
      (pss_cons (ps_if (pt_cmpR op_eq (pe_op op_mod (pv 5) pe_int) pe_int (nomark _))
      (pss_cons (ps_set (i := 7) sc_law.nd rfl (by first | exact Or.inl rfl | exact Or.inr rfl) (pv 6))
      pss_nil)
      pss_nil)
      (pss_cons (ps_expr (pe_bm PySem.F.plainAttrs_list PySem.F.slot_list_append PySem.F.type_list_append mt_append (pv 3) (pa_cons (pe_tup (pa_cons (pv 6) (pa_cons (pv 7) pa_nil))) pa_nil)))
      pss_nil))))))
      (pss_cons (ps_for PassesOwn.never rfl (pi_list (pv 3)) (pg_tup rfl (pgs_cons (pg_name (i := 6) sc_law.nd rfl (by first | exact Or.inl rfl | exact Or.inr rfl)) (pgs_cons (pg_name (i := 7) sc_law.nd rfl (by first | exact Or.inl rfl | exact Or.inr rfl)) pgs_nil)))
      (pss_cons (ps_set (i := 8) sc_law.nd rfl (by first | exact Or.inl rfl | exact Or.inr rfl) (pe_callTy c_list (by rfl) T.n_list bt_list (pa_cons (pv 2) pa_nil)))
      (pss_cons (ps_set (i := 9) sc_law.nd rfl (by first | exact Or.inl rfl | exact Or.inr rfl) (pe_call (ok_shortest T) (hr.mono (by decide)) (by rfl) T.m_shortest T.F_shortest.kp T.b_shortest .nil pass0 (pa_cons (pv 1) (pa_cons (pv 8) (pa_cons (pv 6) (pa_cons (pv 7) pa_nil))))))
      (pss_cons (ps_set (i := 10) sc_law.nd rfl (by first | exact Or.inl rfl | exact Or.inr rfl) (pe_call (ok_far T) (hr.mono (by decide)) (by rfl) T.m_far T.F_far.kp T.b_far .nil pass0 (pa_cons (pv 2) (pa_cons (pv 6) (pa_cons (pv 7) pa_nil)))))
      (pss_cons (ps_if (pt_not (pt_val (pe_call (ok_good T) (hr.mono (by decide)) (by rfl) T.m_good T.F_good.kp T.b_good .nil pass0 (pa_cons (pv 9) (pa_cons (pv 2) (pa_cons (pv 10) (pa_cons (pv 6) (pa_cons (pv 7) pa_nil))))))))
      (pss_cons (ps_ret pe_bl)
      pss_nil)
      pss_nil)
      (pss_cons (ps_if (pt_cmpR op_notN' (pv 9) pe_non (nomark _))
      (pss_cons (ps_expr (pe_bm PySem.F.plainAttrs_list PySem.F.slot_list_append PySem.F.type_list_append mt_append (pv 9) (pa_cons (pv 6) pa_nil)))
      (pss_cons (ps_asg (pe_un un_neg pe_int) (pg_sub (pv 9) pe_int set_list))
      pss_nil))
      pss_nil)
      (pss_cons (ps_set (i := 11) sc_law.nd rfl (by first | exact Or.inl rfl | exact Or.inr rfl) (pe_call (ok_shortest T) (hr.mono (by decide)) (by rfl) T.m_shortest T.F_shortest.kp T.b_shortest .nil pass0 (pa_cons (pv 1) (pa_cons (pv 8) (pa_cons (pv 6) (pa_cons (pv 7) pa_nil))))))
      (pss_cons (ps_if (PW.pt (pw_or (pt_not (pt_val (pe_call (ok_good T) (hr.mono (by decide)) (by rfl) T.m_good T.F_good.kp T.b_good .nil pass0 (pa_cons (pv 11) (pa_cons (pv 2) (pa_cons (pv 10) (pa_cons (pv 6) (pa_cons (pv 7) pa_nil)))))))) (pw_or1 (pt_cmpR (op_neD hr.units) (pv 8) (pv 2) (nomark _)))))
      (pss_cons (ps_ret pe_bl)
      pss_nil)
      pss_nil)
      pss_nil))))))))
      (pss_cons (ps_ret pe_bl)
      pss_nil)))))), by
    rintro ⟨script0, ⟨⟩⟩
    show SvO K [.scr script0, .no, .no, .no, .no, .no, .no, .no, .no, .no, .no, .no] _ (m_law script0) _
    unfold m_law
    exact (sv_asg (ev_call (ea_f (ev_fdiv (ev_call (ea_s rfl (ea_f (ev_c_int 0) ea_nil))) (ev_c_int 2)) ea_nil)) (fun _ => tg_f (ilt (n := 12) 1 rfl (by decide))) fun n1 =>
    (sv_asg (ev_call (ea_s rfl (ea_f (ev_val (α := Int) n1 rfl) ea_nil))) (fun _ => tg_f (ilt (n := 12) 2 rfl (by decide))) fun tieshere2 =>
    (sv_asgL (α := (Int × Int)) (ilt (n := 12) 3 rfl (by decide)) (el_cutF (ev_L (el_cutF (ev_val (α := (List (Int × Int))) tieshere2 rfl) (eb_at (ev_fdiv (ev_len (ev_val (α := (List (Int × Int))) tieshere2 rfl)) (ev_c_int 2))) eb_no)) eb_no (eb_at (ev_c_int 1))) fun pairs3 =>
    (sv_for (E := fun (s4 : (List (Int × Int))) => [.scr script0, .val (em (n1 : Int)), .val (em (tieshere2 : (List (Int × Int)))), .own ((s4 : List (Int × Int)).map em), .no, .no, .no, .no, .no, .no, .no, .no]) (s0 := pairs3) (d1 := fun s4 x5 => [.scr script0, .val (em (n1 : Int)), .val (em (tieshere2 : (List (Int × Int)))), .own ((s4 : List (Int × Int)).map em), .val (em (x5 : Int)), .no, .no, .no, .no, .no, .no, .no]) (bo := (fun (fl : Flow (List (Int × Int)) Bool) => match fl with | .nx s4 => .lp [.scr script0, .val (em (n1 : Int)), .val (em (tieshere2 : (List (Int × Int)))), .own ((s4 : List (Int × Int)).map em), .no, .no, .no, .no, .no, .no, .no, .no] | .bk s4 => .bk [.scr script0, .val (em (n1 : Int)), .val (em (tieshere2 : (List (Int × Int)))), .own ((s4 : List (Int × Int)).map em), .no, .no, .no, .no, .no, .no, .no, .no] | .dn r => .rt (.val (em (r : Bool))))) (kd := (fun r => some r)) (ew_range1 (ev_c_int 4)) (.same (.same (.same (.same (.same (.same (.same (.same (.same (.same (.same (.same .nil)))))))))))) (fun s4 x5 => (tg_f (ilt (n := 12) 4 rfl (by decide))))
    (fun s4 x5 =>
    (sv_asg (ev_call (ea_s rfl (ea_f (ev_add (ev_c_int 3) (ev_val (α := Int) x5 rfl)) ea_nil))) (fun _ => tg_f (ilt (n := 12) 5 rfl (by decide))) fun cell6 =>
    (sv_asg (ev_mod (ev_add (ev_fdiv (ev_val (α := Int) cell6 rfl) (ev_c_int 5)) (ev_mul (ev_c_int 3) (ev_val (α := Int) x5 rfl))) (ev_val (α := Int) n1 rfl)) (fun _ => tg_f (ilt (n := 12) 6 rfl (by decide))) fun a7 =>
    (sv_asg (ev_mod (ev_add (ev_add (ev_fdiv (ev_val (α := Int) cell6 rfl) (ev_mul (ev_c_int 5) (ev_val (α := Int) n1 rfl))) (ev_mul (ev_c_int 2) (ev_val (α := Int) x5 rfl))) (ev_c_int 1)) (ev_val (α := Int) n1 rfl)) (fun _ => tg_f (ilt (n := 12) 7 rfl (by decide))) fun b8 =>
    (sv_then (τ' := Int) (e1 := fun s9 => [.scr script0, .val (em (n1 : Int)), .val (em (tieshere2 : (List (Int × Int)))), .own ((s4 : List (Int × Int)).map em), .val (em (x5 : Int)), .val (em (cell6 : Int)), .val (em (a7 : Int)), .val (em (s9 : Int)), .no, .no, .no, .no]) (sv_if (et_test (ev_eq (ev_mod (ev_val (α := Int) cell6 rfl) (ev_c_int 5)) (ev_c_int 4)))
    (sv_asg (ev_val (α := Int) a7 rfl) (fun _ => tg_f (ilt (n := 12) 7 rfl (by decide))) fun b10 =>
    (sv_end (.same (.same (.same (.same (.same (.same (.same (.same (.same (.same (.same (.same .nil)))))))))))) (Or.inl rfl)))
    (sv_end (.same (.same (.same (.same (.same (.same (.same (.same (.same (.same (.same (.same .nil)))))))))))) (Or.inl rfl))) fun s9 =>
    (sv_app (α := (Int × Int)) (xs := s4) (ilt (n := 12) 3 rfl (by decide)) rfl (ev_tup2 (ev_val (α := Int) a7 rfl) (ev_val (α := Int) s9 rfl)) fun pairs11 =>
    (sv_end (.same (.same (.same (.same (.drop (.drop (.drop (.drop (.same (.same (.same (.same .nil)))))))))))) (Or.inr rfl)))))))) (fun _ => rfl) (fun _ => rfl) (fun r x h => by cases h; exact ⟨rfl, rfl⟩) fun s4 =>
    (sv_froze (α := (Int × Int)) (xs := s4) (ilt (n := 12) 3 rfl (by decide)) rfl (sv_for (E := fun (s12 : Unit) => [.scr script0, .val (em (n1 : Int)), .val (em (tieshere2 : (List (Int × Int)))), .val (em (s4 : (List (Int × Int)))), .no, .no, .no, .no, .no, .no, .no, .no]) (s0 := ()) (d1 := fun s12 x13 => [.scr script0, .val (em (n1 : Int)), .val (em (tieshere2 : (List (Int × Int)))), .val (em (s4 : (List (Int × Int)))), .no, .no, .val (em (x13.1 : Int)), .val (em (x13.2 : Int)), .no, .no, .no, .no]) (bo := (fun (fl : Flow Unit Bool) => match fl with | .nx s12 => .lp [.scr script0, .val (em (n1 : Int)), .val (em (tieshere2 : (List (Int × Int)))), .val (em (s4 : (List (Int × Int)))), .no, .no, .no, .no, .no, .no, .no, .no] | .bk s12 => .bk [.scr script0, .val (em (n1 : Int)), .val (em (tieshere2 : (List (Int × Int)))), .val (em (s4 : (List (Int × Int)))), .no, .no, .no, .no, .no, .no, .no, .no] | .dn r => .rt (.val (em (r : Bool))))) (kd := (fun r => some r)) (ew_f (ev_val (α := (List (Int × Int))) s4 rfl)) (.same (.same (.same (.same (.same (.same (.same (.same (.same (.same (.same (.same .nil)))))))))))) (fun s12 x13 => (tg_2 (y := x13) (tg_f (ilt (n := 12) 6 rfl (by decide))) (tg_f (ilt (n := 12) 7 rfl (by decide)))))
    (fun s12 x13 =>
    (sv_asg (ev_L (el_list (ev_val (α := (List (Int × Int))) tieshere2 rfl))) (fun _ => tg_f (ilt (n := 12) 8 rfl (by decide))) fun handed14 =>
    (sv_asgLO (α := Int) (ilt (n := 12) 9 rfl (by decide)) (elo_call (ea_f (ev_val (α := Int) n1 rfl) (ea_r (ev_val (α := (List (Int × Int))) handed14 rfl) (ea_f (ev_val (α := Int) x13.1 rfl) (ea_f (ev_val (α := Int) x13.2 rfl) ea_nil))))) fun told15 =>
    (sv_asg (ev_call (ea_f (ev_val (α := (List (Int × Int))) tieshere2 rfl) (ea_f (ev_val (α := Int) x13.1 rfl) (ea_f (ev_val (α := Int) x13.2 rfl) ea_nil)))) (fun _ => tg_f (ilt (n := 12) 10 rfl (by decide))) fun farhere16 =>
    (sv_ifs (et_not (et_B (ev_call (ea_r (ev_opt (α := Int) told15 rfl) (ea_r (ev_val (α := (List (Int × Int))) tieshere2 rfl) (ea_f (ev_val (α := (Option Int)) farhere16 rfl) (ea_f (ev_val (α := Int) x13.1 rfl) (ea_f (ev_val (α := Int) x13.2 rfl) ea_nil))))))))
    (sv_assoc (sv_dead (sv_ret (w := Flow.dn) (ev_c_bl false) fun _ => rfl)))
    (sv_nx (sv_then (τ' := Unit) (e1 := fun s17 => [.scr script0, .val (em (n1 : Int)), .val (em (tieshere2 : (List (Int × Int)))), .val (em (s4 : (List (Int × Int)))), .no, .no, .val (em (x13.1 : Int)), .val (em (x13.2 : Int)), .val (em (handed14 : (List (Int × Int)))), .no, .val (em (farhere16 : (Option Int))), .no]) (sv_if (et_test (ev_notN (ev_opt (α := Int) told15 rfl) fun _ _ _ q => ⟨rfl, q⟩))
    (sv_appOpt (α := Int) (x := told15) (ilt (n := 12) 9 rfl (by decide)) rfl (ev_val (α := Int) x13.1 rfl) fun told18 =>
    (sv_setOpt (α := Int) (x := told18) (ilt (n := 12) 9 rfl (by decide)) rfl (ev_neg (ev_c_int 1)) (ev_c_int 0) fun told19 =>
    (sv_end (.same (.same (.same (.same (.same (.same (.same (.same (.same (.drop (.same (.same .nil)))))))))))) (Or.inl rfl))))
    (sv_end (.same (.same (.same (.same (.same (.same (.same (.same (.same (.drop (.same (.same .nil)))))))))))) (Or.inl rfl))) fun s17 =>
    (sv_asg (ev_LO (elo_call (ea_f (ev_val (α := Int) n1 rfl) (ea_r (ev_val (α := (List (Int × Int))) handed14 rfl) (ea_f (ev_val (α := Int) x13.1 rfl) (ea_f (ev_val (α := Int) x13.2 rfl) ea_nil)))))) (fun _ => tg_f (ilt (n := 12) 11 rfl (by decide))) fun again20 =>
    (sv_ifs (et_or (et_not (et_B (ev_call (ea_r (ev_val (α := (Option (List Int))) again20 rfl) (ea_r (ev_val (α := (List (Int × Int))) tieshere2 rfl) (ea_f (ev_val (α := (Option Int)) farhere16 rfl) (ea_f (ev_val (α := Int) x13.1 rfl) (ea_f (ev_val (α := Int) x13.2 rfl) ea_nil)))))))) (et_test (ev_ned (by decide) (by decide) (ev_val (α := (List (Int × Int))) handed14 rfl) (ev_val (α := (List (Int × Int))) tieshere2 rfl))))
    (sv_assoc (sv_dead (sv_ret (w := Flow.dn) (ev_c_bl false) fun _ => rfl)))
    (sv_nx (sv_end (.same (.same (.same (.same (.same (.same (.drop (.drop (.drop (.same (.drop (.drop .nil)))))))))))) (Or.inr rfl)))))))))))) (fun _ => rfl) (fun _ => rfl) (fun r x h => by cases h; exact ⟨rfl, rfl⟩) fun s12 =>
    (sv_dead (sv_ret0 (ev_c_bl true) fun _ => rfl))))))))⟩
end
end Tw
/-! Plain facts about the optional answers. -/
namespace Tw
open PySem L2
section
variable {α β γ δ S ρ τ : Type}
theorem bind_s (x : α) (f : α → Option β) : Option.bind (some x) f = f x := (rfl)
theorem map_s (x : α) (f : α → β) : Option.map f (some x) = some (f x) := (rfl)
@[simp] theorem oadd_s (a b : Int) : oadd (some a) (some b) = some (a + b) := (rfl)
@[simp] theorem osub_s (a b : Int) : osub (some a) (some b) = some (a - b) := (rfl)
@[simp] theorem oneg_s (a : Int) : oneg (some a) = some (-a) := (rfl)
@[simp] theorem olt_s (a b : Int) : olt (some a) (some b) = some (decide (a < b)) := (rfl)
@[simp] theorem ole_s (a b : Int) : ole (some a) (some b) = some (decide (a ≤ b)) := (rfl)
@[simp] theorem ogt_s (a b : Int) : ogt (some a) (some b) = some (decide (b < a)) := (rfl)
@[simp] theorem oge_s (a b : Int) : oge (some a) (some b) = some (decide (b ≤ a)) := (rfl)
@[simp] theorem oeq_s [DecidableEq α] (a b : α) : oeq (some a) (some b) = some (decide (a = b)) := (rfl)
@[simp] theorem one_s [DecidableEq α] (a b : α) : one (some a) (some b) = some (!decide (a = b)) := (rfl)
@[simp] theorem oeqd_s [Em α] [Em β] (a : α) (b : β) : oeqd (some a) (some b) = some (PyData.eqv (em a) (em b)) := (rfl)
@[simp] theorem oned_s [Em α] [Em β] (a : α) (b : β) : oned (some a) (some b) = some (!PyData.eqv (em a) (em b)) := (rfl)
@[simp] theorem onot_s (a : Bool) : onot (some a) = some (!a) := (rfl)
@[simp] theorem oand_t (b : Option Bool) : oand (some true) b = b := (rfl)
@[simp] theorem oand_f (b : Option Bool) : oand (some false) b = some false := (rfl)
@[simp] theorem oor_t (b : Option Bool) : oor (some true) b = some true := (rfl)
@[simp] theorem oor_f (b : Option Bool) : oor (some false) b = b := (rfl)
theorem oand_s (a b : Bool) : oand (some a) (some b) = some (a && b) := by cases a <;> rfl
theorem oor_s (a b : Bool) : oor (some a) (some b) = some (a || b) := by cases a <;> rfl
@[simp] theorem oite_t (a b : Option α) : oite (some true) a b = a := (rfl)
@[simp] theorem oite_f (a b : Option α) : oite (some false) a b = b := (rfl)
theorem oite_s (c : Bool) (a b : Option α) : oite (some c) a b = if c then a else b := (rfl)
@[simp] theorem olen_s (xs : List α) : olen (some xs) = some (xs.length : Int) := (rfl)
@[simp] theorem olen2_s (x : α × β) : olen2 (some x) = some 2 := (rfl)
@[simp] theorem otup2_s (a : α) (b : β) : otup2 (some a) (some b) = some (a, b) := (rfl)
@[simp] theorem otup3_s (a : α) (b : β) (c : γ) : otup3 (some a) (some b) (some c) = some ⟨a, b, c⟩ := (rfl)
@[simp] theorem otup4_s (a : α) (b : β) (c : γ) (d : δ) : otup4 (some a) (some b) (some c) (some d) = some ⟨a, b, c, d⟩ := (rfl)
@[simp] theorem omax2_s (a b : Int) : omax2 (some a) (some b) = some (max a b) := by
  show some (if b > a then b else a) = _
  congr 1
  omega
@[simp] theorem omin2_s (a b : Int) : omin2 (some a) (some b) = some (min a b) := by
  show some (if b < a then b else a) = _
  congr 1
  omega
@[simp] theorem ocons_s (x : α) (xs : List α) : ocons (some x) (some xs) = some (x :: xs) := (rfl)
@[simp] theorem oarg_s (x : α) (y : β) : oarg (some x) (some y) = some (x, y) := (rfl)
@[simp] theorem oints_s (b : Bool) : oints (some b) = some (if b then 1 else 0) := (rfl)
@[simp] theorem oisi_s [Em α] (T : String) (x : α) : oisi T (some x) = some (isiD T (em x)) := (rfl)
@[simp] theorem oisN_s (x : Option α) : oisN (some x) = some x.isNone := (rfl)
@[simp] theorem onotN_s (x : Option α) : onotN (some x) = some x.isSome := (rfl)
@[simp] theorem oind_s [Em α] (x : α) (xs : List α) : oind (some x) (some xs) = some (xs.any fun z => PyData.eqv (em z) (em x)) := (rfl)
@[simp] theorem onind_s [Em α] (x : α) (xs : List α) : onind (some x) (some xs) = some (!xs.any fun z => PyData.eqv (em z) (em x)) := (rfl)
@[simp] theorem ocut_s (xs : List α) (l h : Option Int) : ocut (some xs) (some l) (some h) = some (cutG xs l h) := (rfl)
@[simp] theorem osum_s (xs : List Int) : osum (some xs) = some xs.sum := (rfl)
@[simp] theorem oall_s (xs : List Bool) : oall (some xs) = some (xs.all id) := (rfl)
@[simp] theorem oany_s (xs : List Bool) : oany (some xs) = some (xs.any id) := (rfl)
@[simp] theorem osortI_s (xs : List Int) : osortI (some xs) = some (sortI xs) := (rfl)
theorem oix_s (xs : List α) (i : Int) : oix (some xs) (some i) = atI xs i := (rfl)
theorem omod_s {a b : Int} (h : 0 < b) : omod (some a) (some b) = some (a % b) := if_pos h
theorem ofdiv_s {a b : Int} (h : 0 < b) (h2 : b < 1073741824) : ofdiv (some a) (some b) = some (a / b) := if_pos ⟨h, h2⟩
theorem omul_r {a b : Int} (h : b.natAbs < 2 ^ 64) : omul (some a) (some b) = some (a * b) := if_pos (.inr h)
theorem omul_l {a b : Int} (h : a.natAbs < 2 ^ 64) : omul (some a) (some b) = some (a * b) := if_pos (.inl h)
theorem opow_s {a b : Int} (h0 : 0 ≤ b) (h1 : b ≤ 1000000) (h2 : a.natAbs < 2 ^ 64) : opow (some a) (some b) = some (a ^ b.toNat) := if_pos ⟨h0, h1, h2⟩
theorem ocat_s {xs ys : List α} (h : xs.length + ys.length ≤ 100000) : ocat (some xs) (some ys) = some (xs ++ ys) := if_pos h
theorem oapp_s {xs : List α} {x : α} (h : xs.length < 100000) : oapp xs x = some (xs ++ [x]) := if_pos h
theorem atI_nat' {xs : List α} {i : Nat} (h : i < xs.length) : atI xs (i : Int) = some xs[i] := by
  rw [atI_nat (List.getElem?_eq_getElem h)]
theorem atI_of {xs : List α} {i : Int} (h0 : 0 ≤ i) (h : i < xs.length) : atI xs i = some (xs[i.toNat]'(by omega)) := by
  obtain ⟨n, rfl⟩ := Int.eq_ofNat_of_zero_le h0
  exact atI_nat' (by omega)
theorem orange1_s {n : Int} (h : -(2 ^ 62) ≤ n ∧ n < 2 ^ 62) : orange1 (some n) = some (upto n.toNat 0 1) := if_pos h
theorem orange2_s {i j : Int} (h : -(2 ^ 62) ≤ i ∧ i < 2 ^ 62 ∧ -(2 ^ 62) ≤ j ∧ j < 2 ^ 62) : orange2 (some i) (some j) = some (upto (j - i).toNat i 1) := if_pos h
theorem mem_upto1 {n : Nat} {lo x : Int} (h : x ∈ upto n lo 1) : lo ≤ x ∧ x < lo + n := by
  unfold upto at h
  rw [List.mem_map] at h
  obtain ⟨i, hi, rfl⟩ := h
  rw [List.mem_range] at hi
  omega
theorem mem_upto {n : Nat} {lo c x : Int} (h : x ∈ upto n lo c) : ∃ i : Nat, i < n ∧ x = lo + i * c := by
  unfold upto at h
  rw [List.mem_map] at h
  obtain ⟨i, hi, rfl⟩ := h
  exact ⟨i, List.mem_range.mp hi, rfl⟩
/-- a loop that only looks -/
theorem loop_all {f : Unit → α → Option (Flow Unit ρ)} : ∀ {xs : List α}, (∀ x ∈ xs, f () x = some (.nx ())) → loopM f xs () = some (.nx ())
  | [], _ => rfl
  | x :: xs, h => by
    simp only [loopM]
    rw [h x (by simp)]
    exact loop_all fun y hy => h y (by simp [hy])
/-- a loop by its word -/
theorem loop_inv {f : S → α → Option (Flow S ρ)} (I : List α → S → Prop) : ∀ {xs pre : List α} {s : S}, I pre s → (∀ pre x s, I pre s → x ∈ xs → ∃ s', f s x = some (.nx s') ∧ I (pre ++ [x]) s') → ∃ s', loopM f xs s = some (.nx s') ∧ I (pre ++ xs) s'
  | [], pre, s, h, _ => ⟨s, rfl, by rw [List.append_nil]; exact h⟩
  | x :: xs, pre, s, h, hs => by
    obtain ⟨s1, e1, h1⟩ := hs pre x s h (by simp)
    obtain ⟨s2, e2, h2⟩ := loop_inv I (xs := xs) (pre := pre ++ [x]) h1 fun p y s i hy => hs p y s i (by simp [hy])
    refine ⟨s2, ?_, by rw [List.append_assoc] at h2; exact h2⟩
    simp only [loopM]
    rw [e1]
    exact e2
theorem loop_inv2 {f : S → α → Option (Flow S ρ)} (I : List α → S → Prop) {all : List α} {s : S} (h : I [] s) (hs : ∀ pre x post s, all = pre ++ x :: post → I pre s → ∃ s', f s x = some (.nx s') ∧ I (pre ++ [x]) s') : ∃ s', loopM f all s = some (.nx s') ∧ I all s' := by
  have go : ∀ (xs pre : List α) (s : S), all = pre ++ xs → I pre s → ∃ s', loopM f xs s = some (.nx s') ∧ I all s' := by
    intro xs
    induction xs with
    | nil => intro pre s e i; exact ⟨s, rfl, by rw [e, List.append_nil]; exact i⟩
    | cons x xs ih =>
      intro pre s e i
      obtain ⟨s1, e1, i1⟩ := hs pre x xs s e i
      obtain ⟨s2, e2, i2⟩ := ih (pre ++ [x]) s1 (by rw [e, List.append_assoc]; rfl) i1
      refine ⟨s2, ?_, i2⟩
      simp only [loopM]
      rw [e1]
      exact e2
  exact go all [] s rfl h
theorem upto_split {n : Nat} {lo c : Int} {pre post : List Int} {x : Int} (h : upto n lo c = pre ++ x :: post) : x = lo + (pre.length : Int) * c ∧ pre.length < n := by
  have hl := congrArg List.length h
  rw [upto_len, List.length_append, List.length_cons] at hl
  have hp : pre.length < n := by omega
  have e := upto_get (lo := lo) (c := c) hp
  rw [h, List.getElem?_append_right (Nat.le_refl _), Nat.sub_self] at e
  exact ⟨(Option.some.inj e), hp⟩
theorem upto1 (n : Nat) : upto n 0 1 = (List.range n).map fun i : Nat => (i : Int) := by
  unfold upto
  refine List.map_congr_left fun i _ => ?_
  omega
theorem loop_fold {f : S → α → Option (Flow S ρ)} {g : S → α → S} : ∀ {xs : List α} {s : S}, (∀ s x, x ∈ xs → f s x = some (.nx (g s x))) → loopM f xs s = some (.nx (xs.foldl g s))
  | [], _, _ => rfl
  | x :: xs, s, h => by
    simp only [loopM]
    rw [h s x (by simp)]
    exact loop_fold fun s y hy => h s y (by simp [hy])
@[simp] theorem after_nx (s : S) (k : S → Option τ) (d : ρ → Option τ) : after (some (.nx s)) k d = k s := (rfl)
@[simp] theorem after_dn (r : ρ) (k : S → Option τ) (d : ρ → Option τ) : after (some (.dn r)) k d = d r := (rfl)
/-- a loop that neither leaves nor fails, by its word; G what is wanted of the whole -/
theorem after_by {G : Option τ → Prop} {f : S → α → Option (Flow S ρ)} {all : List α} {s : S} {k : S → Option τ} {d : ρ → Option τ} (I : List α → S → Prop) (h0 : I [] s)
    (hs : ∀ pre x post s, all = pre ++ x :: post → I pre s → ∃ s', f s x = some (.nx s') ∧ I (pre ++ [x]) s') (hk : ∀ s', I all s' → G (k s')) : G (after (loopM f all s) k d) := by
  obtain ⟨s', e, i⟩ := loop_inv2 I h0 hs
  rw [e]
  exact hk s' i
/-- a loop that only looks -/
theorem after_all {G : Option τ → Prop} {f : Unit → α → Option (Flow Unit ρ)} {all : List α} {k : Unit → Option τ} {d : ρ → Option τ}
    (hs : ∀ x ∈ all, f () x = some (.nx ())) (hk : G (k ())) : G (after (loopM f all ()) k d) := by
  rw [loop_all hs]
  exact hk
/-- a loop that may hand something back -/
theorem after_by2 {G : Option τ → Prop} {f : S → α → Option (Flow S ρ)} {all : List α} {s : S} {k : S → Option τ} {d : ρ → Option τ} (I : List α → S → Prop) (h0 : I [] s)
    (hs : ∀ pre x post s, all = pre ++ x :: post → I pre s → (∃ s', f s x = some (.nx s') ∧ I (pre ++ [x]) s') ∨ ∃ r, f s x = some (.dn r) ∧ G (d r)) (hk : ∀ s', I all s' → G (k s')) : G (after (loopM f all s) k d) := by
  have go : ∀ (xs pre : List α) (s : S), all = pre ++ xs → I pre s → G (after (loopM f xs s) k d) := by
    intro xs
    induction xs with
    | nil =>
      intro pre s e i
      rw [List.append_nil] at e
      exact hk s (e ▸ i)
    | cons x xs ih =>
      intro pre s e i
      rcases hs pre x xs s e i with ⟨s1, e1, i1⟩ | ⟨r, e1, g⟩
      · have := ih (pre ++ [x]) s1 (by rw [e, List.append_assoc]; rfl) i1
        simp only [loopM]
        rw [e1]
        exact this
      · simp only [loopM]
        rw [e1]
        exact g
  exact go all [] s rfl h0
theorem ocomp_all {c : α → Option Bool} {k : α → Option β} {f : α → β} : ∀ {xs : List α}, (∀ x ∈ xs, c x = some true ∧ k x = some (f x)) → ocomp c k xs = some (xs.map f)
  | [], _ => rfl
  | x :: xs, h => by
    simp only [ocomp]
    obtain ⟨h1, h2⟩ := h x (by simp)
    rw [h1, h2]
    show (ocomp c k xs).bind _ = _
    rw [ocomp_all fun y hy => h y (by simp [hy])]
    rfl
theorem olc_s {c : α → Option Bool} {k : α → Option β} {xs : List α} (hl : xs.length ≤ 100000) : olc (some xs) c k = ocomp c k xs := if_pos hl
theorem olc_all {c : α → Option Bool} {k : α → Option β} {f : α → β} {xs : List α} (hl : xs.length ≤ 100000) (h : ∀ x ∈ xs, c x = some true ∧ k x = some (f x)) : olc (some xs) c k = some (xs.map f) := by
  show (if xs.length ≤ 100000 then ocomp c k xs else none) = _
  rw [if_pos hl, ocomp_all h]
theorem ocomp_filter {c : α → Option Bool} {k : α → Option β} {p : α → Bool} {f : α → β} : ∀ {xs : List α}, (∀ x ∈ xs, c x = some (p x) ∧ (p x = true → k x = some (f x))) → ocomp c k xs = some ((xs.filter p).map f)
  | [], _ => rfl
  | x :: xs, h => by
    simp only [ocomp]
    obtain ⟨h1, h2⟩ := h x (by simp)
    rw [h1]
    have ih := ocomp_filter (c := c) (k := k) (p := p) (f := f) (xs := xs) fun y hy => h y (by simp [hy])
    cases hp : p x with
    | true =>
      rw [List.filter_cons_of_pos hp]
      show (k x).bind _ = _
      rw [h2 hp]
      show (ocomp c k xs).bind _ = _
      rw [ih]
      rfl
    | false =>
      rw [List.filter_cons_of_neg (by rw [hp]; decide)]
      exact ih
theorem olc_filter {c : α → Option Bool} {k : α → Option β} {p : α → Bool} {f : α → β} {xs : List α} (hl : xs.length ≤ 100000) (h : ∀ x ∈ xs, c x = some (p x) ∧ (p x = true → k x = some (f x))) : olc (some xs) c k = some ((xs.filter p).map f) := by
  show (if xs.length ≤ 100000 then ocomp c k xs else none) = _
  rw [if_pos hl, ocomp_filter h]
end
/-! ### dicts -/
theorem dget_put {κ β : Type} [DecidableEq κ] (kvs : List (κ × β)) (k k' : κ) (v : β) : dget (dput kvs k v) k' = if k = k' then some v else dget kvs k' := by
  unfold dput dget
  by_cases h : (kvs.any fun x => decide (x.1 = k)) = true
  · rw [if_pos h, List.find?_map]
    have e : ((fun x : κ × β => decide (x.1 = k')) ∘ fun x : κ × β => if x.1 = k then (x.1, v) else x) = fun x => decide (x.1 = k') := by
      funext x
      show decide ((if x.1 = k then (x.1, v) else x).1 = k') = _
      split <;> rfl
    rw [e]
    by_cases e2 : k = k'
    · subst e2
      rw [if_pos rfl]
      cases hf : kvs.find? (fun x => decide (x.1 = k)) with
      | none =>
        obtain ⟨x, hx, hd⟩ := List.any_eq_true.mp h
        exact absurd hd (List.find?_eq_none.mp hf x hx)
      | some x =>
        have hx : x.1 = k := by simpa using List.find?_some hf
        simp [hx]
    · rw [if_neg e2]
      cases hf : kvs.find? (fun x => decide (x.1 = k')) with
      | none => rfl
      | some x =>
        have hx : x.1 = k' := by simpa using List.find?_some hf
        have : ¬ x.1 = k := fun z => e2 (z.symm.trans hx)
        simp [this]
  · rw [if_neg h, List.find?_append]
    by_cases e2 : k = k'
    · subst e2
      have : kvs.find? (fun x => decide (x.1 = k)) = none := by
        rw [List.find?_eq_none]
        intro x hx hd
        exact h (List.any_eq_true.mpr ⟨x, hx, hd⟩)
      rw [this, if_pos rfl]
      simp
    · rw [if_neg e2]
      have : [(k, v)].find? (fun x : κ × β => decide (x.1 = k')) = none := by simp [e2]
      rw [this, Option.or_none]
theorem dput_len {κ β : Type} [DecidableEq κ] (kvs : List (κ × β)) (k : κ) (v : β) : (dput kvs k v).length ≤ kvs.length + 1 := by
  unfold dput
  split
  · rw [List.length_map]; omega
  · rw [List.length_append, List.length_singleton]; exact Nat.le_refl _
theorem dget_nil {κ β : Type} [DecidableEq κ] (k : κ) : dget ([] : List (κ × β)) k = none := rfl
theorem odput_s {κ β : Type} [DecidableEq κ] {kvs : List (κ × β)} {k : κ} {v : β} (h : kvs.length < 100000) : odput kvs k v = some (dput kvs k v) := if_pos h
@[simp] theorem odin_s {κ β : Type} [DecidableEq κ] (k : κ) (kvs : List (κ × β)) : odin (some k) kvs = some (dget kvs k).isSome := (rfl)
@[simp] theorem odnin_s {κ β : Type} [DecidableEq κ] (k : κ) (kvs : List (κ × β)) : odnin (some k) kvs = some (!(dget kvs k).isSome) := (rfl)
@[simp] theorem odget_s {κ β : Type} [DecidableEq κ] (k : κ) (kvs : List (κ × β)) : odget kvs (some k) = dget kvs k := (rfl)
/-! ### slices -/
theorem cut_to {α : Type} (xs : List α) (k : Nat) : cutG xs none (some (k : Int)) = xs.take k := by
  unfold cutG
  rw [HT.sIx_none, HT.sIx_nat]
  simp only [List.drop_zero, Nat.sub_zero]
  by_cases h : k ≤ xs.length
  · rw [Nat.min_eq_left h]
  · rw [Nat.min_eq_right (by omega), List.take_of_length_le (by omega), List.take_of_length_le (by omega)]
theorem cut_from {α : Type} (xs : List α) (k : Nat) : cutG xs (some (k : Int)) none = xs.drop k := by
  unfold cutG
  rw [HT.sIx_none, HT.sIx_nat]
  by_cases h : k ≤ xs.length
  · rw [Nat.min_eq_left h, List.take_of_length_le (by rw [List.length_drop]; omega)]
  · rw [Nat.min_eq_right (by omega), List.drop_of_length_le (by omega), List.drop_of_length_le (by omega)]
    simp
theorem cut_mid {α : Type} (xs : List α) (k m : Nat) : cutG xs (some (k : Int)) (some (m : Int)) = (xs.take m).drop k := by
  unfold cutG
  rw [HT.sIx_nat, HT.sIx_nat, List.drop_take]
  by_cases h : m ≤ xs.length
  · rw [Nat.min_eq_left h]
    by_cases h2 : k ≤ xs.length
    · rw [Nat.min_eq_left h2]
    · rw [List.drop_of_length_le (by omega), List.drop_of_length_le (by omega)]
      simp
  · rw [Nat.min_eq_right (by omega)]
    by_cases h2 : k ≤ xs.length
    · rw [Nat.min_eq_left h2, List.take_of_length_le (by rw [List.length_drop]; omega), List.take_of_length_le (by rw [List.length_drop]; omega)]
    · rw [List.drop_of_length_le (by omega), List.drop_of_length_le (by omega)]
      simp
theorem cutG_le {α : Type} (xs : List α) (l h : Option Int) : (cutG xs l h).length ≤ xs.length := by
  unfold cutG
  rw [List.length_take, List.length_drop]
  omega
theorem atI_last {α : Type} (xs : List α) (h : 0 < xs.length) : atI xs (-1) = some (xs[xs.length - 1]'(by omega)) := by
  unfold atI ixN
  rw [if_neg (by omega), if_pos (by omega)]
  show xs[(-1 + (xs.length : Int)).toNat]? = _
  rw [show (-1 + (xs.length : Int)).toNat = xs.length - 1 by omega, List.getElem?_eq_getElem (by omega)]
theorem atI_out {α : Type} (xs : List α) {i : Int} (h : (xs.length : Int) ≤ i) : atI xs i = none := by
  unfold atI ixN
  rw [if_pos (by omega), if_neg (by omega)]
  rfl
/-! ### data compared -/
@[simp] theorem em_int (i : Int) : em i = PyData.int i := (rfl)
@[simp] theorem em_bool (i : Bool) : em i = PyData.bool i := (rfl)
theorem em_list {α : Type} [Em α] (xs : List α) : em xs = PyData.list (xs.map em) := (rfl)
theorem em_pair {α β : Type} [Em α] [Em β] (x : α × β) : em x = PyData.tuple [em x.1, em x.2] := (rfl)
theorem em_t4 {α β γ δ : Type} [Em α] [Em β] [Em γ] [Em δ] (x : T4 α β γ δ) : em x = PyData.tuple [em x.a, em x.b, em x.c, em x.d] := (rfl)
/-- data of which == tells equality -/
class Eqv (α : Type) [Em α] [DecidableEq α] : Prop where
  eq : ∀ x y : α, PyData.eqv (em x) (em y) = decide (x = y)
instance : Eqv Int := ⟨fun x y => by
  show PyData.eqv (.int x) (.int y) = _
  simp only [PyData.eqv]
  rw [Bool.beq_eq_decide_eq]⟩
instance : Eqv Bool := ⟨fun x y => by
  show PyData.eqv (.bool x) (.bool y) = _
  cases x <;> cases y <;> simp [PyData.eqv]⟩
theorem eqvAll_map {α : Type} [Em α] [DecidableEq α] [Eqv α] : ∀ xs ys : List α, PyData.eqvAll (xs.map em) (ys.map em) = decide (xs = ys)
  | [], [] => by simp [PyData.eqvAll]
  | [], y :: ys => by simp [PyData.eqvAll]
  | x :: xs, [] => by simp [PyData.eqvAll]
  | x :: xs, y :: ys => by
    simp only [List.map_cons, PyData.eqvAll]
    rw [Eqv.eq x y, eqvAll_map xs ys]
    by_cases h1 : x = y <;> by_cases h2 : xs = ys <;> simp [h1, h2]
instance {α : Type} [Em α] [DecidableEq α] [Eqv α] : Eqv (List α) := ⟨fun x y => by
  rw [em_list, em_list]
  simp only [PyData.eqv]
  exact eqvAll_map x y⟩
instance {α β : Type} [Em α] [DecidableEq α] [Eqv α] [Em β] [DecidableEq β] [Eqv β] : Eqv (α × β) := ⟨fun x y => by
  rw [em_pair, em_pair]
  simp only [PyData.eqv, PyData.eqvAll]
  rw [Eqv.eq x.1 y.1, Eqv.eq x.2 y.2]
  obtain ⟨a, b⟩ := x
  obtain ⟨c, d⟩ := y
  by_cases h1 : a = c <;> by_cases h2 : b = d <;> simp [h1, h2]⟩
instance {α β γ δ : Type} [Em α] [DecidableEq α] [Eqv α] [Em β] [DecidableEq β] [Eqv β] [Em γ] [DecidableEq γ] [Eqv γ] [Em δ] [DecidableEq δ] [Eqv δ] : Eqv (T4 α β γ δ) := ⟨fun x y => by
  rw [em_t4, em_t4]
  simp only [PyData.eqv, PyData.eqvAll]
  rw [Eqv.eq x.a y.a, Eqv.eq x.b y.b, Eqv.eq x.c y.c, Eqv.eq x.d y.d]
  obtain ⟨a, b, c, d⟩ := x
  obtain ⟨a', b', c', d'⟩ := y
  by_cases h1 : a = a' <;> by_cases h2 : b = b' <;> by_cases h3 : c = c' <;> by_cases h4 : d = d' <;> simp [h1, h2, h3, h4]⟩
/-- data that are not None -/
class Nz (α : Type) [Em α] : Prop where
  l : ∀ x : α, PyData.eqv .none (em x) = false
  r : ∀ x : α, PyData.eqv (em x) .none = false
instance : Nz Int := ⟨fun x => by show PyData.eqv .none (.int x) = false; simp [PyData.eqv], fun x => by show PyData.eqv (.int x) .none = false; simp [PyData.eqv]⟩
instance {α : Type} [Em α] : Nz (List α) := ⟨fun x => by rw [em_list]; simp [PyData.eqv], fun x => by rw [em_list]; simp [PyData.eqv]⟩
instance {α β : Type} [Em α] [Em β] : Nz (α × β) := ⟨fun x => by rw [em_pair]; simp [PyData.eqv], fun x => by rw [em_pair]; simp [PyData.eqv]⟩
instance {α : Type} [Em α] [DecidableEq α] [Eqv α] [Nz α] : Eqv (Option α) := ⟨fun x y => by
  cases x with
  | none =>
    cases y with
    | none => show PyData.eqv .none .none = _; simp [PyData.eqv]
    | some y => show PyData.eqv .none (em y) = _; rw [Nz.l y]; simp
  | some x =>
    cases y with
    | none => show PyData.eqv (em x) .none = _; rw [Nz.r x]; simp
    | some y => show PyData.eqv (em x) (em y) = _; rw [Eqv.eq x y]; simp⟩
@[simp] theorem eqv_int (x y : Int) : PyData.eqv (.int x) (.int y) = decide (x = y) := Eqv.eq x y
@[simp] theorem eqv_bool (x y : Bool) : PyData.eqv (.bool x) (.bool y) = decide (x = y) := Eqv.eq x y
theorem eqv_em {α : Type} [Em α] [DecidableEq α] [Eqv α] (x y : α) : PyData.eqv (em x) (em y) = decide (x = y) := Eqv.eq x y
theorem oidx_s {α : Type} [Em α] [DecidableEq α] [Eqv α] (xs : List α) (y : α) : oidx (some xs) (some y) = (xs.findIdx? fun z => decide (z = y)).map fun j : Nat => (j : Int) := by
  show (xs.findIdx? fun z => PyData.eqv (em z) (em y)).map _ = _
  have : (fun z : α => PyData.eqv (em z) (em y)) = fun z => decide (z = y) := funext fun z => eqv_em z y
  rw [this]
/-! ### isinstance -/
theorem isi_int (i : Int) : isiD "int" (.int i) = true := (by decide +kernel : (kitB "int" "int").getD false = true)
theorem isi_int_bool (i : Int) : isiD "bool" (.int i) = false := (by decide +kernel : (kitB "int" "bool").getD false = false)
theorem isi_bool (i : Bool) : isiD "bool" (.bool i) = true := (by decide +kernel : (kitB "bool" "bool").getD false = true)
theorem isi_bool_int (i : Bool) : isiD "int" (.bool i) = true := (by decide +kernel : (kitB "bool" "int").getD false = true)
theorem isi_list (ds : List PyData) : isiD "list" (.list ds) = true := (by decide +kernel : (kitB "list" "list").getD false = true)
theorem isi_tuple (ds : List PyData) : isiD "tuple" (.tuple ds) = true := (by decide +kernel : (kitB "tuple" "tuple").getD false = true)
theorem isi_list_int (ds : List PyData) : isiD "int" (.list ds) = false := (by decide +kernel : (kitB "list" "int").getD false = false)
theorem isi_tuple_int (ds : List PyData) : isiD "int" (.tuple ds) = false := (by decide +kernel : (kitB "tuple" "int").getD false = false)
theorem isi_str_int (s : Str) : isiD "int" (.str s) = false := (by decide +kernel : (kitB "str" "int").getD false = false)
theorem isi_none_int : isiD "int" .none = false := (by decide +kernel : (kitB "NoneType" "int").getD false = false)
end Tw
/-! Rounds: lists grown by going to a new place and back. -/
namespace Tw
/-- a new place x gone to from number j -/
def ins {α : Type} (r : List α) (j : Nat) (x : α) : List α := r.take (j + 1) ++ x :: r.drop j
theorem ins_len {α : Type} {r : List α} {j : Nat} {x : α} (h : j < r.length) : (ins r j x).length = r.length + 2 := by
  unfold ins
  rw [List.length_append, List.length_cons, List.length_take, List.length_drop]
  omega
theorem ins_mem {α : Type} {r : List α} {j : Nat} {x y : α} (h : j < r.length) : y ∈ ins r j x ↔ y = x ∨ y ∈ r := by
  unfold ins
  rw [List.mem_append, List.mem_cons]
  constructor
  · rintro (h | h | h)
    · exact .inr (List.mem_of_mem_take h)
    · exact .inl h
    · exact .inr (List.mem_of_mem_drop h)
  · rintro (h | h)
    · exact .inr (.inl h)
    · rw [← List.take_append_drop j r, List.mem_append] at h
      rcases h with h | h
      · refine .inl ?_
        rw [show r.take (j + 1) = r.take j ++ [r[j]] from List.take_succ_eq_append_getElem ‹_›]
        exact List.mem_append.mpr (.inl h)
      · exact .inr (.inr h)
theorem ins_head {α : Type} {r : List α} {j : Nat} {x : α} (h : j < r.length) : (ins r j x)[0]? = r[0]? := by
  unfold ins
  rw [List.getElem?_append_left (by rw [List.length_take]; omega), List.getElem?_take_of_lt (by omega)]
theorem ins_last {α : Type} {r : List α} {j : Nat} {x : α} (h : j < r.length) : (ins r j x)[(ins r j x).length - 1]? = r[r.length - 1]? := by
  rw [ins_len h]
  unfold ins
  rw [List.getElem?_append_right (by rw [List.length_take]; omega), List.length_take]
  rw [show r.length + 2 - 1 - min (j + 1) r.length = (r.length - 1 - j) + 1 by omega, List.getElem?_cons_succ, List.getElem?_drop]
  congr 1
  omega
/-- a round of the places f 0 .. f m, grown in this order -/
inductive Grow {α : Type} (f : Nat → α) : Nat → List α → Prop
  | one : Grow f 0 [f 0]
  | more {m : Nat} {r : List α} {j : Nat} : Grow f m r → j < r.length → Grow f (m + 1) (ins r j (f (m + 1)))
theorem Grow.len {α : Type} {f : Nat → α} {m : Nat} {r : List α} (g : Grow f m r) : r.length = 2 * m + 1 := by
  induction g with
  | one => rfl
  | more g h ih => rw [ins_len h, ih]; omega
theorem Grow.mem {α : Type} {f : Nat → α} {m : Nat} {r : List α} (g : Grow f m r) (y : α) : y ∈ r ↔ ∃ i, i ≤ m ∧ y = f i := by
  induction g with
  | one => simp
  | @more m r j g h ih =>
    rw [ins_mem h, ih]
    constructor
    · rintro (rfl | ⟨i, hi, rfl⟩)
      · exact ⟨m + 1, Nat.le_refl _, rfl⟩
      · exact ⟨i, by omega, rfl⟩
    · rintro ⟨i, hi, rfl⟩
      by_cases e : i = m + 1
      · exact .inl (by rw [e])
      · exact .inr ⟨i, by omega, rfl⟩
theorem Grow.head {α : Type} {f : Nat → α} {m : Nat} {r : List α} (g : Grow f m r) : r[0]? = some (f 0) := by
  induction g with
  | one => rfl
  | more g h ih => rw [ins_head h, ih]
theorem Grow.last {α : Type} {f : Nat → α} {m : Nat} {r : List α} (g : Grow f m r) : r[r.length - 1]? = some (f 0) := by
  induction g with
  | one => rfl
  | more g h ih => rw [ins_last h, ih]
theorem ins_cut {r : List Int} {j : Nat} {x : Int} : cutG r none (some ((j : Int) + 1)) ++ [x] ++ cutG r (some (j : Int)) none = ins r j x := by
  rw [cut_from, show ((j : Int) + 1) = ((j + 1 : Nat) : Int) by omega, cut_to]
  unfold ins
  simp
end Tw
/-! Rounds of trees: turned, walked. -/
namespace Tw
section
variable {α : Type} [DecidableEq α]
inductive Rnd : List α → Prop
  | one (a : α) : Rnd [a]
  | more {r : List α} {j : Nat} {x : α} : Rnd r → j < r.length → x ∉ r → Rnd (ins r j x)
theorem Grow.rnd {f : Nat → α} {m : Nat} {r : List α} (g : Grow f m r) (hf : ∀ i j, i ≤ m → j ≤ m → f i = f j → i = j) : Rnd r := by
  induction g with
  | one => exact .one _
  | @more m r j g h ih =>
    refine .more (ih fun i j hi hj => hf i j (by omega) (by omega)) h fun hm => ?_
    obtain ⟨i, hi, e⟩ := (g.mem _).mp hm
    have := hf (m + 1) i (Nat.le_refl _) (by omega) e
    omega
theorem Rnd.ne {r : List α} (h : Rnd r) : r ≠ [] := by
  induction h with
  | one a => simp
  | more h hj hx ih => intro e; have := congrArg List.length e; rw [ins_len hj] at this; simp at this
theorem Rnd.pos {r : List α} (h : Rnd r) : 0 < r.length := List.length_pos_iff.mpr h.ne
theorem Rnd.closed {r : List α} (h : Rnd r) : r[0]? = r[r.length - 1]? := by
  induction h with
  | one a => rfl
  | more h hj hx ih => rw [ins_head hj, ins_last hj, ih]
/-- two that stand side by side -/
def Adj (r : List α) (a b : α) : Prop := ∃ k, r[k]? = some a ∧ r[k + 1]? = some b
theorem ins_at1 {r : List α} {j i : Nat} {x : α} (h : j < r.length) (hi : i ≤ j) : (ins r j x)[i]? = r[i]? := by
  unfold ins
  rw [List.getElem?_append_left (by rw [List.length_take]; omega), List.getElem?_take_of_lt (by omega)]
theorem ins_at2 {r : List α} {j : Nat} {x : α} (h : j < r.length) : (ins r j x)[j + 1]? = some x := by
  unfold ins
  rw [List.getElem?_append_right (by rw [List.length_take]; omega), List.length_take, Nat.min_eq_left (by omega), Nat.sub_self]
  rfl
theorem ins_at3 {r : List α} {j i : Nat} {x : α} (h : j < r.length) (hi : j + 2 ≤ i) : (ins r j x)[i]? = r[i - 2]? := by
  unfold ins
  rw [List.getElem?_append_right (by rw [List.length_take]; omega), List.length_take, Nat.min_eq_left (by omega)]
  rw [show i - (j + 1) = (i - j - 2) + 1 by omega, List.getElem?_cons_succ, List.getElem?_drop]
  congr 1
  omega
theorem adj_ins {r : List α} {j : Nat} {x a b : α} (h : j < r.length) (ha : Adj r a b) : Adj (ins r j x) a b := by
  obtain ⟨k, h1, h2⟩ := ha
  by_cases hk : k + 1 ≤ j
  · exact ⟨k, by rw [ins_at1 h (by omega), h1], by rw [ins_at1 h hk, h2]⟩
  · exact ⟨k + 2, by rw [ins_at3 h (by omega), show k + 2 - 2 = k by omega, h1], by rw [ins_at3 h (by omega), show k + 2 + 1 - 2 = k + 1 by omega, h2]⟩
theorem adj_new {r : List α} {j : Nat} {x a : α} (h : j < r.length) (ha : r[j]? = some a) : Adj (ins r j x) a x ∧ Adj (ins r j x) x a :=
  ⟨⟨j, by rw [ins_at1 h (Nat.le_refl _), ha], ins_at2 h⟩, ⟨j + 1, ins_at2 h, by rw [ins_at3 h (by omega), show j + 1 + 1 - 2 = j by omega, ha]⟩⟩
theorem adj_mem {r : List α} {a b : α} (h : Adj r a b) : a ∈ r ∧ b ∈ r := by
  obtain ⟨k, h1, h2⟩ := h
  exact ⟨List.mem_of_getElem? h1, List.mem_of_getElem? h2⟩
theorem adj_inv {r : List α} {j : Nat} {x a b : α} (h : j < r.length) (ha : Adj (ins r j x) a b) : Adj r a b ∨ (b = x ∧ r[j]? = some a) ∨ (a = x ∧ r[j]? = some b) := by
  obtain ⟨k, h1, h2⟩ := ha
  by_cases hk : k + 1 ≤ j
  · rw [ins_at1 h (by omega)] at h1
    rw [ins_at1 h hk] at h2
    exact .inl ⟨k, h1, h2⟩
  · by_cases hk2 : k = j
    · subst hk2
      rw [ins_at1 h (Nat.le_refl _)] at h1
      rw [ins_at2 h] at h2
      exact .inr (.inl ⟨(Option.some.inj h2).symm, h1⟩)
    · by_cases hk3 : k = j + 1
      · subst hk3
        rw [ins_at2 h] at h1
        rw [ins_at3 h (by omega), show j + 1 + 1 - 2 = j by omega] at h2
        exact .inr (.inr ⟨(Option.some.inj h1).symm, h2⟩)
      · rw [ins_at3 h (by omega)] at h1
        rw [ins_at3 h (by omega), show k + 1 - 2 = k - 2 + 1 by omega] at h2
        exact .inl ⟨k - 2, h1, h2⟩
theorem Rnd.adj_symm {r : List α} (h : Rnd r) {a b : α} (ha : Adj r a b) : Adj r b a := by
  induction h generalizing a b with
  | one c => obtain ⟨k, h1, h2⟩ := ha; simp at h2
  | more h hj hx ih =>
    rcases adj_inv hj ha with h1 | ⟨rfl, h1⟩ | ⟨rfl, h1⟩
    · exact adj_ins hj (ih h1)
    · exact (adj_new hj h1).2
    · exact (adj_new hj h1).1
theorem Rnd.adj_ne {r : List α} (h : Rnd r) {a b : α} (ha : Adj r a b) : a ≠ b := by
  induction h generalizing a b with
  | one c => obtain ⟨k, h1, h2⟩ := ha; simp at h2
  | more h hj hx ih =>
    rcases adj_inv hj ha with h1 | ⟨rfl, h1⟩ | ⟨rfl, h1⟩
    · exact ih h1
    · rintro rfl; exact hx (List.mem_of_getElem? h1)
    · rintro rfl; exact hx (List.mem_of_getElem? h1)

/-! ### turned -/
/-- a round turned to number k -/
def trn (row : List α) (k : Nat) : List α := row.drop k ++ (row.take (k + 1)).drop 1
theorem trn_len {row : List α} {k : Nat} (h : k < row.length) : (trn row k).length = row.length := by
  unfold trn
  rw [List.length_append, List.length_drop, List.length_drop, List.length_take]
  omega
theorem trn_zero (row : List α) (h : row ≠ []) : trn row 0 = row := by
  unfold trn
  rw [List.drop_zero, List.drop_of_length_le (by rw [List.length_take]; omega), List.append_nil]
theorem trn_get {row : List α} {k j : Nat} (hk : k < row.length) (hr : row[0]? = row[row.length - 1]?) (hj : j < row.length) (h1 : 1 < row.length) : (trn row k)[j]? = row[(k + j) % (row.length - 1)]? := by
  unfold trn
  by_cases h : j < row.length - k
  · rw [List.getElem?_append_left (by rw [List.length_drop]; exact h), List.getElem?_drop]
    by_cases e : k + j = row.length - 1
    · rw [e, Nat.mod_self, hr]
    · rw [Nat.mod_eq_of_lt (by omega)]
  · rw [List.getElem?_append_right (by rw [List.length_drop]; omega), List.length_drop, List.getElem?_drop, List.getElem?_take_of_lt (by omega)]
    rw [Nat.mod_eq_sub_mod (by omega)]
    by_cases e2 : k + j - (row.length - 1) = row.length - 1
    · rw [e2, Nat.mod_self, hr]
      congr 1
      omega
    · rw [Nat.mod_eq_of_lt (by omega)]
      congr 1
      omega
theorem Rnd.wrap {s : List α} (h : Rnd s) {x : α} (hx : x ∉ s) : Rnd (x :: s ++ [x]) := by
  induction h with
  | one a => exact Rnd.more (j := 0) (x := a) (.one x) (by simp) (by simpa using fun e => hx (by simp [e]))
  | @more r j y h hj hy ih =>
    have hxr : x ∉ r := fun hm => hx ((ins_mem hj).mpr (.inr hm))
    have hxy : x ≠ y := fun e => hx ((ins_mem hj).mpr (.inl e))
    have e : x :: ins r j y ++ [x] = ins (x :: r ++ [x]) (j + 1) y := by
      unfold ins
      rw [show (x :: r ++ [x]).take (j + 1 + 1) = x :: r.take (j + 1) by
        rw [List.cons_append, List.take_succ_cons, List.take_append_of_le_length (by omega)]]
      rw [show (x :: r ++ [x]).drop (j + 1) = r.drop j ++ [x] by
        rw [List.cons_append, List.drop_succ_cons, List.drop_append_of_le_length (by omega)]]
      simp
    rw [e]
    refine Rnd.more (ih hxr) (by simp; omega) fun hm => ?_
    simp only [List.cons_append, List.mem_cons, List.mem_append, List.not_mem_nil, or_false] at hm
    rcases hm with h | h | h
    · exact hxy h.symm
    · exact hy h
    · exact hxy h.symm
theorem take_eq_of {r : List α} {j : Nat} (h : j < r.length) : r.take (j + 1) = r.take j ++ [r[j]] := List.take_succ_eq_append_getElem h
theorem ins_ext {r s : List α} (h : ∀ i : Nat, r[i]? = s[i]?) : r = s := List.ext_getElem? h
theorem mem_trn {r : List α} (hr : Rnd r) {k : Nat} (hk : k < r.length) (x : α) : x ∈ trn r k ↔ x ∈ r := by
  have e := (List.take_append_drop k r)
  constructor
  · intro h
    unfold trn at h
    rcases List.mem_append.mp h with h | h
    · exact List.mem_of_mem_drop h
    · exact List.mem_of_mem_take (List.mem_of_mem_drop h)
  · intro h
    by_cases h1 : r.length = 1
    · have : k = 0 := by omega
      subst this
      rw [trn_zero r hr.ne]
      exact h
    · obtain ⟨i, hi, rfl⟩ := List.mem_iff_getElem.mp h
      have c := hr.closed
      -- the place stands at number i; in the turned round at (i - k) mod (length - 1)
      by_cases hik : k ≤ i
      · refine List.mem_of_getElem? (i := i - k) ?_
        unfold trn
        rw [List.getElem?_append_left (by rw [List.length_drop]; omega), List.getElem?_drop, show k + (i - k) = i by omega]
        exact List.getElem?_eq_getElem hi
      · by_cases hi0 : i = 0
        · subst hi0
          refine List.mem_of_getElem? (i := r.length - 1 - k) ?_
          unfold trn
          rw [List.getElem?_append_left (by rw [List.length_drop]; omega), List.getElem?_drop, show k + (r.length - 1 - k) = r.length - 1 by omega, ← c]
          exact List.getElem?_eq_getElem hi
        · refine List.mem_of_getElem? (i := r.length - k + (i - 1)) ?_
          unfold trn
          rw [List.getElem?_append_right (by rw [List.length_drop]; omega), List.length_drop, List.getElem?_drop, List.getElem?_take_of_lt (by omega)]
          rw [show 1 + (r.length - k + (i - 1) - (r.length - k)) = i by omega]
          exact List.getElem?_eq_getElem hi
theorem Rnd.trn {r : List α} (h : Rnd r) : ∀ {k : Nat}, k < r.length → Rnd (trn r k) := by
  induction h with
  | one a =>
    intro k hk
    have : k = 0 := by simp at hk; omega
    subst this
    exact .one a
  | @more r j x h hj hx ih =>
    intro k hk
    rw [ins_len hj] at hk
    by_cases h1 : k ≤ j
    · have e : Tw.trn (ins r j x) k = ins (Tw.trn r k) (j - k) x := by
        have hkr : k < r.length := by omega
        refine ins_ext fun i => ?_
        unfold Tw.trn
        have l1 : (ins r j x).length = r.length + 2 := ins_len hj
        have l2 := trn_len hkr
        unfold Tw.trn at l2
        have hjk : j - k < (r.drop k ++ (r.take (k + 1)).drop 1).length := by rw [l2]; omega
        by_cases c1 : i ≤ j - k
        · rw [ins_at1 hjk c1, List.getElem?_append_left (by rw [List.length_drop, l1]; omega), List.getElem?_drop, ins_at1 hj (by omega), List.getElem?_append_left (by rw [List.length_drop]; omega), List.getElem?_drop]
        · by_cases c2 : i = j - k + 1
          · subst c2
            rw [ins_at2 hjk, List.getElem?_append_left (by rw [List.length_drop, l1]; omega), List.getElem?_drop, show k + (j - k + 1) = j + 1 by omega, ins_at2 hj]
          · rw [ins_at3 hjk (by omega)]
            by_cases c3 : i < r.length + 2 - k
            · rw [List.getElem?_append_left (by rw [List.length_drop, l1]; omega), List.getElem?_drop, ins_at3 hj (by omega), List.getElem?_append_left (by rw [List.length_drop]; omega), List.getElem?_drop]
              congr 1
              omega
            · rw [List.getElem?_append_right (by rw [List.length_drop, l1]; omega), List.length_drop, l1, List.getElem?_append_right (by rw [List.length_drop]; omega), List.length_drop, List.getElem?_drop, List.getElem?_drop]
              by_cases c4 : 1 + (i - (r.length + 2 - k)) < k + 1
              · rw [List.getElem?_take_of_lt c4, List.getElem?_take_of_lt (by omega), ins_at1 hj (by omega)]
                congr 1
                omega
              · rw [List.getElem?_eq_none (by rw [List.length_take]; omega), List.getElem?_eq_none (by rw [List.length_take]; omega)]
      rw [e]
      have hkr : k < r.length := by omega
      refine Rnd.more (ih hkr) (by rw [trn_len hkr]; omega) fun hm => hx ((mem_trn h hkr x).mp hm)
    · by_cases h2 : k = j + 1
      · subst h2
        have e : Tw.trn (ins r j x) (j + 1) = x :: Tw.trn r j ++ [x] := by
          unfold Tw.trn ins
          rw [List.drop_append_of_le_length (by rw [List.length_take]; omega), List.drop_of_length_le (by rw [List.length_take]; omega), List.nil_append]
          rw [List.take_append, List.take_take, List.length_take, Nat.min_eq_left (show j + 1 ≤ r.length by omega), Nat.min_eq_right (show j + 1 ≤ j + 1 + 1 by omega), show j + 1 + 1 - (j + 1) = 1 by omega]
          rw [List.drop_append_of_le_length (by rw [List.length_take]; omega)]
          simp
        rw [e]
        exact (ih hj).wrap fun hm => hx ((mem_trn h hj x).mp hm)
      · -- the number lies behind the new place
        have hkr : k - 2 < r.length := by omega
        have c := h.closed
        have e : Tw.trn (ins r j x) k = ins (Tw.trn r (k - 2)) (r.length - (k - 2) + j - 1) x := by
          refine ins_ext fun i => ?_
          have l1 : (ins r j x).length = r.length + 2 := ins_len hj
          have l2 := trn_len hkr
          have hp : r.length - (k - 2) + j - 1 < (Tw.trn r (k - 2)).length := by rw [l2]; omega
          have lL : (Tw.trn (ins r j x) k).length = r.length + 2 := by rw [trn_len (by omega), l1]
          by_cases ci : i < r.length + 2
          · -- left side by its two parts
            by_cases c1 : i < r.length + 2 - k
            · have eL : (Tw.trn (ins r j x) k)[i]? = r[k - 2 + i]? := by
                unfold Tw.trn
                rw [List.getElem?_append_left (by rw [List.length_drop, l1]; omega), List.getElem?_drop, ins_at3 hj (by omega)]
                congr 1
                omega
              rw [eL, ins_at1 hp (by omega)]
              unfold Tw.trn
              rw [List.getElem?_append_left (by rw [List.length_drop]; omega), List.getElem?_drop]
            · have eL : (Tw.trn (ins r j x) k)[i]? = (ins r j x)[1 + (i - (r.length + 2 - k))]? := by
                unfold Tw.trn
                rw [List.getElem?_append_right (by rw [List.length_drop, l1]; omega), List.length_drop, l1, List.getElem?_drop, List.getElem?_take_of_lt (by omega)]
              rw [eL]
              by_cases c2 : i ≤ r.length - (k - 2) + j - 1
              · rw [ins_at1 hp c2, ins_at1 hj (by omega)]
                unfold Tw.trn
                rw [List.getElem?_append_right (by rw [List.length_drop]; omega), List.length_drop, List.getElem?_drop, List.getElem?_take_of_lt (by omega)]
                congr 1
                omega
              · by_cases c3 : i = r.length - (k - 2) + j - 1 + 1
                · have e3 : 1 + (i - (r.length + 2 - k)) = j + 1 := by omega
                  rw [e3, ins_at2 hj, c3, ins_at2 hp]
                · rw [ins_at3 hp (by omega), ins_at3 hj (by omega)]
                  unfold Tw.trn
                  by_cases c4 : i - 2 < r.length - (k - 2)
                  · -- only where j = 0: the last place of the first part is the first
                    have hj0 : j = 0 := by omega
                    have e4 : i - 2 = r.length - 1 - (k - 2) := by omega
                    rw [List.getElem?_append_left (by rw [List.length_drop]; omega), List.getElem?_drop, show k - 2 + (i - 2) = r.length - 1 by omega, ← c]
                    congr 1
                    omega
                  · rw [List.getElem?_append_right (by rw [List.length_drop]; omega), List.length_drop, List.getElem?_drop, List.getElem?_take_of_lt (by omega)]
                    congr 1
                    omega
          · rw [List.getElem?_eq_none (by rw [lL]; omega), List.getElem?_eq_none (by rw [ins_len hp, l2]; omega)]
        rw [e]
        refine Rnd.more (ih hkr) (by rw [trn_len hkr]; omega) fun hm => hx ((mem_trn h hkr x).mp hm)
theorem trn_adj {r : List α} (h : Rnd r) {k : Nat} (hk : k < r.length) {a b : α} (ha : Adj (trn r k) a b) : Adj r a b := by
  obtain ⟨i, h1, h2⟩ := ha
  have hi : i + 1 < (trn r k).length := (List.getElem?_eq_some_iff.mp h2).1
  rw [trn_len hk] at hi
  rw [trn_get hk h.closed (by omega) (by omega)] at h1
  rw [trn_get hk h.closed (by omega) (by omega)] at h2
  have hm := Nat.mod_lt (k + i) (show 0 < r.length - 1 by omega)
  refine ⟨(k + i) % (r.length - 1), h1, ?_⟩
  by_cases e : (k + i) % (r.length - 1) + 1 = r.length - 1
  · have e2 : (k + (i + 1)) % (r.length - 1) = 0 := by
      rw [← Nat.add_assoc, Nat.add_mod, show (k + i) % (r.length - 1) = r.length - 2 by omega]
      by_cases h2' : r.length = 2
      · rw [h2']
      · rw [Nat.mod_eq_of_lt (show 1 < r.length - 1 by omega), show r.length - 2 + 1 = r.length - 1 by omega, Nat.mod_self]
    rw [e, ← h.closed]
    rw [e2] at h2
    exact h2
  · have e2 : (k + (i + 1)) % (r.length - 1) = (k + i) % (r.length - 1) + 1 := by
      rw [← Nat.add_assoc, Nat.add_mod]
      by_cases h1' : r.length - 1 = 1
      · omega
      · rw [Nat.mod_eq_of_lt (show 1 < r.length - 1 by omega), Nat.mod_eq_of_lt (by omega)]
    rw [e2] at h2
    exact h2

/-! ### walked: the way from the first place -/
def push (w : List α) (x : α) : List α := if 1 < w.length ∧ w[w.length - 2]? = some x then w.dropLast else w ++ [x]
structure Way (r w : List α) : Prop where
  ne : w ≠ []
  hd : w[0]? = r[0]?
  nd : w.Nodup
  sub : ∀ x ∈ w, x ∈ r
  adj : ∀ k, k + 1 < w.length → ∃ a b, w[k]? = some a ∧ w[k + 1]? = some b ∧ Adj r a b
/-- a simple way along the ties of a round -/
structure Wy (r w : List α) : Prop where
  ne : w ≠ []
  nd : w.Nodup
  sub : ∀ x ∈ w, x ∈ r
  adj : ∀ k, k + 1 < w.length → ∃ a b, w[k]? = some a ∧ w[k + 1]? = some b ∧ Adj r a b
def stk (r : List α) (i : Nat) : List α := (r.take (i + 1)).foldl push []
theorem stk_way {r : List α} (h : Rnd r) : ∀ {i : Nat}, i < r.length → Way r (stk r i) ∧ (stk r i)[(stk r i).length - 1]? = r[i]? := by
  induction h with
  | one a =>
    intro i hi
    have : i = 0 := by simp at hi; omega
    subst this
    exact ⟨⟨by simp [stk, push], rfl, by simp [stk, push], fun x hx => by simpa [stk, push] using hx, fun k hk => by simp [stk, push] at hk⟩, rfl⟩
  | @more r j x h hj hx ih =>
    intro i hi
    rw [ins_len hj] at hi
    have wide : ∀ {w : List α}, Way r w → Way (ins r j x) w := fun {w} W =>
      ⟨W.ne, by rw [W.hd, ins_head hj], W.nd, fun y hy => (ins_mem hj).mpr (.inr (W.sub y hy)), fun k hk => by
        obtain ⟨a, b, h1, h2, h3⟩ := W.adj k hk
        exact ⟨a, b, h1, h2, adj_ins hj h3⟩⟩
    obtain ⟨Wj, Lj⟩ := ih hj
    -- the stack behind number j, then with x, then without it
    have hxs : x ∉ stk r j := fun hm => hx (Wj.sub x hm)
    have lpos : 0 < (stk r j).length := List.length_pos_iff.mpr Wj.ne
    have p1 : push (stk r j) x = stk r j ++ [x] := by
      unfold push
      rw [if_neg]
      rintro ⟨_, e⟩
      exact hxs (List.mem_of_getElem? e)
    have p2 : ∀ y, r[j]? = some y → push (stk r j ++ [x]) y = stk r j := fun y hy => by
      unfold push
      rw [if_pos, List.dropLast_concat]
      rw [List.length_append, List.length_singleton]
      refine ⟨by omega, ?_⟩
      rw [List.getElem?_append_left (by omega), show (stk r j).length + 1 - 2 = (stk r j).length - 1 by omega, Lj, hy]
    by_cases h1 : i ≤ j
    · have e : stk (ins r j x) i = stk r i := by
        unfold stk ins
        rw [List.take_append_of_le_length (by rw [List.length_take]; omega), List.take_take, Nat.min_eq_left (by omega)]
      rw [e, ins_at1 hj h1]
      obtain ⟨W, L⟩ := ih (i := i) (by omega)
      exact ⟨wide W, L⟩
    · by_cases h2 : i = j + 1
      · subst h2
        have e : stk (ins r j x) (j + 1) = stk r j ++ [x] := by
          unfold stk ins
          rw [List.take_append, List.take_take, List.length_take, Nat.min_eq_left (show j + 1 ≤ r.length by omega), Nat.min_eq_right (show j + 1 ≤ j + 1 + 1 by omega), show j + 1 + 1 - (j + 1) = 1 by omega, List.foldl_append]
          exact p1
        rw [e, ins_at2 hj]
        refine ⟨⟨by simp, ?_, ?_, fun y hy => ?_, fun k hk => ?_⟩, by simp⟩
        · rw [List.getElem?_append_left lpos, Wj.hd, ins_head hj]
        · rw [List.nodup_append]
          refine ⟨Wj.nd, by simp, fun a ha b hb => ?_⟩
          rw [List.mem_singleton] at hb
          rintro rfl
          exact hxs (hb ▸ ha)
        · rcases List.mem_append.mp hy with hy | hy
          · exact (ins_mem hj).mpr (.inr (Wj.sub y hy))
          · exact (ins_mem hj).mpr (.inl (List.mem_singleton.mp hy))
        · rw [List.length_append, List.length_singleton] at hk
          by_cases hk2 : k + 1 < (stk r j).length
          · obtain ⟨a, b, h1, h2, h3⟩ := Wj.adj k hk2
            exact ⟨a, b, by rw [List.getElem?_append_left (by omega), h1], by rw [List.getElem?_append_left hk2, h2], adj_ins hj h3⟩
          · have hk3 : k = (stk r j).length - 1 := by omega
            obtain ⟨y, hy⟩ : ∃ y, r[j]? = some y := ⟨_, List.getElem?_eq_getElem hj⟩
            refine ⟨y, x, ?_, ?_, (adj_new hj hy).1⟩
            · rw [List.getElem?_append_left (by omega), hk3, Lj, hy]
            · rw [List.getElem?_append_right (by omega), show k + 1 - (stk r j).length = 0 by omega]
              rfl
      · have e : stk (ins r j x) i = stk r (i - 2) := by
          obtain ⟨y, hy⟩ : ∃ y, r[j]? = some y := ⟨_, List.getElem?_eq_getElem hj⟩
          have hy' : r[j] = y := by rw [List.getElem?_eq_getElem hj] at hy; exact Option.some.inj hy
          have e1 : (ins r j x).take (i + 1) = r.take (j + 1) ++ x :: y :: (r.drop (j + 1)).take (i - 2 - j) := by
            unfold ins
            rw [List.take_append, List.take_take, List.length_take, Nat.min_eq_left (show j + 1 ≤ r.length by omega), Nat.min_eq_right (show j + 1 ≤ i + 1 by omega)]
            rw [show i + 1 - (j + 1) = (i - 2 - j) + 1 + 1 by omega, List.take_succ_cons, List.drop_eq_getElem_cons hj, List.take_succ_cons, hy']
          have e2 : r.take (i - 2 + 1) = r.take (j + 1) ++ (r.drop (j + 1)).take (i - 2 - j) := by
            have : i - 2 + 1 = (j + 1) + (i - 2 - j) := by omega
            rw [this, List.take_add]
          unfold stk
          rw [e1, e2, List.foldl_append, List.foldl_append, List.foldl_cons, List.foldl_cons]
          have q1 : push (List.foldl push [] (r.take (j + 1))) x = stk r j ++ [x] := p1
          rw [q1, p2 y hy]
          rfl
        rw [e, ins_at3 hj (by omega)]
        obtain ⟨W, L⟩ := ih (i := i - 2) (by omega)
        exact ⟨wide W, L⟩
end
end Tw
/-! Rounds of trees: peeled, spliced, parted. -/
namespace Tw
section
variable {α : Type} [DecidableEq α]
theorem Rnd.grow {C D : List α} {c y : α} (h : Rnd (C ++ c :: D)) (hy : y ∉ C ++ c :: D) : Rnd (C ++ c :: y :: c :: D) := by
  have := Rnd.more (j := C.length) h (by simp) hy
  unfold ins at this
  have e1 : (C ++ c :: D).take (C.length + 1) = C ++ [c] := by
    rw [show C ++ c :: D = (C ++ [c]) ++ D by simp, List.take_left' (by simp)]
  have e2 : (C ++ c :: D).drop C.length = c :: D := List.drop_left' rfl
  rw [e1, e2] at this
  simpa using this
theorem Rnd.shrink {r : List α} (h : Rnd r) (hl : 1 < r.length) : ∃ C c y D, r = C ++ c :: y :: c :: D ∧ Rnd (C ++ c :: D) ∧ y ∉ C ++ c :: D := by
  cases h with
  | one a => simp at hl
  | @more s j x h hj hx =>
    refine ⟨s.take j, s[j], x, s.drop (j + 1), ?_, ?_, ?_⟩
    · unfold ins
      rw [List.take_succ_eq_append_getElem hj, List.drop_eq_getElem_cons hj, List.append_assoc]
      rfl
    · rw [← List.drop_eq_getElem_cons hj, List.take_append_drop]; exact h
    · rw [← List.drop_eq_getElem_cons hj, List.take_append_drop]; exact hx
/-- a place that stands but once, with the same on both sides, taken out -/
theorem Rnd.leaf : ∀ (n : Nat) {A B : List α} {a x : α}, (A ++ a :: x :: a :: B).length = n → Rnd (A ++ a :: x :: a :: B) → x ∉ A ++ a :: B → Rnd (A ++ a :: B) := by
  intro n
  induction n using Nat.strongRecOn with
  | ind n ih =>
    intro A B a x hn h hx
    obtain ⟨C, c, y, D, e, hr, hy⟩ := h.shrink (by simp only [List.length_append, List.length_cons]; omega)
    have hlen := congrArg List.length e
    simp only [List.length_append, List.length_cons] at hlen hn
    rcases List.append_eq_append_iff.mp e with ⟨C', e1, e2⟩ | ⟨A', e1, e2⟩
    · -- C = A ++ C'
      subst e1
      match C', e2 with
      | [], e2 =>
        simp only [List.nil_append, List.cons.injEq] at e2
        obtain ⟨rfl, rfl, _, rfl⟩ := e2
        simpa using hr
      | [u], e2 =>
        simp only [List.cons_append, List.nil_append, List.cons.injEq] at e2
        obtain ⟨rfl, rfl, rfl, rfl⟩ := e2
        exact absurd (by simp) hx
      | [u, v], e2 =>
        simp only [List.cons_append, List.nil_append, List.cons.injEq] at e2
        obtain ⟨rfl, rfl, rfl, rfl⟩ := e2
        have h2 : Rnd (A ++ a :: D) := ih _ (by simp only [List.length_append, List.length_cons]; simp only [List.length_append, List.length_cons] at hlen hn; omega) (B := D) (x := x) rfl (by simpa using hr) (fun z => hx (by
          simp only [List.mem_append, List.mem_cons] at z ⊢
          rcases z with z | z | z
          · exact .inl z
          · exact .inr (.inl z)
          · exact .inr (.inr (.inr (.inr z)))))
        exact h2.grow fun z => hy (by
          simp only [List.mem_append, List.mem_cons] at z ⊢
          rcases z with z | z | z
          · exact .inl (.inl z)
          · exact .inr (.inl z)
          · exact .inr (.inr z))
      | u :: v :: w :: E, e2 =>
        simp only [List.cons_append, List.cons.injEq] at e2
        obtain ⟨rfl, rfl, rfl, rfl⟩ := e2
        have h2 : Rnd (A ++ a :: (E ++ c :: D)) := ih _ (by simp only [List.length_append, List.length_cons]; simp only [List.length_append, List.length_cons] at hlen hn; omega) (B := E ++ c :: D) (x := x) rfl (by simpa using hr) (fun z => hx (by
          simp only [List.mem_append, List.mem_cons] at z ⊢
          rcases z with z | z | z | z | z
          · exact .inl z
          · exact .inr (.inl z)
          · exact .inr (.inr (.inl z))
          · exact .inr (.inr (.inr (.inl z)))
          · exact .inr (.inr (.inr (.inr (.inr (.inr z)))))))
        have h3 := Rnd.grow (C := A ++ a :: E) (c := c) (D := D) (y := y) (by simpa using h2) fun z => hy (by
          simp only [List.mem_append, List.mem_cons] at z ⊢
          rcases z with (z | z | z) | z | z
          · exact .inl (.inl z)
          · exact .inl (.inr (.inl z))
          · exact .inl (.inr (.inr (.inr (.inr z))))
          · exact .inr (.inl z)
          · exact .inr (.inr z))
        simpa using h3
    · -- A = C ++ A'
      subst e1
      match A', e2 with
      | [], e2 =>
        simp only [List.nil_append, List.cons.injEq] at e2
        obtain ⟨rfl, rfl, _, rfl⟩ := e2
        simpa using hr
      | [u], e2 =>
        simp only [List.cons_append, List.nil_append, List.cons.injEq] at e2
        obtain ⟨rfl, rfl, rfl, rfl⟩ := e2
        exact absurd (by simp) hx
      | [u, v], e2 =>
        simp only [List.cons_append, List.nil_append, List.cons.injEq] at e2
        obtain ⟨rfl, rfl, rfl, rfl⟩ := e2
        have h2 : Rnd (C ++ c :: B) := ih _ (by simp only [List.length_append, List.length_cons]; simp only [List.length_append, List.length_cons] at hlen hn; omega) (B := B) (x := x) rfl (by simpa using hr) (fun z => hx (by
          simp only [List.mem_append, List.mem_cons] at z ⊢
          rcases z with z | z | z
          · exact .inl (.inl z)
          · exact .inr (.inl z)
          · exact .inr (.inr z)))
        have h3 := h2.grow (y := y) fun z => hy (by
          simp only [List.mem_append, List.mem_cons] at z ⊢
          rcases z with z | z | z
          · exact .inl z
          · exact .inr (.inl z)
          · exact .inr (.inr (.inr (.inr z))))
        simpa using h3
      | u :: v :: w :: E, e2 =>
        simp only [List.cons_append, List.cons.injEq] at e2
        obtain ⟨rfl, rfl, rfl, rfl⟩ := e2
        have h2 : Rnd ((C ++ c :: E) ++ a :: B) := ih _ (by simp only [List.length_append, List.length_cons]; simp only [List.length_append, List.length_cons] at hlen hn; omega) (A := C ++ c :: E) (B := B) (x := x) rfl (by simpa using hr) (fun z => hx (by
          simp only [List.mem_append, List.mem_cons] at z ⊢
          rcases z with (z | z | z) | z | z
          · exact .inl (.inl z)
          · exact .inl (.inr (.inl z))
          · exact .inl (.inr (.inr (.inr (.inr z))))
          · exact .inr (.inl z)
          · exact .inr (.inr z)))
        have h3 := Rnd.grow (C := C) (c := c) (D := E ++ a :: B) (y := y) (by simpa using h2) fun z => hy (by
          simp only [List.mem_append, List.mem_cons] at z ⊢
          rcases z with z | z | z | z | z
          · exact .inl z
          · exact .inr (.inl z)
          · exact .inr (.inr (.inl z))
          · exact .inr (.inr (.inr (.inl z)))
          · exact .inr (.inr (.inr (.inr (.inr (.inr z))))))
        simpa using h3
/-- a round put in behind a place -/
theorem Rnd.graft {A B : List α} {a : α} (h : Rnd (A ++ a :: B)) : ∀ (n : Nat) {T : List α}, T.length = n → Rnd T → (∀ x ∈ T, x ∉ A ++ a :: B) → Rnd (A ++ a :: (T ++ a :: B)) := by
  intro n
  induction n using Nat.strongRecOn with
  | ind n ih =>
    intro T hn ht hd
    by_cases hl : 1 < T.length
    · obtain ⟨C, c, y, D, e, hr, hy⟩ := ht.shrink hl
      subst e
      have h2 := ih (C ++ c :: D).length (by rw [← hn]; simp only [List.length_append, List.length_cons]; omega) rfl hr fun x hx => hd x (by
        simp only [List.mem_append, List.mem_cons] at hx ⊢
        rcases hx with z | z | z
        · exact .inl z
        · exact .inr (.inl z)
        · exact .inr (.inr (.inr (.inr z))))
      have h3 := Rnd.grow (C := A ++ a :: C) (c := c) (D := D ++ a :: B) (y := y) (by simpa using h2) fun z => by
        have h4 := hd y (by simp)
        simp only [List.mem_append, List.mem_cons] at z h4 hy
        rcases z with (z | z | z) | z | z | z | z
        · exact h4 (.inl z)
        · exact h4 (.inr (.inl z))
        · exact hy (.inl z)
        · exact hy (.inr (.inl z))
        · exact hy (.inr (.inr z))
        · exact h4 (.inr (.inl z))
        · exact h4 (.inr (.inr z))
      simpa using h3
    · cases T with
      | nil => exact absurd rfl ht.ne
      | cons x T =>
        cases T with
        | cons y T => simp at hl
        | nil => exact h.grow (hd x (by simp))
theorem split_at {X1 X2 Y1 Y2 : List α} {y : α} (h1 : y ∉ X1) (h2 : y ∉ X2) (e : X1 ++ y :: Y1 = X2 ++ y :: Y2) : X1 = X2 ∧ Y1 = Y2 := by
  induction X1 generalizing X2 with
  | nil =>
    cases X2 with
    | nil => simpa using e
    | cons z X2 =>
      simp only [List.nil_append, List.cons_append, List.cons.injEq] at e
      exact absurd (by rw [e.1]; simp) h2
  | cons z X1 ih =>
    cases X2 with
    | nil =>
      simp only [List.nil_append, List.cons_append, List.cons.injEq] at e
      exact absurd (by rw [e.1]; simp) h1
    | cons w X2 =>
      simp only [List.cons_append, List.cons.injEq] at e
      obtain ⟨rfl, e⟩ := e
      obtain ⟨rfl, rfl⟩ := ih (fun z => h1 (by simp [z])) (fun z => h2 (by simp [z])) e
      exact ⟨rfl, rfl⟩
/-- a round parted at a tie -/
theorem Rnd.part : ∀ (n : Nat) {A I R : List α} {p q : α}, (A ++ p :: (I ++ p :: R)).length = n → Rnd (A ++ p :: (I ++ p :: R)) → I.head? = some q → I.getLast? = some q →
    Rnd (A ++ p :: R) ∧ Rnd I ∧ ∀ x ∈ I, x ∉ A ++ p :: R := by
  intro n
  induction n using Nat.strongRecOn with
  | ind n ih =>
    intro A I R p q hn h hh hl
    obtain ⟨C, c, y, D, e, hr, hy⟩ := h.shrink (by simp only [List.length_append, List.length_cons]; omega)
    have hlen := congrArg List.length e
    simp only [List.length_append, List.length_cons] at hlen hn
    have e' : A ++ p :: (I ++ p :: R) = (C ++ [c]) ++ y :: (c :: D) := by rw [e]; simp
    have hyC : y ∉ C ++ [c] := fun z => hy (by
      simp only [List.mem_append, List.mem_cons, List.not_mem_nil, or_false] at z ⊢
      rcases z with z | z
      · exact .inl z
      · exact .inr (.inl z))
    have hyD : y ∉ c :: D := fun z => hy (List.mem_append.mpr (.inr z))
    by_cases hA : y ∈ A
    · obtain ⟨A1, A2, rfl, hA1⟩ := List.eq_append_cons_of_mem hA
      obtain ⟨rfl, e2⟩ := split_at (Y1 := A2 ++ p :: (I ++ p :: R)) hA1 hyC (by simpa using e')
      cases A2 with
      | nil =>
        simp only [List.nil_append, List.cons.injEq] at e2
        obtain ⟨rfl, rfl⟩ := e2
        obtain ⟨k1, k2, k3⟩ := ih (C ++ p :: (I ++ p :: R)).length (by simp only [List.length_append, List.length_cons]; simp only [List.length_append, List.length_cons] at hlen hn; omega) rfl hr hh hl
        refine ⟨?_, k2, fun x hx z => ?_⟩
        · have := k1.grow (y := y) fun z => hy (by
            simp only [List.mem_append, List.mem_cons] at z ⊢
            rcases z with z | z | z
            · exact .inl z
            · exact .inr (.inl z)
            · exact .inr (.inr (.inr (.inr z))))
          simpa using this
        · have h1 := k3 x hx
          have h2 : x ≠ y := fun z => hyD (by rw [← z]; simp [hx])
          simp only [List.mem_append, List.mem_cons, List.not_mem_nil, or_false] at z h1
          rcases z with ((z | z) | z) | z | z
          · exact h1 (.inl z)
          · exact h1 (.inr (.inl z))
          · exact h2 z
          · exact h1 (.inr (.inl z))
          · exact h1 (.inr (.inr z))
      | cons d A3 =>
        simp only [List.cons_append, List.cons.injEq] at e2
        obtain ⟨rfl, rfl⟩ := e2
        obtain ⟨k1, k2, k3⟩ := ih ((C ++ d :: A3) ++ p :: (I ++ p :: R)).length (by simp only [List.length_append, List.length_cons]; simp only [List.length_append, List.length_cons] at hlen hn; omega) rfl (by simpa using hr) hh hl
        refine ⟨?_, k2, fun x hx z => ?_⟩
        · have := Rnd.grow (C := C) (c := d) (D := A3 ++ p :: R) (y := y) (by simpa using k1) fun z => hy (by
            simp only [List.mem_append, List.mem_cons] at z ⊢
            rcases z with z | z | z | z | z
            · exact .inl z
            · exact .inr (.inl z)
            · exact .inr (.inr (.inl z))
            · exact .inr (.inr (.inr (.inl z)))
            · exact .inr (.inr (.inr (.inr (.inr (.inr z))))))
          simpa using this
        · have h1 := k3 x hx
          have h2 : x ≠ y := fun z => hyD (by rw [← z]; simp [hx])
          simp only [List.mem_append, List.mem_cons, List.not_mem_nil, or_false] at z h1
          rcases z with ((z | z) | z | z | z) | z | z
          · exact h1 (.inl (.inl z))
          · exact h1 (.inl (.inr (.inl z)))
          · exact h2 z
          · exact h1 (.inl (.inr (.inl z)))
          · exact h1 (.inl (.inr (.inr z)))
          · exact h1 (.inr (.inl z))
          · exact h1 (.inr (.inr z))
    · have hyp : y ≠ p := by
        rintro rfl
        obtain ⟨rfl, e2⟩ := split_at (Y1 := I ++ y :: R) hA hyC e'
        exact hyD (by rw [← e2]; simp)
      by_cases hI : y ∈ I
      · obtain ⟨I1, I2, rfl, hI1⟩ := List.eq_append_cons_of_mem hI
        obtain ⟨e1, e2⟩ := split_at (X1 := A ++ p :: I1) (Y1 := I2 ++ p :: R) (fun z => by
          simp only [List.mem_append, List.mem_cons] at z
          rcases z with z | z | z
          · exact hA z
          · exact hyp z
          · exact hI1 z) hyC (by simpa using e')
        rcases List.eq_nil_or_concat I1 with rfl | ⟨I3, c', rfl⟩
        · obtain ⟨rfl, e3⟩ : A = C ∧ p = c := by
            have := List.append_inj' e1 rfl
            exact ⟨this.1, by simpa using this.2⟩
          subst e3
          simp only [List.nil_append, List.head?_cons, Option.some.injEq] at hh
          subst hh
          have : I2 = [] := by
            rcases List.eq_nil_or_concat I2 with rfl | ⟨I4, z, rfl⟩
            · rfl
            · simp only [List.nil_append, List.concat_eq_append] at hl
              rw [← List.cons_append, List.getLast?_append] at hl
              simp at hl
              subst hl
              exact absurd (by rw [← e2]; simp) hyD
          subst this
          simp only [List.nil_append, List.cons.injEq, true_and] at e2
          subst e2
          refine ⟨hr, .one _, fun x hx => ?_⟩
          simp only [List.nil_append, List.mem_singleton] at hx
          subst hx
          exact hy
        · rw [List.concat_eq_append] at *
          obtain ⟨rfl, e3⟩ : A ++ p :: I3 = C ∧ c' = c := by
            have : (A ++ p :: I3) ++ [c'] = C ++ [c] := by rw [← e1]; simp
            have := List.append_inj' this rfl
            exact ⟨this.1, by simpa using this.2⟩
          subst e3
          cases I2 with
          | nil =>
            exfalso
            rw [List.getLast?_append] at hl
            simp at hl
            subst hl
            have : (I3 ++ [c']).head? = some y := by
              rw [List.head?_append] at hh ⊢
              cases hz : (I3 ++ [c']).head? with
              | none => simp at hz
              | some z =>
                rw [hz] at hh
                simp at hh
                rw [List.head?_append] at hz
                rw [hz, hh]
            exact hI1 (List.mem_of_mem_head? this)
          | cons d I4 =>
            simp only [List.cons_append, List.cons.injEq] at e2
            obtain ⟨rfl, rfl⟩ := e2
            obtain ⟨k1, k2, k3⟩ := ih (A ++ p :: ((I3 ++ d :: I4) ++ p :: R)).length (by simp only [List.length_append, List.length_cons]; simp only [List.length_append, List.length_cons, List.length_nil] at hlen hn; omega) rfl (by simpa using hr)
              (by
                cases I3 with
                | nil => simpa using hh
                | cons z I3 => simpa using hh)
              (by
                have : I3 ++ [d] ++ y :: d :: I4 = (I3 ++ [d, y]) ++ (d :: I4) := by simp
                rw [this, List.getLast?_append] at hl
                rw [List.getLast?_append]
                cases hz : (d :: I4).getLast? with
                | none => simp at hz
                | some z => rw [hz] at hl; simpa using hl)
            refine ⟨k1, ?_, fun x hx => ?_⟩
            · have := Rnd.grow (C := I3) (c := d) (D := I4) (y := y) k2 fun z => hy (by
                simp only [List.mem_append, List.mem_cons] at z ⊢
                rcases z with z | z | z
                · exact .inl (.inr (.inr z))
                · exact .inr (.inl z)
                · exact .inr (.inr (.inl z)))
              simpa using this
            · simp only [List.mem_append, List.mem_cons, List.not_mem_nil, or_false] at hx
              rcases hx with (hx | hx) | hx | hx | hx
              · exact k3 x (by simp [hx])
              · exact k3 x (by simp [hx])
              · subst hx
                intro z
                apply hy
                simp only [List.mem_append, List.mem_cons] at z ⊢
                rcases z with z | z | z
                · exact .inl (.inl z)
                · exact .inl (.inr (.inl z))
                · exact .inr (.inr (.inr (.inr z)))
              · exact k3 x (by simp [hx])
              · exact k3 x (by simp [hx])
      · have hR : y ∈ R := by
          have : y ∈ A ++ p :: (I ++ p :: R) := by rw [e]; simp
          simp only [List.mem_append, List.mem_cons] at this
          rcases this with z | z | z | z | z
          · exact absurd z hA
          · exact absurd z hyp
          · exact absurd z hI
          · exact absurd z hyp
          · exact z
        obtain ⟨R1, R2, rfl, hR1⟩ := List.eq_append_cons_of_mem hR
        obtain ⟨e1, e2⟩ := split_at (X1 := A ++ p :: (I ++ p :: R1)) (Y1 := R2) (fun z => by
          simp only [List.mem_append, List.mem_cons] at z
          rcases z with z | z | z | z | z
          · exact hA z
          · exact hyp z
          · exact hI z
          · exact hyp z
          · exact hR1 z) hyC (by simpa using e')
        subst e2
        rcases List.eq_nil_or_concat R1 with rfl | ⟨R3, c', rfl⟩
        · obtain ⟨rfl, e3⟩ : A ++ p :: I = C ∧ p = c := by
            have : (A ++ p :: I) ++ [p] = C ++ [c] := by rw [← e1]; simp
            have := List.append_inj' this rfl
            exact ⟨this.1, by simpa using this.2⟩
          subst e3
          obtain ⟨k1, k2, k3⟩ := ih (A ++ p :: (I ++ p :: D)).length (by simp only [List.length_append, List.length_cons]; simp only [List.length_append, List.length_cons, List.length_nil] at hlen hn; omega) rfl (by simpa using hr) hh hl
          refine ⟨?_, k2, fun x hx z => ?_⟩
          · exact k1.grow (y := y) fun z => hy (by
              simp only [List.mem_append, List.mem_cons] at z ⊢
              rcases z with z | z | z
              · exact .inl (.inl z)
              · exact .inr (.inl z)
              · exact .inr (.inr z))
          · have h1 := k3 x hx
            have h2 : x ≠ y := fun z => hI (by rw [← z]; exact hx)
            simp only [List.mem_append, List.mem_cons, List.nil_append] at z h1
            rcases z with z | z | z | z | z
            · exact h1 (.inl z)
            · exact h1 (.inr (.inl z))
            · exact h2 z
            · exact h1 (.inr (.inl z))
            · exact h1 (.inr (.inr z))
        · rw [List.concat_eq_append] at *
          obtain ⟨rfl, e3⟩ : A ++ p :: (I ++ p :: R3) = C ∧ c' = c := by
            have : (A ++ p :: (I ++ p :: R3)) ++ [c'] = C ++ [c] := by rw [← e1]; simp
            have := List.append_inj' this rfl
            exact ⟨this.1, by simpa using this.2⟩
          subst e3
          obtain ⟨k1, k2, k3⟩ := ih (A ++ p :: (I ++ p :: (R3 ++ c' :: D))).length (by simp only [List.length_append, List.length_cons]; simp only [List.length_append, List.length_cons, List.length_nil] at hlen hn; omega) rfl (by simpa using hr) hh hl
          refine ⟨?_, k2, fun x hx z => ?_⟩
          · have := Rnd.grow (C := A ++ p :: R3) (c := c') (D := D) (y := y) (by simpa using k1) fun z => hy (by
              simp only [List.mem_append, List.mem_cons] at z ⊢
              rcases z with (z | z | z) | z | z
              · exact .inl (.inl z)
              · exact .inl (.inr (.inl z))
              · exact .inl (.inr (.inr (.inr (.inr z))))
              · exact .inr (.inl z)
              · exact .inr (.inr z))
            simpa using this
          · have h1 := k3 x hx
            have h2 : x ≠ y := fun z => hI (by rw [← z]; exact hx)
            simp only [List.mem_append, List.mem_cons, List.not_mem_nil, or_false] at z h1
            rcases z with z | z | (z | z) | z | z | z
            · exact h1 (.inl z)
            · exact h1 (.inr (.inl z))
            · exact h1 (.inr (.inr (.inl z)))
            · exact h1 (.inr (.inr (.inr (.inl z))))
            · exact h2 z
            · exact h1 (.inr (.inr (.inr (.inl z))))
            · exact h1 (.inr (.inr (.inr (.inr z))))
end
end Tw
/-! The ties of a round; a while by its word. -/
namespace Tw
def prs : List Int → List PP
  | a :: b :: r => (a, b) :: prs (b :: r)
  | _ => []
theorem prs_app (a : Int) (B : List Int) : ∀ A : List Int, prs (A ++ a :: B) = prs (A ++ [a]) ++ prs (a :: B)
  | [] => rfl
  | [x] => rfl
  | x :: y :: A => by
    show (x, y) :: prs ((y :: A) ++ a :: B) = (x, y) :: prs ((y :: A) ++ [a]) ++ prs (a :: B)
    rw [prs_app a B (y :: A)]
    rfl
theorem prs_len : ∀ r : List Int, (prs r).length = r.length - 1
  | [] => rfl
  | [x] => rfl
  | x :: y :: r => by
    show (prs (y :: r)).length + 1 = _
    rw [prs_len (y :: r)]
    simp
theorem prs_get : ∀ {r : List Int} {i : Nat} {a b : Int}, (prs r)[i]? = some (a, b) ↔ r[i]? = some a ∧ r[i + 1]? = some b
  | [], i, a, b => by simp [prs]
  | [x], i, a, b => by
    cases i <;> simp [prs]
  | x :: y :: r, 0, a, b => by simp [prs]
  | x :: y :: r, i + 1, a, b => by
    show (prs (y :: r))[i]? = _ ↔ (y :: r)[i]? = _ ∧ (y :: r)[i + 1]? = _
    exact prs_get
theorem prs_mem {r : List Int} {a b : Int} : (a, b) ∈ prs r ↔ Adj r a b := by
  rw [List.mem_iff_getElem?]
  exact ⟨fun ⟨i, h⟩ => ⟨i, prs_get.mp h⟩, fun ⟨i, h⟩ => ⟨i, prs_get.mpr h⟩⟩
def tie (a b : Int) : PP := (min a b, max a b)
theorem tie_comm (a b : Int) : tie a b = tie b a := by unfold tie; rw [Int.min_comm, Int.max_comm]
theorem tie_lt {a b : Int} (h : a ≠ b) : (tie a b).1 < (tie a b).2 := by show min a b < max a b; omega
theorem tie_eq {a b c d : Int} : tie a b = tie c d ↔ (a = c ∧ b = d) ∨ (a = d ∧ b = c) := by
  unfold tie
  rw [Prod.mk.injEq]
  omega
def eds (r : List Int) : List PP := (prs r).filter fun x => decide (x.1 < x.2)
theorem eds_leaf {A B : List Int} {a x : Int} (h : a ≠ x) : (tie x a :: eds (A ++ a :: B)).Perm (eds (A ++ a :: x :: a :: B)) := by
  unfold eds
  rw [prs_app a B A, prs_app a (x :: a :: B) A]
  show (_ :: _).Perm (List.filter _ (prs (A ++ [a]) ++ ((a, x) :: (x, a) :: prs (a :: B))))
  rw [List.filter_append, List.filter_append]
  have : List.filter (fun z : PP => decide (z.1 < z.2)) ((a, x) :: (x, a) :: prs (a :: B)) = tie x a :: List.filter (fun z : PP => decide (z.1 < z.2)) (prs (a :: B)) := by
    unfold tie
    by_cases hl : a < x
    · rw [List.filter_cons_of_pos (by simpa using hl), List.filter_cons_of_neg (by simp; omega), Int.min_eq_right (by omega), Int.max_eq_left (by omega)]
    · rw [List.filter_cons_of_neg (by simpa using hl), List.filter_cons_of_pos (by simp; omega), Int.min_eq_left (by omega), Int.max_eq_right (by omega)]
  rw [this]
  exact List.perm_middle.symm
theorem eds_cut {A B T : List Int} {a b : Int} (hab : a ≠ b) (hh : T.head? = some b) (hl : T.getLast? = some b) : (eds (A ++ a :: (T ++ a :: B))).Perm (eds (A ++ a :: B) ++ eds T ++ [tie a b]) := by
  have h1 : prs (a :: (T ++ a :: B)) = (a, b) :: prs T ++ (b, a) :: prs (a :: B) := by
    cases T with
    | nil => cases hh
    | cons c T =>
      simp only [List.head?_cons, Option.some.injEq] at hh
      subst hh
      obtain ⟨T', e⟩ : ∃ T', c :: T = T' ++ [c] := by
        rcases List.eq_nil_or_concat (c :: T) with z | ⟨T', z, e⟩
        · cases z
        · rw [e, List.concat_eq_append, List.getLast?_append] at hl
          simp at hl
          exact ⟨T', by rw [e, hl, List.concat_eq_append]⟩
      show (a, c) :: prs ((c :: T) ++ a :: B) = _
      rw [e, List.append_assoc]
      show (a, c) :: prs (T' ++ c :: (a :: B)) = _
      rw [prs_app c (a :: B) T']
      rfl
  unfold eds
  rw [prs_app a B A, prs_app a (T ++ a :: B) A, h1]
  simp only [List.filter_append, List.cons_append, List.filter_cons]
  have ht : tie a b = if a < b then (a, b) else (b, a) := by
    unfold tie
    by_cases h : a < b
    · rw [if_pos h, Int.min_eq_left (by omega), Int.max_eq_right (by omega)]
    · rw [if_neg h, Int.min_eq_right (by omega), Int.max_eq_left (by omega)]
  rw [ht]
  rw [List.perm_iff_count]
  intro z
  by_cases h : a < b
  · have h2 : ¬ b < a := by omega
    simp only [h, h2, decide_true, decide_false, if_true, if_false, List.count_append, List.count_cons, List.count_nil, Bool.false_eq_true]
    omega
  · have h2 : b < a := by omega
    simp only [h, h2, decide_true, decide_false, if_true, if_false, List.count_append, List.count_cons, List.count_nil, Bool.false_eq_true]
    omega
theorem sort_perm {xs ys : List PP} (h : xs.Perm ys) : sortP xs = sortP ys :=
  uniq_sortedP (((perm_sortP xs).trans h).trans (perm_sortP ys).symm) (sorted_sortP xs) (sorted_sortP ys)
def Leaf (r : List Int) (i : Nat) : Prop := ∃ A a x B, r = A ++ a :: x :: a :: B ∧ A.length + 1 = i ∧ x ∉ A ++ a :: B
theorem Rnd.has_leaf {r : List Int} (h : Rnd r) (hl : 1 < r.length) : ∃ i, Leaf r i := by
  obtain ⟨C, c, y, D, e, _, hy⟩ := h.shrink hl
  exact ⟨_, C, c, y, D, e, rfl, hy⟩
theorem leaf_lt {r : List Int} {i : Nat} (h : Leaf r i) : 1 ≤ i ∧ i + 1 < r.length := by
  obtain ⟨A, a, x, B, rfl, hi, _⟩ := h
  simp only [List.length_append, List.length_cons]
  omega
theorem leaf_of {r : List Int} {k : Nat} (h1 : 1 ≤ k) (h2 : k + 1 < r.length) (e : r[k - 1]'(by omega) = r[k + 1]) (c : r.count (r[k]'(by omega)) = 1) : Leaf r k := by
  have e1 : r = r.take (k - 1) ++ r[k - 1]'(by omega) :: r[k]'(by omega) :: r[k - 1]'(by omega) :: r.drop (k + 2) := by
    conv => lhs; rw [← List.take_append_drop (k - 1) r]
    congr 1
    rw [List.drop_eq_getElem_cons (by omega)]
    congr 1
    have : k - 1 + 1 = k := by omega
    simp only [this]
    rw [List.drop_eq_getElem_cons (by omega), List.drop_eq_getElem_cons (by omega), e]
  refine ⟨_, _, _, _, e1, by rw [List.length_take]; omega, ?_⟩
  generalize hA : r.take (k - 1) = A at *
  generalize hB : r.drop (k + 2) = B at *
  generalize ha : r[k - 1]'(by omega) = a at *
  generalize hx : r[k]'(by omega) = x at *
  rw [e1] at c
  simp only [List.count_append, List.count_cons, beq_self_eq_true, if_true] at c
  have hne : ¬ (a == x) = true := fun z => by simp only [z, if_true] at c; omega
  simp only [hne, Bool.false_eq_true, if_false] at c
  intro hm
  rcases List.mem_append.mp hm with z | z
  · have := List.count_pos_iff.mpr z
    omega
  · rcases List.mem_cons.mp z with z | z
    · exact hne (by simp [z])
    · have := List.count_pos_iff.mpr z
      omega
theorem leaf_at {r : List Int} {k : Nat} (h : Leaf r k) : ∃ (h1 : k - 1 < r.length) (h2 : k < r.length) (h3 : k + 1 < r.length), r[k - 1] = r[k + 1] ∧ r.count r[k] = 1 := by
  have := leaf_lt h
  obtain ⟨A, a, x, B, rfl, hi, hx⟩ := h
  refine ⟨by omega, by omega, this.2, ?_, ?_⟩
  · subst hi
    have e1 : (A ++ a :: x :: a :: B)[A.length + 1 - 1]? = some a := by
      rw [Nat.add_sub_cancel, List.getElem?_append_right (Nat.le_refl _), Nat.sub_self]; rfl
    have e2 : (A ++ a :: x :: a :: B)[A.length + 1 + 1]? = some a := by
      rw [List.getElem?_append_right (by omega), show A.length + 1 + 1 - A.length = 2 by omega]; rfl
    rw [List.getElem?_eq_getElem (by omega)] at e1 e2
    exact (Option.some.inj e1).trans (Option.some.inj e2).symm
  · subst hi
    have e1 : (A ++ a :: x :: a :: B)[A.length + 1]? = some x := by
      rw [List.getElem?_append_right (by omega), show A.length + 1 - A.length = 1 by omega]; rfl
    rw [List.getElem?_eq_getElem (by omega)] at e1
    rw [Option.some.inj e1]
    have hA : A.count x = 0 := List.count_eq_zero.mpr fun z => hx (by simp [z])
    have hB : B.count x = 0 := List.count_eq_zero.mpr fun z => hx (by simp [z])
    have ha : ¬ (a == x) = true := fun z => hx (by simp at z; simp [z])
    simp only [List.count_append, List.count_cons, hA, hB, ha, beq_self_eq_true, if_true, Bool.false_eq_true, if_false]
theorem leaf_keep {A B : List Int} {a x : Int} {j : Nat} (hx : x ∉ A ++ a :: B) (hj : j < A.length) (h : Leaf (A ++ a :: B) j) : Leaf (A ++ a :: x :: a :: B) j := by
  obtain ⟨h1, h2, h3, e, c⟩ := leaf_at h
  have hl := leaf_lt h
  have q : ∀ (i : Nat) (h' : i < (A ++ a :: B).length), i ≤ A.length → (A ++ a :: x :: a :: B)[i]'(by simp only [List.length_append, List.length_cons] at *; omega) = (A ++ a :: B)[i] := by
    intro i h' hi
    have : (A ++ a :: x :: a :: B)[i]? = (A ++ a :: B)[i]? := by
      by_cases hi2 : i < A.length
      · rw [List.getElem?_append_left hi2, List.getElem?_append_left hi2]
      · have : i = A.length := by omega
        subst this
        rw [List.getElem?_append_right (Nat.le_refl _), List.getElem?_append_right (Nat.le_refl _), Nat.sub_self]
        rfl
    rw [List.getElem?_eq_getElem h', List.getElem?_eq_getElem (by simp only [List.length_append, List.length_cons] at *; omega)] at this
    exact Option.some.inj this
  refine leaf_of hl.1 (by simp only [List.length_append, List.length_cons] at *; omega) ?_ ?_
  · rw [q _ h1 (by omega), q _ h3 (by omega), e]
  · rw [q _ h2 (by omega)]
    generalize hy : (A ++ a :: B)[j] = y at *
    have hyx : ¬ (x == y) = true := fun z => hx (by simp at z; rw [z, ← hy]; exact List.getElem_mem h2)
    have hyA : y ∈ A := by
      rw [List.getElem_append_left hj] at hy
      rw [← hy]; exact List.getElem_mem hj
    have hc := List.count_pos_iff.mpr hyA
    simp only [List.count_append, List.count_cons] at c
    have hya : ¬ (a == y) = true := fun z => by simp only [z, if_true] at c; omega
    simp only [hya, Bool.false_eq_true, if_false] at c
    simp only [List.count_append, List.count_cons, hya, hyx, Bool.false_eq_true, if_false]
    omega
/-- a while by its word and a measure -/
theorem while_by {S ρ τ : Type} {G : Option τ → Prop} {c : S → Option Bool} {f : S → Option (Flow S ρ)} {k : S → Option τ} {d : ρ → Option τ} (I : S → Prop) (μ : S → Nat)
    (step : ∀ s, I s → (c s = some false ∧ G (k s)) ∨ (c s = some true ∧ ((∃ s', f s = some (.nx s') ∧ I s' ∧ μ s' < μ s) ∨ (∃ s', f s = some (.bk s') ∧ G (k s')) ∨ ∃ r, f s = some (.dn r) ∧ G (d r)))) :
    ∀ (n : Nat) {s : S}, I s → μ s < n → G (after (whileM c f n s) k d)
  | 0, s, _, h => absurd h (Nat.not_lt_zero _)
  | n + 1, s, h0, hn => by
    rcases step s h0 with ⟨e, g⟩ | ⟨e, ⟨s', e2, h', hm⟩ | ⟨s', e2, g⟩ | ⟨r, e2, g⟩⟩
    · simp only [whileM]; rw [e]; exact g
    · have := while_by I μ step n h' (by omega)
      simp only [whileM]
      rw [e, bind_s, if_pos rfl, e2]
      exact this
    · simp only [whileM]; rw [e, bind_s, if_pos rfl, e2]; exact g
    · simp only [whileM]; rw [e, bind_s, if_pos rfl, e2]; exact g
theorem while_fuel {S ρ τ : Type} {G : Option τ → Prop} {c : S → Option Bool} {f : S → Option (Flow S ρ)} {k : S → Option τ} {d : ρ → Option τ} {s : S} (I : S → Prop) (μ : S → Nat) (h0 : I s) (hn : μ s < 1000000)
    (step : ∀ s, I s → (c s = some false ∧ G (k s)) ∨ (c s = some true ∧ ((∃ s', f s = some (.nx s') ∧ I s' ∧ μ s' < μ s) ∨ (∃ s', f s = some (.bk s') ∧ G (k s')) ∨ ∃ r, f s = some (.dn r) ∧ G (d r)))) :
    G (after (whileM c f fuel s) k d) := while_by I μ step fuel h0 (by unfold fuel; exact hn)
@[simp] theorem osortP_s (xs : List PP) : osortP (some xs) = some (sortP xs) := (rfl)
@[simp] theorem ocnt_s (xs : List Int) (y : Int) : ocnt (some xs) (some y) = some ((xs.count y : Nat) : Int) := (rfl)
theorem eds_len (r : List Int) : (eds r).length ≤ r.length := by
  unfold eds
  have := List.length_filter_le (fun x : PP => decide (x.1 < x.2)) (prs r)
  have := prs_len r
  omega
end Tw
namespace Tw
open PySem L2
theorem cell_s (ns : List Int) (k : Nat) : ∃ c, u_cellat (ns, (k : Int), ()) = some c := by
  show ∃ c, m_cellat ns (k : Int) = some c
  unfold m_cellat
  simp only [olt_s, oite_s, oix_s]
  by_cases h : (k : Int) < ns.length
  · simp only [h, decide_true, if_true]
    exact ⟨_, atI_nat' (by omega)⟩
  · simp only [h, decide_false]
    exact ⟨0, rfl⟩
theorem cell_0 (ns : List Int) : ∃ c, u_cellat (ns, 0, ()) = some c := cell_s ns 0
theorem cell_1 (ns : List Int) : ∃ c, u_cellat (ns, 1, ()) = some c := cell_s ns 1
theorem cell_2 (ns : List Int) : ∃ c, u_cellat (ns, 2, ()) = some c := cell_s ns 2
theorem cell_3 (ns : List Int) : ∃ c, u_cellat (ns, 3, ()) = some c := cell_s ns 3
theorem whole_int (i : Int) : u_whole (i, ()) = some true := by
  show m_whole i = _
  unfold m_whole
  simp only [oisi_s, em_int, isi_int, isi_int_bool, onot_s, Bool.not_false, oand_t]
def TieOk (n : Int) (t : PP) : Prop := 0 ≤ t.1 ∧ t.1 < t.2 ∧ t.2 < n
theorem count_s (c : Int) : ∃ n, u_count (c, ()) = some n ∧ 1 ≤ n ∧ n ≤ 200 := by
  show ∃ n, m_count c = some n ∧ _
  unfold m_count
  rw [omod_s (a := c) (b := 4) (by decide), ofdiv_s (a := c) (b := 4) (by decide) (by decide), omod_s (a := c / 4) (b := 200) (by decide), omod_s (a := c / 4) (b := 12) (by decide)]
  simp only [oeq_s, oadd_s, oite_s]
  have a0 := Int.emod_nonneg (c / 4) (b := 200) (by decide)
  have a1 := Int.emod_lt_of_pos (c / 4) (b := 200) (by decide)
  have b0 := Int.emod_nonneg (c / 4) (b := 12) (by decide)
  have b1 := Int.emod_lt_of_pos (c / 4) (b := 12) (by decide)
  split
  · exact ⟨_, rfl, by omega, by omega⟩
  · exact ⟨_, rfl, by omega, by omega⟩
theorem digits_in {c b : Int} {n : Nat} (hb : 0 < b) (hb2 : b < 1000000) (hn : n ≤ 100) : ∃ r, u_digits (c, b, (n : Int), ()) = some r ∧ r.length = n ∧ ∀ x ∈ r, 0 ≤ x ∧ x < b := by
  show ∃ r, m_digits c b (n : Int) = some r ∧ _
  unfold m_digits
  simp only [bind_s]
  rw [orange1_s (by omega), Int.toNat_natCast]
  simp only [bind_s]
  refine after_by (G := fun o => ∃ r : List Int, o = some r ∧ r.length = n ∧ ∀ x ∈ r, 0 ≤ x ∧ x < b) (fun pre (s : Int × List Int) => s.2.length = pre.length ∧ ∀ x ∈ s.2, 0 ≤ x ∧ x < b) ⟨rfl, fun x hx => by cases hx⟩ ?_ ?_
  · rintro pre x post ⟨cc, r⟩ hx ⟨hs, hm⟩
    obtain ⟨_, hx2⟩ := upto_split hx
    simp only at hs hm
    simp only
    rw [omod_s hb, ofdiv_s hb (by omega)]
    simp only [bind_s]
    rw [oapp_s (by omega)]
    simp only [bind_s]
    refine ⟨_, rfl, by simp only [List.length_append, List.length_singleton]; omega, fun y hy => ?_⟩
    rcases List.mem_append.mp hy with hy | hy
    · exact hm y hy
    · rw [List.mem_singleton] at hy
      subst hy
      exact ⟨Int.emod_nonneg _ (by omega), Int.emod_lt_of_pos _ hb⟩
  · rintro s ⟨hs, hm⟩
    rw [upto_len] at hs
    exact ⟨_, rfl, hs, hm⟩
theorem ties_in {cs : List Int} {n : Int} {most : Nat} (h0 : 1 ≤ n) (h1 : n ≤ 200) (hl : cs.length ≤ 63) (hm : most ≤ 100) : ∃ r, u_ties (cs, n, (most : Int), ()) = some r ∧ r.length ≤ most ∧ ∀ x ∈ r, TieOk n x := by
  show ∃ r, m_ties cs n (most : Int) = some r ∧ _
  unfold m_ties
  simp only [bind_s, olen_s]
  rw [orange1_s (by omega), Int.toNat_natCast]
  simp only [bind_s]
  refine after_by (G := fun o => ∃ r : List PP, o = some r ∧ r.length ≤ most ∧ ∀ x ∈ r, TieOk n x) (fun pre (s : List PP) => s.length ≤ most ∧ ∀ x ∈ s, TieOk n x) ⟨by simp, fun x hx => by cases hx⟩ ?_ ?_
  · rintro pre x post s hx ⟨hs, hi⟩
    obtain ⟨hx1, hx2⟩ := upto_split hx
    have hx1 : x = (pre.length : Int) := by omega
    subst hx1
    rw [oix_s, atI_nat' hx2, omod_s (a := cs[pre.length]) (b := n) (by omega), ofdiv_s (a := cs[pre.length]) (b := n) (by omega) (by omega), omul_l (a := 7) (by decide)]
    simp only [oadd_s, bind_s]
    rw [omod_s (b := n) (by omega)]
    generalize cs[pre.length] = c
    have a0 := Int.emod_nonneg c (b := n) (by omega)
    have a1 := Int.emod_lt_of_pos c (b := n) (by omega)
    have b0 := Int.emod_nonneg (c / n + 7 * (pre.length : Int) + 1) (b := n) (by omega)
    have b1 := Int.emod_lt_of_pos (c / n + 7 * (pre.length : Int) + 1) (b := n) (by omega)
    generalize c % n = a at *
    generalize (c / n + 7 * (pre.length : Int) + 1) % n = b at *
    simp only [bind_s, omin2_s, omax2_s, otup2_s, one_s, onind_s, olen_s, olt_s, oand_s, oite_s]
    split
    · rename_i hc
      simp only [Bool.and_eq_true, Bool.not_eq_true', decide_eq_true_eq, decide_eq_false_iff_not] at hc
      rw [oapp_s (by omega)]
      simp only [bind_s]
      refine ⟨_, rfl, by simp only [List.length_append, List.length_singleton]; omega, fun y hy => ?_⟩
      rcases List.mem_append.mp hy with hy | hy
      · exact hi y hy
      · rw [List.mem_singleton] at hy
        subst hy
        refine ⟨?_, ?_, ?_⟩
        · show 0 ≤ min a b; omega
        · show min a b < max a b; omega
        · show max a b < n; omega
    · exact ⟨_, rfl, hs, hi⟩
  · rintro s ⟨hs, hi⟩
    exact ⟨_, rfl, hs, hi⟩
theorem net_in (ns : List Int) {n : Int} (h0 : 1 ≤ n) (h1 : n ≤ 200) (hl : ns.length ≤ 63) : ∃ r, u_net (ns, n, ()) = some r ∧ r.length ≤ 40 ∧ ∀ x ∈ r, TieOk n x := by
  show ∃ r, m_net ns n = some r ∧ _
  unfold m_net
  obtain ⟨c0, e0⟩ := cell_0 ns
  obtain ⟨c1, e1⟩ := cell_1 ns
  obtain ⟨c2, e2⟩ := cell_2 ns
  simp only [oarg_s, bind_s, e0, e1, e2, map_s, ocut_s]
  rw [omod_s (a := c0) (b := 2) (by decide), omod_s (a := c2) (b := 41) (by decide), omul_l (a := n) (by omega)]
  simp only [oeq_s, oite_s, oarg_s, bind_s]
  split
  · have hc := cutG_le ns (some 1) (some 63)
    exact ties_in (most := 40) h0 h1 (by omega) (by omega)
  · have s0 := Int.emod_nonneg c2 (b := 41) (by decide)
    have s1 := Int.emod_lt_of_pos c2 (b := 41) (by decide)
    generalize c2 % 41 = m at *
    obtain ⟨m, rfl⟩ := Int.eq_ofNat_of_zero_le s0
    have hnn : n * n ≤ 200 * 200 := Int.mul_le_mul h1 h1 (by omega) (by omega)
    have hnp : 0 < n * n := Int.mul_pos (by omega) (by omega)
    obtain ⟨ds, ed, dl, dm⟩ := digits_in (c := c1) (b := n * n) (n := m) hnp (by omega) (by omega)
    rw [ed]
    simp only [bind_s]
    refine after_by (G := fun o => ∃ r : List PP, o = some r ∧ r.length ≤ 40 ∧ ∀ x ∈ r, TieOk n x) (fun pre (s : List PP) => s.length ≤ pre.length ∧ ∀ x ∈ s, TieOk n x) ⟨by simp, fun x hx => by cases hx⟩ ?_ ?_
    · rintro pre x post s hx ⟨hs, hi⟩
      have hxm : x ∈ ds := by rw [hx]; simp
      have hpl : pre.length < ds.length := by rw [hx]; simp
      obtain ⟨x0, x1⟩ := dm x hxm
      rw [ofdiv_s (a := x) (b := n) (by omega) (by omega), omod_s (a := x) (b := n) (by omega)]
      have a0 : 0 ≤ x / n := Int.ediv_nonneg x0 (by omega)
      have a1 : x / n < n := Int.ediv_lt_of_lt_mul (by omega) x1
      have b0 := Int.emod_nonneg x (b := n) (by omega)
      have b1 := Int.emod_lt_of_pos x (b := n) (by omega)
      generalize x / n = a at *
      generalize x % n = b at *
      simp only [bind_s, map_s, omin2_s, omax2_s, otup2_s, one_s, onind_s, oand_s, oite_s]
      split
      · rename_i hc
        simp only [Bool.and_eq_true, Bool.not_eq_true', decide_eq_true_eq, decide_eq_false_iff_not] at hc
        rw [oapp_s (by omega)]
        simp only [bind_s]
        refine ⟨_, rfl, by simp only [List.length_append, List.length_singleton]; omega, fun y hy => ?_⟩
        rcases List.mem_append.mp hy with hy | hy
        · exact hi y hy
        · rw [List.mem_singleton] at hy
          subst hy
          refine ⟨?_, ?_, ?_⟩
          · show 0 ≤ min a b; omega
          · show min a b < max a b
            have := hc.1
            omega
          · show max a b < n; omega
      · exact ⟨_, rfl, by simp only [List.length_append, List.length_singleton]; omega, hi⟩
    · rintro s ⟨hs, hi⟩
      exact ⟨_, rfl, by omega, hi⟩
def Nb (ts : List PP) (x y : Int) : Prop := (x, y) ∈ ts ∨ (y, x) ∈ ts
theorem at_set {α : Type} {xs : List α} {a : Int} (h0 : 0 ≤ a) (h1 : a < xs.length) : ∃ row, xs[a.toNat]? = some row ∧ atI xs a = some row ∧ ∀ r', oset xs a r' = some (xs.set a.toNat r') := by
  refine ⟨xs[a.toNat]'(by omega), List.getElem?_eq_getElem (by omega), atI_of h0 h1, fun r' => ?_⟩
  unfold oset ixN
  rw [if_pos h0, if_pos h1]
  rfl
theorem near_s {n : Int} {ts : List PP} (h0 : 1 ≤ n) (h1 : n ≤ 200) (hl : ts.length ≤ 60) (ht : ∀ t ∈ ts, TieOk n t) : ∃ near, u_neighbours (n, ts, ()) = some near ∧ near.length = n.toNat ∧
    ∀ (i : Nat) row, near[i]? = some row → (∀ y, y ∈ row ↔ Nb ts i y) ∧ row.length ≤ 2 * ts.length := by
  show ∃ near, m_neighbours n ts = some near ∧ _
  unfold m_neighbours
  rw [orange1_s (by omega)]
  have e : olc (some (upto n.toNat 0 1)) (fun (x1 : Int) => (some true)) (fun (x1 : Int) => (some ([] : List Int))) = some ((upto n.toNat 0 1).map fun _ => []) :=
    olc_all (by rw [upto_len]; omega) fun x _ => ⟨rfl, rfl⟩
  rw [e]
  simp only [bind_s]
  refine after_by (G := fun o => ∃ near : List (List Int), o = some near ∧ near.length = n.toNat ∧ ∀ (i : Nat) row, near[i]? = some row → (∀ y, y ∈ row ↔ Nb ts i y) ∧ row.length ≤ 2 * ts.length)
    (fun pre (s : List (List Int)) => s.length = n.toNat ∧ ∀ (i : Nat) row, s[i]? = some row → (∀ y, y ∈ row ↔ Nb pre i y) ∧ row.length ≤ 2 * pre.length) ⟨by rw [List.length_map, upto_len], fun i row hr => ?_⟩ ?_ ?_
  · rw [List.getElem?_map] at hr
    cases hz : (upto n.toNat 0 1)[i]? with
    | none => rw [hz] at hr; cases hr
    | some z =>
      rw [hz] at hr
      cases hr
      exact ⟨fun y => by unfold Nb; simp, by simp⟩
  · rintro pre ⟨a, b⟩ post s hx ⟨hs, hi⟩
    have hpl : pre.length < ts.length := by rw [hx]; simp
    obtain ⟨t1, t2, t3⟩ := ht (a, b) (by rw [hx]; simp)
    simp only at t1 t2 t3
    simp only [bind_s]
    obtain ⟨ra, ga, aa, sa⟩ := at_set (xs := s) (a := a) (by omega) (by omega)
    obtain ⟨m1, l1⟩ := hi _ _ ga
    rw [aa]
    simp only [bind_s]
    rw [oapp_s (by omega)]
    simp only [bind_s, sa]
    obtain ⟨rb, gb, ab, sb⟩ := at_set (xs := s.set a.toNat (ra ++ [b])) (a := b) (by omega) (by rw [List.length_set]; omega)
    have gb2 : s[b.toNat]? = some rb := by rw [List.getElem?_set_ne (by omega)] at gb; exact gb
    obtain ⟨m2, l2⟩ := hi _ _ gb2
    rw [ab]
    simp only [bind_s]
    rw [oapp_s (by omega)]
    simp only [bind_s, sb]
    refine ⟨_, rfl, by rw [List.length_set, List.length_set]; exact hs, fun i row hr => ?_⟩
    have nb : ∀ x y : Int, Nb (pre ++ [(a, b)]) x y ↔ Nb pre x y ∨ (x = a ∧ y = b) ∨ (x = b ∧ y = a) := fun x y => by
      unfold Nb
      simp only [List.mem_append, List.mem_singleton, Prod.mk.injEq]
      constructor
      · rintro ((z | z) | z | z)
        · exact .inl (.inl z)
        · exact .inr (.inl z)
        · exact .inl (.inr z)
        · exact .inr (.inr ⟨z.2, z.1⟩)
      · rintro ((z | z) | z | z)
        · exact .inl (.inl z)
        · exact .inr (.inl z)
        · exact .inl (.inr z)
        · exact .inr (.inr ⟨z.2, z.1⟩)
    have hsl : s.length = n.toNat := hs
    by_cases hib : i = b.toNat
    · subst hib
      rw [List.getElem?_set_self (by rw [List.length_set]; omega)] at hr
      cases hr
      refine ⟨fun y => ?_, by simp only [List.length_append, List.length_singleton]; omega⟩
      rw [nb, List.mem_append, List.mem_singleton, m2]
      constructor
      · rintro (z | z)
        · exact .inl z
        · exact .inr (.inr ⟨by omega, z⟩)
      · rintro (z | z | z)
        · exact .inl z
        · omega
        · exact .inr z.2
    · rw [List.getElem?_set_ne (fun e => hib e.symm)] at hr
      by_cases hia : i = a.toNat
      · subst hia
        rw [List.getElem?_set_self (by omega)] at hr
        cases hr
        refine ⟨fun y => ?_, by simp only [List.length_append, List.length_singleton]; omega⟩
        rw [nb, List.mem_append, List.mem_singleton, m1]
        constructor
        · rintro (z | z)
          · exact .inl z
          · exact .inr (.inl ⟨by omega, z⟩)
        · rintro (z | z | z)
          · exact .inl z
          · exact .inr z.2
          · omega
      · rw [List.getElem?_set_ne (fun e => hia e.symm)] at hr
        obtain ⟨m3, l3⟩ := hi _ _ hr
        refine ⟨fun y => ?_, by simp only [List.length_append, List.length_singleton]; omega⟩
        rw [nb, m3]
        constructor
        · exact .inl
        · rintro (z | z | z)
          · exact z
          · omega
          · omega
  · rintro s ⟨hs, hi⟩
    exact ⟨_, rfl, hs, hi⟩
structure BF (R : Int → Int → Prop) (a n : Int) (far : List (Int × Int)) (k : Nat) : Prop where
  nd : (far.map (·.1)).Nodup
  rg : ∀ x ∈ far, 0 ≤ x.1 ∧ x.1 < n
  hd : far[0]? = some (a, 0)
  mono : ∀ (i j : Nat) xi xj, i ≤ j → far[i]? = some xi → far[j]? = some xj → xi.2 ≤ xj.2
  top : ∀ xk, far[k]? = some xk → ∀ x ∈ far, x.2 ≤ xk.2 + 1
  dn : ∀ i < k, ∀ xi, far[i]? = some xi → ∀ y, R xi.1 y → ∃ d, (y, d) ∈ far ∧ d ≤ xi.2 + 1
  pr : ∀ x ∈ far, x.1 ≠ a → 1 ≤ x.2 ∧ ∃ y, (y, x.2 - 1) ∈ far ∧ R x.1 y
theorem dgetI_mem {β : Type} : ∀ {far : List (Int × β)} {x : Int} {d : β}, (far.map (·.1)).Nodup → (x, d) ∈ far → dget far x = some d
  | [], _, _, _, h => by cases h
  | (y, e) :: far, x, d, nd, h => by
    rw [List.map_cons, List.nodup_cons] at nd
    unfold dget
    by_cases hy : y = x
    · subst hy
      rw [List.find?_cons_of_pos (by simp)]
      rcases List.mem_cons.mp h with h | h
      · cases h; rfl
      · exact absurd (List.mem_map.mpr ⟨_, h, rfl⟩) nd.1
    · rw [List.find?_cons_of_neg (by simpa using hy)]
      rcases List.mem_cons.mp h with h | h
      · cases h; exact absurd rfl hy
      · exact dgetI_mem nd.2 h
theorem dgetI_iff {β : Type} {kvs : List (Int × β)} {k : Int} : (dget kvs k).isSome = true ↔ k ∈ kvs.map (·.1) := by
  unfold dget
  rw [Option.isSome_map, List.find?_isSome, List.mem_map]
  constructor
  · rintro ⟨x, hx, e⟩; exact ⟨x, hx, by simpa using e⟩
  · rintro ⟨x, hx, e⟩; exact ⟨x, hx, by simpa using e⟩
theorem dputI_new {β : Type} {kvs : List (Int × β)} {k : Int} {v : β} (h : k ∉ kvs.map (·.1)) : dput kvs k v = kvs ++ [(k, v)] := by
  unfold dput
  rw [if_neg]
  intro hc
  obtain ⟨x, hx, e⟩ := List.any_eq_true.mp hc
  exact h (List.mem_map.mpr ⟨x, hx, by simpa using e⟩)
theorem BF.len {R : Int → Int → Prop} {a n : Int} {far : List (Int × Int)} {k : Nat} (b : BF R a n far k) : far.length ≤ n.toNat := by
  have : (far.map (·.1)).length ≤ (upto n.toNat 0 1).length := b.nd.length_le_of_subset fun x hx => by
    obtain ⟨y, hy, rfl⟩ := List.mem_map.mp hx
    obtain ⟨h1, h2⟩ := b.rg y hy
    unfold upto
    exact List.mem_map.mpr ⟨y.1.toNat, List.mem_range.mpr (by omega), by omega⟩
  rw [List.length_map, upto_len] at this
  exact this
/-- one place more -/
theorem BF.add {R : Int → Int → Prop} (sy : ∀ x y, R x y → R y x) {a n : Int} {far : List (Int × Int)} {k : Nat} (b : BF R a n far k) {h dh y : Int} (hk : far[k]? = some (h, dh)) (hy : y ∉ far.map (·.1)) (ry : R h y) (r0 : 0 ≤ y ∧ y < n) : BF R a n (far ++ [(y, dh + 1)]) k := by
  have hkl := (List.getElem?_eq_some_iff.mp hk).1
  have hh : (h, dh) ∈ far := List.mem_of_getElem? hk
  have ha : (a, (0 : Int)) ∈ far := List.mem_of_getElem? b.hd
  have d0 : 0 ≤ dh := b.mono 0 k _ _ (Nat.zero_le _) b.hd hk
  refine ⟨?_, fun x hx => ?_, ?_, fun i j xi xj hij hi hj => ?_, fun xk hxk x hx => ?_, fun i hi xi hxi z hz => ?_, fun x hx hne => ?_⟩
  · rw [List.map_append]
    exact List.nodup_append.mpr ⟨b.nd, by simp, fun x hx z hz e => hy (by simp at hz; rw [← hz, ← e]; exact hx)⟩
  · rcases List.mem_append.mp hx with hx | hx
    · exact b.rg x hx
    · rw [List.mem_singleton] at hx; subst hx; exact r0
  · rw [List.getElem?_append_left (by omega)]; exact b.hd
  · have hjl := (List.getElem?_eq_some_iff.mp hj).1
    rw [List.length_append, List.length_singleton] at hjl
    by_cases hj2 : j < far.length
    · rw [List.getElem?_append_left hj2] at hj
      rw [List.getElem?_append_left (by omega)] at hi
      exact b.mono i j xi xj hij hi hj
    · have : j = far.length := by omega
      subst this
      rw [List.getElem?_append_right (Nat.le_refl _), Nat.sub_self] at hj
      cases hj
      by_cases hi2 : i < far.length
      · rw [List.getElem?_append_left hi2] at hi
        exact b.top _ hk xi (List.mem_of_getElem? hi)
      · have : i = far.length := by omega
        subst this
        rw [List.getElem?_append_right (Nat.le_refl _), Nat.sub_self] at hi
        cases hi
        exact Int.le_refl _
  · rw [List.getElem?_append_left hkl, hk] at hxk
    cases hxk
    rcases List.mem_append.mp hx with hx | hx
    · exact b.top _ hk x hx
    · rw [List.mem_singleton] at hx; subst hx; exact Int.le_refl _
  · rw [List.getElem?_append_left (by omega)] at hxi
    obtain ⟨d, h1, h2⟩ := b.dn i hi xi hxi z hz
    exact ⟨d, List.mem_append.mpr (.inl h1), h2⟩
  · rcases List.mem_append.mp hx with hx | hx
    · obtain ⟨h1, z, h2, h3⟩ := b.pr x hx hne
      exact ⟨h1, z, List.mem_append.mpr (.inl h2), h3⟩
    · rw [List.mem_singleton] at hx
      subst hx
      refine ⟨by show 1 ≤ dh + 1; omega, h, List.mem_append.mpr (.inl ?_), sy _ _ ry⟩
      show (h, dh + 1 - 1) ∈ far
      rw [show dh + 1 - 1 = dh by omega]
      exact hh
theorem reached_s {R : Int → Int → Prop} (sy : ∀ x y, R x y → R y x) {n a : Int} {near : List (List Int)} (h0 : 1 ≤ n) (h1 : n ≤ 200) (hn : near.length = n.toNat) (hr : ∀ (i : Nat) row, near[i]? = some row → ∀ y, y ∈ row ↔ R i y) (rr : ∀ x y, R x y → 0 ≤ y ∧ y < n) (a0 : 0 ≤ a) (a1 : a < n) :
    ∃ far, u_reached (near, a, ()) = some far ∧ BF R a n far far.length := by
  show ∃ far, m_reached near a = some far ∧ _
  unfold m_reached
  show ∃ far, Option.bind (some [(a, (0 : Int))]) _ = some far ∧ _
  simp only [bind_s, ocons_s]
  refine while_fuel (G := fun o => ∃ far : List (Int × Int), o = some far ∧ BF R a n far far.length) (fun s => ∃ k : Nat, s.2.2 = (k : Int) ∧ k ≤ s.1.length ∧ s.2.1 = s.1.map (·.1) ∧ BF R a n s.1 k) (fun s => n.toNat - s.2.2.toNat)
    ⟨0, rfl, by simp, rfl, ⟨by simp, fun x hx => by rw [List.mem_singleton] at hx; subst hx; exact ⟨a0, a1⟩, rfl, fun i j xi xj _ hi hj => ?_, fun xk hxk x hx => ?_, fun i hi => absurd hi (Nat.not_lt_zero _), fun x hx hne => by rw [List.mem_singleton] at hx; subst hx; exact absurd rfl hne⟩⟩ (by simp only; omega) ?_
  · have hi := List.mem_of_getElem? hi
    have hj := List.mem_of_getElem? hj
    rw [List.mem_singleton] at hi hj
    rw [hi, hj]
    exact Int.le_refl _
  · have hk := List.mem_of_getElem? hxk
    rw [List.mem_singleton] at hk hx
    rw [hk, hx]
    show (0 : Int) ≤ 0 + 1
    decide
  · rintro ⟨far, w, kk⟩ ⟨k, hk, hkl, hw, b⟩
    simp only at hk hkl hw b
    subst hk
    subst hw
    have hlen := b.len
    simp only [olen_s, olt_s, List.length_map]
    by_cases hc : k < far.length
    · refine .inr ⟨by rw [decide_eq_true (by omega)], .inl ?_⟩
      obtain ⟨⟨h, dh⟩, hkx⟩ : ∃ x, far[k]? = some x := ⟨_, List.getElem?_eq_getElem hc⟩
      have hm := List.mem_of_getElem? hkx
      obtain ⟨g0, g1⟩ := b.rg _ hm
      simp only at g0 g1
      have e1 : oix (some (far.map (·.1))) (some (k : Int)) = some h := by
        rw [oix_s, atI_nat (by rw [List.getElem?_map, hkx]; rfl)]
      rw [e1]
      simp only [bind_s]
      have e2 : oix (some near) (some h) = some (near[h.toNat]'(by omega)) := by rw [oix_s, atI_of g0 (by omega)]
      rw [e2]
      have hrow := hr h.toNat _ (List.getElem?_eq_getElem (by omega))
      rw [show ((h.toNat : Nat) : Int) = h by omega] at hrow
      generalize near[h.toNat]'(by omega) = row at *
      simp only [bind_s]
      refine after_by (G := fun o => ∃ s' : List (Int × Int) × (List Int × Int), o = some (Flow.nx s') ∧ (∃ k : Nat, s'.2.2 = (k : Int) ∧ k ≤ s'.1.length ∧ s'.2.1 = s'.1.map (·.1) ∧ BF R a n s'.1 k) ∧ n.toNat - s'.2.2.toNat < n.toNat - ((k : Int)).toNat)
        (fun pre (s : List (Int × Int) × List Int) => s.2 = s.1.map (·.1) ∧ BF R a n s.1 k ∧ s.1[k]? = some (h, dh) ∧ ∀ y ∈ pre, ∃ d, (y, d) ∈ s.1 ∧ d ≤ dh + 1) ⟨rfl, b, hkx, fun y hy => by cases hy⟩ ?_ ?_
      · rintro pre y post ⟨fa, wa⟩ hx ⟨i1, i2, i3, i4⟩
        simp only at i1 i2 i3 i4
        subst i1
        have hfl := i2.len
        have ry := (hrow y).mp (by rw [hx]; simp)
        simp only [odnin_s, oite_s]
        by_cases hy : (dget fa y).isSome = true
        · rw [hy, Bool.not_true, if_neg (by decide)]
          refine ⟨_, rfl, rfl, i2, i3, fun z hz => ?_⟩
          rcases List.mem_append.mp hz with hz | hz
          · exact i4 z hz
          · rw [List.mem_singleton] at hz
            subst hz
            obtain ⟨⟨z', d⟩, hx1, hx2⟩ := List.mem_map.mp (dgetI_iff.mp hy)
            simp only at hx2
            subst hx2
            exact ⟨d, hx1, i2.top _ i3 _ hx1⟩
        · have hny : y ∉ fa.map (·.1) := fun z => hy (dgetI_iff.mpr z)
          rw [Bool.not_eq_true] at hy
          rw [hy, Bool.not_false, if_pos rfl, odget_s, dgetI_mem i2.nd (List.mem_of_getElem? i3)]
          simp only [oadd_s, bind_s]
          rw [odput_s (by omega), dputI_new hny]
          simp only [bind_s]
          rw [oapp_s (by rw [List.length_map]; omega)]
          simp only [bind_s]
          have hkl2 := (List.getElem?_eq_some_iff.mp i3).1
          refine ⟨_, rfl, by simp, i2.add sy i3 hny ry (rr _ _ ry), by simp only; rw [List.getElem?_append_left hkl2]; exact i3, fun z hz => ?_⟩
          rcases List.mem_append.mp hz with hz | hz
          · obtain ⟨d, q1, q2⟩ := i4 z hz
            exact ⟨d, List.mem_append.mpr (.inl q1), q2⟩
          · rw [List.mem_singleton] at hz
            subst hz
            exact ⟨dh + 1, List.mem_append.mpr (.inr (by simp)), Int.le_refl _⟩
      · rintro ⟨fa, wa⟩ ⟨i1, i2, i3, i4⟩
        simp only at i1 i2 i3 i4
        subst i1
        have hkl2 := (List.getElem?_eq_some_iff.mp i3).1
        simp only [map_s, bind_s]
        refine ⟨_, rfl, ⟨k + 1, rfl, by simp only; omega, rfl, ⟨i2.nd, i2.rg, i2.hd, i2.mono, fun xk hxk x hx => ?_, fun i hi xi hxi y hy => ?_, i2.pr⟩⟩, ?_⟩
        · have q1 := i2.top _ i3 x hx
          have q2 := i2.mono k (k + 1) _ _ (Nat.le_succ _) i3 hxk
          simp only at q1 q2
          omega
        · by_cases hik : i = k
          · subst hik
            rw [i3] at hxi
            cases hxi
            exact i4 y ((hrow y).mpr hy)
          · exact i2.dn i (by omega) xi hxi y hy
        · have := i2.len
          simp only
          omega
    · refine .inl ⟨by rw [decide_eq_false (by omega)], far, rfl, ?_⟩
      have : k = far.length := by omega
      rw [← this]
      exact b
theorem nb_symm {ts : List PP} (x y : Int) (h : Nb ts x y) : Nb ts y x := Or.symm h
theorem far_r {n a : Int} {ts : List PP} (h0 : 1 ≤ n) (h1 : n ≤ 200) (hl : ts.length ≤ 60) (ht : ∀ t ∈ ts, TieOk n t) (a0 : 0 ≤ a) (a1 : a < n) : ∃ near far, u_neighbours (n, ts, ()) = some near ∧ u_reached (near, a, ()) = some far ∧ BF (Nb ts) a n far far.length ∧ near.length = n.toNat ∧ ∀ (i : Nat) row, near[i]? = some row → ∀ y, y ∈ row ↔ Nb ts i y := by
  obtain ⟨near, e1, hn, hr⟩ := near_s h0 h1 hl ht
  obtain ⟨far, e2, b⟩ := reached_s (R := Nb ts) nb_symm h0 h1 hn (fun i row hi => (hr i row hi).1) (fun x y h => by
    rcases h with h | h
    · obtain ⟨t1, t2, t3⟩ := ht _ h
      simp only at t1 t2 t3
      omega
    · obtain ⟨t1, t2, t3⟩ := ht _ h
      simp only at t1 t2 t3
      omega) a0 a1
  exact ⟨near, far, e1, e2, b, hn, fun i row hi => (hr i row hi).1⟩
theorem bf_edge {ts : List PP} {a n : Int} {far : List (Int × Int)} (b : BF (Nb ts) a n far far.length) {x y : Int} (h : Nb ts x y) {dx : Int} (hx : dget far x = some dx) : ∃ dy, dget far y = some dy ∧ dy ≤ dx + 1 := by
  have hm : x ∈ far.map (·.1) := dgetI_iff.mp (by rw [hx]; rfl)
  obtain ⟨⟨x', d⟩, h1, h2⟩ := List.mem_map.mp hm
  simp only at h2
  subst h2
  have := dgetI_mem b.nd h1
  rw [hx] at this
  cases this
  obtain ⟨i, hi⟩ := List.mem_iff_getElem?.mp h1
  obtain ⟨dy, q1, q2⟩ := b.dn i (List.getElem?_eq_some_iff.mp hi).1 _ hi y h
  exact ⟨dy, dgetI_mem b.nd q1, q2⟩
inductive Wk (R : Int → Int → Prop) : Nat → Int → Int → Prop
  | z (x : Int) : Wk R 0 x x
  | s {j : Nat} {x y z : Int} : R x y → Wk R j y z → Wk R (j + 1) x z
theorem Wk.snoc {R : Int → Int → Prop} : ∀ {j : Nat} {x y z : Int}, Wk R j x y → R y z → Wk R (j + 1) x z
  | _, _, _, _, .z _, h => .s h (.z _)
  | _, _, _, _, .s h w, g => .s h (w.snoc g)
theorem Wk.rev {R : Int → Int → Prop} (sy : ∀ x y, R x y → R y x) : ∀ {j : Nat} {x y : Int}, Wk R j x y → Wk R j y x
  | _, _, _, .z _ => .z _
  | _, _, _, .s h w => (w.rev sy).snoc (sy _ _ h)
theorem Wk.last {R : Int → Int → Prop} : ∀ {j : Nat} {x z : Int}, Wk R (j + 1) x z → ∃ y, Wk R j x y ∧ R y z
  | 0, _, _, .s h w => by cases w; exact ⟨_, .z _, h⟩
  | j + 1, _, _, .s h w => by
    obtain ⟨y, w1, h1⟩ := Wk.last w
    exact ⟨y, .s h w1, h1⟩
theorem bf_up {ts : List PP} {r n : Int} {far : List (Int × Int)} (b : BF (Nb ts) r n far far.length) : ∀ {j : Nat} {x y : Int}, Wk (Nb ts) j x y → ∀ {dx : Int}, dget far x = some dx → ∃ dy, dget far y = some dy ∧ dy ≤ dx + j
  | _, _, _, .z _, dx, h => ⟨dx, h, by omega⟩
  | _, _, _, .s (j := j) g w, dx, h => by
    obtain ⟨d1, e1, l1⟩ := bf_edge b g h
    obtain ⟨d2, e2, l2⟩ := bf_up b w e1
    exact ⟨d2, e2, by omega⟩
theorem bf_root {ts : List PP} {r n : Int} {far : List (Int × Int)} (b : BF (Nb ts) r n far far.length) : dget far r = some 0 := dgetI_mem b.nd (List.mem_of_getElem? b.hd)
theorem bf_mem {R : Int → Int → Prop} {r n : Int} {far : List (Int × Int)} {k : Nat} (b : BF R r n far k) {x d : Int} (h : dget far x = some d) : (x, d) ∈ far := by
  have hm : x ∈ far.map (·.1) := dgetI_iff.mp (by rw [h]; rfl)
  obtain ⟨⟨x', d'⟩, h1, h2⟩ := List.mem_map.mp hm
  simp only at h2
  subst h2
  have := dgetI_mem b.nd h1
  rw [h] at this
  cases this
  exact h1
theorem bf_nn {ts : List PP} {r n : Int} {far : List (Int × Int)} (b : BF (Nb ts) r n far far.length) {x d : Int} (h : dget far x = some d) : 0 ≤ d := by
  have h1 := bf_mem b h
  by_cases e : x = r
  · subst e
    rw [bf_root b] at h
    cases h
    exact Int.le_refl _
  · have := (b.pr _ h1 e).1
    simp only at this
    omega
theorem bf_wk {ts : List PP} {r n : Int} {far : List (Int × Int)} (b : BF (Nb ts) r n far far.length) : ∀ (m : Nat) {x d : Int}, d = m → dget far x = some d → Wk (Nb ts) m x r
  | 0, x, d, e, h => by
    by_cases hx : x = r
    · subst hx; exact .z _
    · have := (b.pr _ (bf_mem b h) hx).1
      simp only at this
      omega
  | m + 1, x, d, e, h => by
    by_cases hx : x = r
    · subst hx
      rw [bf_root b] at h
      cases h
      omega
    · obtain ⟨_, y, h2, h3⟩ := b.pr _ (bf_mem b h) hx
      exact .s h3 (bf_wk b m (d := d - 1) (by omega) (dgetI_mem b.nd h2))
theorem bf_ix {ts : List PP} {r n : Int} {far : List (Int × Int)} (b : BF (Nb ts) r n far far.length) : ∀ (i : Nat) {x d : Int}, far[i]? = some (x, d) → d ≤ i := by
  intro i
  induction i using Nat.strongRecOn with
  | ind i ih =>
    intro x d h
    have h1 := List.mem_of_getElem? h
    by_cases hx : x = r
    · subst hx
      have := dgetI_mem b.nd h1
      rw [bf_root b] at this
      cases this
      omega
    · obtain ⟨_, y, h2, _⟩ := b.pr _ h1 hx
      obtain ⟨j, hj⟩ := List.mem_iff_getElem?.mp h2
      have hji : j < i := by
        by_cases c : i ≤ j
        · have := b.mono i j _ _ c h hj
          simp only at this
          omega
        · omega
      have := ih j hji hj
      omega
theorem bf_lt {ts : List PP} {r n : Int} {far : List (Int × Int)} (b : BF (Nb ts) r n far far.length) {x d : Int} (h : dget far x = some d) : d < n := by
  obtain ⟨i, hi⟩ := List.mem_iff_getElem?.mp (bf_mem b h)
  have h1 := bf_ix b i hi
  have h2 := (List.getElem?_eq_some_iff.mp hi).1
  have h3 := b.len
  have h4 := b.rg _ (List.mem_of_getElem? b.hd)
  simp only at h4
  omega
theorem after_first {α S ρ τ : Type} {G : Option τ → Prop} {f : S → α → Option (Flow S ρ)} {s : S} {k : S → Option τ} {d : ρ → Option τ} (P : α → Prop) : ∀ {all : List α}, (∀ x ∈ all, (¬ P x ∧ f s x = some (.nx s)) ∨ (P x ∧ ∃ s', f s x = some (.bk s') ∧ G (k s'))) → (∃ x ∈ all, P x) → G (after (loopM f all s) k d)
  | [], _, ⟨x, hx, _⟩ => by cases hx
  | y :: ys, h, he => by
    rcases h y (by simp) with ⟨h1, h2⟩ | ⟨h1, s', h2, h3⟩
    · have := after_first (d := d) P (all := ys) (fun x hx => h x (by simp [hx])) (by
        obtain ⟨x, hx, hp⟩ := he
        rcases List.mem_cons.mp hx with rfl | hx
        · exact absurd hp h1
        · exact ⟨x, hx, hp⟩)
      simp only [loopM]
      rw [h2]
      exact this
    · simp only [loopM]
      rw [h2]
      exact h3
theorem dput_keys {κ β : Type} [DecidableEq κ] (kvs : List (κ × β)) (k : κ) (v : β) : (dput kvs k v).map (·.1) = if k ∈ kvs.map (·.1) then kvs.map (·.1) else kvs.map (·.1) ++ [k] := by
  unfold dput
  by_cases h : (kvs.any fun x => decide (x.1 = k)) = true
  · rw [if_pos h, List.map_map, if_pos]
    · refine List.map_congr_left fun x _ => ?_
      show (if x.1 = k then (x.1, v) else x).1 = x.1
      split <;> rfl
    · obtain ⟨x, hx, e⟩ := List.any_eq_true.mp h
      exact List.mem_map.mpr ⟨x, hx, by simpa using e⟩
  · rw [if_neg h, List.map_append, if_neg]
    · rfl
    · intro z
      obtain ⟨x, hx, e⟩ := List.mem_map.mp z
      exact h (List.any_eq_true.mpr ⟨x, hx, by simpa using e⟩)
theorem nodup_range {n : Int} {xs : List Int} (nd : xs.Nodup) (rg : ∀ x ∈ xs, 0 ≤ x ∧ x < n) : xs.length ≤ n.toNat := by
  have := nd.length_le_of_subset (l₂ := upto n.toNat 0 1) fun x hx => by
    obtain ⟨h1, h2⟩ := rg x hx
    unfold upto
    exact List.mem_map.mpr ⟨x.toNat, List.mem_range.mpr (by omega), by omega⟩
  rw [upto_len] at this
  exact this
/-- a shortest way from a to b along ts, or none where there is no way -/
def Sw (ts : List PP) (a b : Int) (d : Option Int) : Option (List Int) → Prop
  | none => d = none
  | some w => ∃ k : Int, d = some k ∧ 0 ≤ k ∧ (w.length : Int) = k + 1 ∧ w.length ≤ 201 ∧ w.head? = some a ∧ w.getLast? = some b ∧ ∀ (i : Nat) x y, w[i]? = some x → w[i + 1]? = some y → Nb ts x y
theorem nb_rg {ts : List PP} {n : Int} (ht : ∀ t ∈ ts, TieOk n t) {x y : Int} (h : Nb ts x y) : 0 ≤ x ∧ x < n ∧ 0 ≤ y ∧ y < n := by
  rcases h with h | h
  · obtain ⟨t1, t2, t3⟩ := ht _ h
    simp only at t1 t2 t3
    omega
  · obtain ⟨t1, t2, t3⟩ := ht _ h
    simp only at t1 t2 t3
    omega
theorem shortest_s {n a b : Int} {ts : List PP} (h0 : 1 ≤ n) (h1 : n ≤ 200) (hl : ts.length ≤ 60) (ht : ∀ t ∈ ts, TieOk n t) (a0 : 0 ≤ a) (a1 : a < n) (b0 : 0 ≤ b) (b1 : b < n) :
    ∃ far r, BF (Nb ts) b n far far.length ∧ u_shortest (n, ts, a, b, ()) = some r ∧ Sw ts a b (dget far a) r := by
  obtain ⟨near, far, e1, e2, bf, hn, hr⟩ := far_r h0 h1 hl ht b0 b1
  refine ⟨far, ?_⟩
  show ∃ r, _ ∧ m_shortest n ts a b = some r ∧ _
  unfold m_shortest
  simp only [oarg_s, bind_s, e1, e2, odnin_s, oite_s, ocons_s]
  cases ha : dget far a with
  | none => exact ⟨none, bf, rfl, rfl⟩
  | some d =>
    simp only [Option.isSome_some, Bool.not_true, Bool.false_eq_true, if_false]
    have hd0 := bf_nn bf ha
    have hd1 := bf_lt bf ha
    suffices h : ∃ r, after (whileM _ _ fuel [a]) (fun s4 : List Int => some (some s4)) (fun r => some r) = some r ∧ Sw ts a b (some d) r by
      obtain ⟨r, q1, q2⟩ := h
      exact ⟨r, bf, q1, q2⟩
    refine while_fuel (G := fun o => ∃ r : Option (List Int), o = some r ∧ Sw ts a b (some d) r)
      (fun w => ∃ x dx, w.head? = some a ∧ w.getLast? = some x ∧ dget far x = some dx ∧ (w.length : Int) + dx = d + 1 ∧ ∀ (i : Nat) x y, w[i]? = some x → w[i + 1]? = some y → Nb ts x y)
      (fun w => (d + 1 - w.length).toNat) ⟨a, d, rfl, rfl, ha, by simp only [List.length_singleton]; omega, fun i x y _ h => by simp at h⟩ (by simp only [List.length_singleton]; omega) ?_
    rintro w ⟨x, dx, w1, w2, w3, w4, w5⟩
    have hdx := bf_nn bf w3
    have hw : 0 < w.length := by
      cases w with
      | nil => cases w1
      | cons _ _ => simp
    have hlast : oix (some w) (some (-1)) = some x := by
      rw [oix_s, atI_last w hw]
      rw [List.getLast?_eq_getElem?] at w2
      rw [List.getElem?_eq_getElem (by omega)] at w2
      exact w2
    simp only [oneg_s, hlast, one_s]
    by_cases hx : x = b
    · refine .inl ⟨by rw [decide_eq_true hx]; rfl, some w, rfl, d, rfl, hd0, ?_, by omega, w1, hx ▸ w2, w5⟩
      subst hx
      rw [bf_root bf] at w3
      cases w3
      omega
    · refine .inr ⟨by rw [decide_eq_false hx]; rfl, .inl ?_⟩
      have hxm := bf_mem bf w3
      obtain ⟨x0, x1⟩ := bf.rg _ hxm
      simp only at x0 x1
      have e3 : oix (some near) (some x) = some (near[x.toNat]'(by omega)) := by rw [oix_s, atI_of x0 (by omega)]
      rw [e3]
      have hrow := hr x.toNat _ (List.getElem?_eq_getElem (by omega))
      rw [show ((x.toNat : Nat) : Int) = x by omega] at hrow
      generalize near[x.toNat]'(by omega) = row at *
      simp only [bind_s]
      refine after_first (G := fun o => ∃ s' : List Int, o = some (Flow.nx s') ∧ (∃ x dx, s'.head? = some a ∧ s'.getLast? = some x ∧ dget far x = some dx ∧ (s'.length : Int) + dx = d + 1 ∧ ∀ (i : Nat) x y, s'[i]? = some x → s'[i + 1]? = some y → Nb ts x y) ∧ (d + 1 - s'.length).toNat < (d + 1 - w.length).toNat)
        (fun y => ∃ dy, dget far y = some dy ∧ dy < dx) (fun y hy => ?_) ?_
      · have ry := (hrow y).mp hy
        obtain ⟨dy, q1, q2⟩ := bf_edge bf ry w3
        obtain ⟨dx', q3, q4⟩ := bf_edge bf (nb_symm _ _ ry) q1
        rw [w3] at q3
        cases q3
        have hdy := bf_nn bf q1
        simp only [odget_s, q1, hlast, w3, olt_s, oite_s]
        by_cases c : dy < dx
        · refine .inr ⟨⟨dy, rfl, c⟩, ?_⟩
          rw [decide_eq_true c, if_pos rfl]
          rw [oapp_s (by omega)]
          simp only [bind_s]
          refine ⟨_, rfl, _, rfl, ⟨y, dy, ?_, by simp, q1, by rw [List.length_append, List.length_singleton]; omega, fun i u v hu hv => ?_⟩, by rw [List.length_append, List.length_singleton]; omega⟩
          · cases w with
            | nil => cases w1
            | cons _ _ => exact w1
          · by_cases hi : i + 1 < w.length
            · rw [List.getElem?_append_left (by omega)] at hu
              rw [List.getElem?_append_left hi] at hv
              exact w5 i u v hu hv
            · have hvl := (List.getElem?_eq_some_iff.mp hv).1
              rw [List.length_append, List.length_singleton] at hvl
              have hiw : i + 1 = w.length := by omega
              rw [List.getElem?_append_left (by omega)] at hu
              rw [List.getElem?_append_right (by omega), hiw, Nat.sub_self] at hv
              cases hv
              rw [List.getLast?_eq_getElem?] at w2
              rw [show w.length - 1 = i by omega, hu] at w2
              cases w2
              exact ry
        · refine .inl ⟨?_, by rw [decide_eq_false c]; rfl⟩
          rintro ⟨dy', z1, z2⟩
          have := Option.some.inj z1
          omega
      · obtain ⟨p1, y, p2, p3⟩ := bf.pr _ hxm hx
        exact ⟨y, (hrow y).mpr p3, _, dgetI_mem bf.nd p2, by simp only; omega⟩
theorem farL_s {n a b : Int} {ts : List PP} {far : List (Int × Int)} (h0 : 1 ≤ n) (h1 : n ≤ 200) (hl : ts.length ≤ 60) (ht : ∀ t ∈ ts, TieOk n t) (a0 : 0 ≤ a) (a1 : a < n) (bf : BF (Nb ts) b n far far.length) :
    u_far (ts, a, b, ()) = some (dget far a) := by
  show m_far ts a b = _
  unfold m_far
  have e : olc (some ts) (fun (x4 : (Int × Int)) => (some true)) (fun (x4 : (Int × Int)) => (otup2 (some x4.2) (some x4.1))) = some (ts.map fun x => (x.2, x.1)) := olc_all (by omega) fun x _ => ⟨rfl, by simp only [otup2_s]⟩
  show Option.bind (some (0 : Int)) (fun farhere1 => Option.bind (some [(a, true)]) _) = _
  simp only [bind_s]
  have hmem : ∀ x y, Nb ts x y ↔ (x, y) ∈ ts ++ ts.map (fun x => (x.2, x.1)) := fun x y => by
    rw [List.mem_append]
    constructor
    · rintro (h | h)
      · exact .inl h
      · exact .inr (List.mem_map.mpr ⟨(y, x), h, rfl⟩)
    · rintro (h | h)
      · exact .inl h
      · obtain ⟨⟨u, v⟩, h1, h2⟩ := List.mem_map.mp h
        simp only [Prod.mk.injEq] at h2
        obtain ⟨rfl, rfl⟩ := h2
        exact .inr h1
  refine while_fuel (G := fun o => o = some (dget far a))
    (fun s => ∃ j : Nat, s.1 = (j : Int) ∧ (s.2.map (·.1)).Nodup ∧ (∀ x ∈ s.2.map (·.1), 0 ≤ x ∧ x < n) ∧ (∀ v, v ∈ s.2.map (·.1) ↔ ∃ i, i ≤ j ∧ Wk (Nb ts) i a v) ∧ ∀ i < j, ¬ Wk (Nb ts) i a b)
    (fun s => n.toNat + 1 - s.2.length) ⟨0, rfl, by simp, fun x hx => by simp at hx; omega, fun v => ?_, fun i hi => absurd hi (Nat.not_lt_zero _)⟩ (by simp only [List.length_singleton]; omega) ?_
  · simp only [List.map_cons, List.map_nil, List.mem_singleton]
    constructor
    · rintro rfl; exact ⟨0, Nat.le_refl _, .z _⟩
    · rintro ⟨i, hi, w⟩
      have : i = 0 := by omega
      subst this
      cases w
      rfl
  · rintro ⟨jj, known⟩ ⟨j, hj, nd, rg, hk, hb⟩
    simp only at hj nd rg hk
    subst hj
    have hlen := nodup_range nd rg
    rw [List.length_map] at hlen
    simp only [odnin_s]
    by_cases hbk : b ∈ known.map (·.1)
    · refine .inl ⟨by rw [dgetI_iff.mpr hbk]; rfl, ?_⟩
      show some (some (j : Int)) = _
      obtain ⟨i, hi, w⟩ := (hk b).mp hbk
      obtain ⟨d, q1, q2⟩ := bf_up bf (w.rev nb_symm) (bf_root bf)
      have hd0 := bf_nn bf q1
      rw [q1]
      have w2 := bf_wk bf d.toNat (by omega) q1
      have : ¬ d.toNat < j := fun c => hb _ c w2
      congr 2
      omega
    · have hbn : (dget known b).isSome = false := by
        cases z : (dget known b).isSome with
        | false => rfl
        | true => exact absurd (dgetI_iff.mp z) hbk
      refine .inr ⟨by rw [hbn]; rfl, ?_⟩
      rw [e, ocat_s (by rw [List.length_map]; omega)]
      have e2 : olc (some (ts ++ ts.map fun x => (x.2, x.1))) (fun (x5 : (Int × Int)) => (oand (odin (some x5.1) known) (some !(dget known x5.2).isSome))) (fun (x5 : (Int × Int)) => (some x5.2)) = some (((ts ++ ts.map fun x => (x.2, x.1)).filter fun x => (dget known x.1).isSome && !(dget known x.2).isSome).map fun x => x.2) :=
        olc_filter (by rw [List.length_append, List.length_map]; omega) fun x _ => ⟨by simp only [odin_s, odnin_s, oand_s], fun _ => rfl⟩
      rw [e2]
      have hm : ∀ y, y ∈ (((ts ++ ts.map fun x => (x.2, x.1)).filter fun x => (dget known x.1).isSome && !(dget known x.2).isSome).map fun x => x.2) ↔ y ∉ known.map (·.1) ∧ ∃ x, x ∈ known.map (·.1) ∧ Nb ts x y := fun y => by
        rw [List.mem_map]
        constructor
        · rintro ⟨⟨x, y'⟩, hx, rfl⟩
          rw [List.mem_filter] at hx
          simp only [Bool.and_eq_true, Bool.not_eq_true'] at hx
          exact ⟨fun z => by rw [dgetI_iff.mpr z] at hx; exact absurd hx.2.2 (by decide), x, dgetI_iff.mp hx.2.1, (hmem _ _).mpr hx.1⟩
        · rintro ⟨h1, x, h2, h3⟩
          refine ⟨(x, y), List.mem_filter.mpr ⟨(hmem _ _).mp h3, ?_⟩, rfl⟩
          simp only [Bool.and_eq_true, Bool.not_eq_true']
          refine ⟨dgetI_iff.mpr h2, ?_⟩
          cases z : (dget known y).isSome with
          | false => rfl
          | true => exact absurd (dgetI_iff.mp z) h1
      generalize ((ts ++ ts.map fun x => (x.2, x.1)).filter fun x => (dget known x.1).isSome && !(dget known x.2).isSome).map (fun x => x.2) = more at *
      simp only [bind_s, oeqd_s, eqv_em, oite_s]
      by_cases hmo : more = []
      · subst hmo
        refine .inr (.inr ⟨_, by rw [if_pos (by simp), map_s], ?_⟩)
        show some (none : Option Int) = _
        cases hd : dget far a with
        | none => rfl
        | some d =>
          exfalso
          have hd0 := bf_nn bf hd
          have w := bf_wk bf d.toNat (by omega) hd
          have cl : ∀ {i : Nat} {x y : Int}, Wk (Nb ts) i x y → x ∈ known.map (·.1) → y ∈ known.map (·.1) := by
            intro i x y w
            induction w with
            | z x => exact id
            | s g _ ih =>
              intro hx
              refine ih ?_
              rename_i y' _ _
              by_cases hc : y' ∈ known.map (·.1)
              · exact hc
              · have := (hm y').mpr ⟨hc, _, hx, g⟩
                cases this
          exact hbk (cl w ((hk a).mpr ⟨0, Nat.zero_le _, .z _⟩))
      · refine .inl ?_
        rw [if_neg (by simpa using hmo)]
        refine after_by (G := fun o => ∃ s' : Int × List (Int × Bool), o = some (Flow.nx s') ∧ (∃ j : Nat, s'.1 = (j : Int) ∧ (s'.2.map (·.1)).Nodup ∧ (∀ x ∈ s'.2.map (·.1), 0 ≤ x ∧ x < n) ∧ (∀ v, v ∈ s'.2.map (·.1) ↔ ∃ i, i ≤ j ∧ Wk (Nb ts) i a v) ∧ ∀ i < j, ¬ Wk (Nb ts) i a b) ∧ n.toNat + 1 - s'.2.length < n.toNat + 1 - known.length)
          (fun pre (s : List (Int × Bool)) => (s.map (·.1)).Nodup ∧ (∀ x ∈ s.map (·.1), 0 ≤ x ∧ x < n) ∧ (∀ v, v ∈ s.map (·.1) ↔ v ∈ known.map (·.1) ∨ v ∈ pre) ∧ known.length ≤ s.length ∧ (pre ≠ [] → known.length < s.length)) ⟨nd, rg, fun v => by simp, Nat.le_refl _, fun h => absurd rfl h⟩ ?_ ?_
        · rintro pre y post s hx ⟨i1, i2, i3, i4, i5⟩
          have hym := (hm y).mp (by rw [hx]; simp)
          obtain ⟨hy1, x, hy2, hy3⟩ := hym
          have hyr := nb_rg ht hy3
          have hsl := nodup_range i1 i2
          rw [List.length_map] at hsl
          show ∃ s', Option.bind (odput s y true) _ = some (Flow.nx s') ∧ _
          rw [odput_s (by omega)]
          simp only [bind_s]
          have hkey := dput_keys s y true
          have hll : (dput s y true).length = ((dput s y true).map (·.1)).length := by rw [List.length_map]
          refine ⟨_, rfl, ?_, ?_, fun v => ?_, ?_, fun _ => ?_⟩
          · rw [hkey]
            split
            · exact i1
            · rename_i hny
              exact List.nodup_append.mpr ⟨i1, by simp, fun u hu v hv e => hny (by simp at hv; rw [← hv, ← e]; exact hu)⟩
          · rw [hkey]
            intro u hu
            split at hu
            · exact i2 u hu
            · rcases List.mem_append.mp hu with hu | hu
              · exact i2 u hu
              · rw [List.mem_singleton] at hu; subst hu; omega
          · rw [hkey]
            split
            · rename_i hin
              rw [i3, List.mem_append, List.mem_singleton]
              constructor
              · rintro (z | z)
                · exact .inl z
                · exact .inr (.inl z)
              · rintro (z | z | rfl)
                · exact .inl z
                · exact .inr z
                · exact (i3 _).mp hin
            · rw [List.mem_append, List.mem_append, List.mem_singleton, i3]
              exact or_assoc
          · rw [hll, hkey]
            split
            · rw [List.length_map]; exact i4
            · rw [List.length_append, List.length_map]; omega
          · rw [hll, hkey]
            split
            · rename_i hin
              rw [List.length_map]
              refine i5 fun z => ?_
              subst z
              rcases (i3 y).mp hin with q | q
              · exact hy1 q
              · cases q
            · rw [List.length_append, List.length_map, List.length_singleton]; omega
        · rintro s ⟨i1, i2, i3, i4, i5⟩
          simp only [map_s, bind_s]
          have hsl := nodup_range i1 i2
          rw [List.length_map] at hsl
          refine ⟨_, rfl, ⟨j + 1, by simp, i1, i2, fun v => ?_, fun i hi w => ?_⟩, ?_⟩
          · rw [i3, hm, hk]
            constructor
            · rintro (⟨i, hi, w⟩ | ⟨_, x, hx, g⟩)
              · exact ⟨i, by omega, w⟩
              · obtain ⟨i, hi, w⟩ := (hk x).mp hx
                exact ⟨i + 1, by omega, w.snoc g⟩
            · rintro ⟨i, hi, w⟩
              by_cases hv : v ∈ known.map (·.1)
              · exact .inl ((hk v).mp hv)
              · cases i with
                | zero => exact absurd ((hk v).mpr ⟨0, Nat.zero_le _, w⟩) hv
                | succ i =>
                  obtain ⟨x, w1, g⟩ := w.last
                  refine .inr ⟨fun ⟨i', hi', w'⟩ => hv ((hk v).mpr ⟨i', hi', w'⟩), x, (hk x).mpr ⟨i, by omega, w1⟩, g⟩
          · exact hbk ((hk b).mpr ⟨i, by omega, w⟩)
          · have := i5 hmo
            simp only
            omega
theorem em_some {α : Type} [Em α] (x : α) : em (some x) = em x := (rfl)
theorem good_s {n a b : Int} {ts : List PP} {d : Option Int} {w : Option (List Int)} (ht : ∀ t ∈ ts, TieOk n t) (h : Sw ts a b d w) : u_good (w, ts, d, a, b, ()) = some true := by
  show m_good w ts d a b = _
  unfold m_good
  cases w with
  | none =>
    have h : d = none := h
    subst h
    rfl
  | some w =>
    obtain ⟨k, rfl, k0, hl, hl2, hh, hla, hc⟩ := h
    simp only [oisN_s, Option.isNone_some, oite_f, oisi_s, em_some, em_list, isi_list, onot_s, Bool.not_true, oor_f, bind_s, id_eq, olen_s, oadd_s, one_s, hl, decide_true]
    have e : olc (some w) (fun (x1 : Int) => (some true)) (fun (x1 : Int) => (Option.bind (oarg (some x1) (some ())) u_whole)) = some (w.map fun _ => true) := olc_all (by omega) fun x _ => ⟨rfl, by simp only [oarg_s, bind_s, whole_int]⟩
    rw [e]
    have ea : (w.map fun _ => true).all id = true := by simp
    simp only [oall_s, ea, onot_s, Bool.not_true, oite_f]
    rw [orange1_s (by omega)]
    simp only [bind_s]
    have hw : 0 < w.length := by omega
    refine after_all (G := fun o => o = some true) (fun x hx => ?_) ?_
    · obtain ⟨i, hi, rfl⟩ := mem_upto hx
      have e1 : (0 : Int) + (i : Int) * 1 = (i : Int) := by omega
      rw [e1]
      have e2 : (i : Int) + 1 = ((i + 1 : Nat) : Int) := by omega
      simp only [oadd_s, e2, oix_s]
      rw [atI_nat' (show i < w.length by omega), atI_nat' (show i + 1 < w.length by omega)]
      have nb := hc i _ _ (List.getElem?_eq_getElem (by omega)) (List.getElem?_eq_getElem (by omega))
      generalize w[i]'(by omega) = x at *
      generalize w[i + 1]'(by omega) = y at *
      simp only [omin2_s, omax2_s, otup2_s, onind_s]
      have hm : (min x y, max x y) ∈ ts := by
        rcases nb with z | z
        · obtain ⟨t1, t2, t3⟩ := ht _ z
          simp only at t2
          rw [Int.min_eq_left (by omega), Int.max_eq_right (by omega)]
          exact z
        · obtain ⟨t1, t2, t3⟩ := ht _ z
          simp only at t2
          rw [Int.min_eq_right (by omega), Int.max_eq_left (by omega)]
          exact z
      have : (ts.any fun z => PyData.eqv (em z) (em (min x y, max x y))) = true := List.any_eq_true.mpr ⟨_, hm, by rw [eqv_em]; simp⟩
      rw [this]
      rfl
    · have e0 : atI w 0 = some (w[0]'hw) := atI_nat' (i := 0) hw
      rw [oneg_s, oix_s, oix_s, atI_last w hw, e0]
      rw [List.getLast?_eq_getElem?, List.getElem?_eq_getElem (by omega)] at hla
      rw [List.head?_eq_getElem?, List.getElem?_eq_getElem hw] at hh
      cases hla
      cases hh
      simp only [oeq_s, decide_true, oand_t]
theorem oned_same {α : Type} [Em α] [DecidableEq α] [Eqv α] (x : α) : oned (some x) (some x) = some false := by rw [oned_s, eqv_em]; simp
theorem law_holds : ∀ ns : List Int, ns.length ≤ 63 → u_law (ns, ()) = some true := by
  intro ns hl
  show m_law ns = _
  unfold m_law
  obtain ⟨c0, e0⟩ := cell_0 ns
  simp only [oarg_s, bind_s, e0]
  rw [ofdiv_s (a := c0) (b := 2) (by decide) (by decide)]
  simp only [oarg_s, bind_s]
  obtain ⟨n, en, n0, n1⟩ := count_s (c0 / 2)
  rw [en]
  simp only [oarg_s, bind_s]
  obtain ⟨ts, et, tl, tm⟩ := net_in ns n0 n1 hl
  rw [et]
  simp only [bind_s, olen_s]
  rw [ofdiv_s (by decide) (by decide)]
  simp only [map_s, ocut_s, bind_s]
  have hp3 : ∀ x ∈ cutG (cutG ts (some ((ts.length : Int) / 2)) none) none (some 1), x ∈ ts := fun x hx => by
    rw [show (ts.length : Int) / 2 = ((ts.length / 2 : Nat) : Int) by omega, cut_from, show (some (1 : Int)) = some ((1 : Nat) : Int) from rfl, cut_to] at hx
    exact List.mem_of_mem_drop (List.mem_of_mem_take hx)
  have hp4 := cutG_le (cutG ts (some ((ts.length : Int) / 2)) none) none (some 1)
  have hp5 := cutG_le ts (some ((ts.length : Int) / 2)) none
  generalize cutG (cutG ts (some ((ts.length : Int) / 2)) none) none (some 1) = ps at *
  rw [orange1_s (by decide)]
  simp only [bind_s]
  refine after_by (G := fun o => o = some true) (fun pre (s : List PP) => s.length ≤ 40 + pre.length ∧ ∀ x ∈ s, 0 ≤ x.1 ∧ x.1 < n ∧ 0 ≤ x.2 ∧ x.2 < n) ⟨by simp only [List.length_nil]; omega, fun x hx => by
    obtain ⟨t1, t2, t3⟩ := tm x (hp3 x hx)
    omega⟩ ?_ ?_
  · rintro pre x post s hx ⟨i1, i2⟩
    obtain ⟨hx1, hx2⟩ := upto_split hx
    have hx1 : x = (pre.length : Int) := by omega
    subst hx1
    have hx3 : pre.length < 4 := hx2
    simp only [oadd_s, oarg_s]
    rw [show (3 : Int) + (pre.length : Int) = ((3 + pre.length : Nat) : Int) by omega]
    obtain ⟨c, hc⟩ := cell_s ns (3 + pre.length)
    simp only [bind_s, hc]
    rw [ofdiv_s (a := c) (b := 5) (by decide) (by decide), omul_l (a := 3) (by decide), omul_l (a := 5) (by decide), omul_l (a := 2) (by decide), ofdiv_s (a := c) (b := 5 * n) (by omega) (by omega), omod_s (a := c) (b := 5) (by decide)]
    simp only [oadd_s, oeq_s]
    rw [omod_s (by omega), omod_s (by omega)]
    have a0 := Int.emod_nonneg (c / 5 + 3 * (pre.length : Int)) (b := n) (by omega)
    have a1 := Int.emod_lt_of_pos (c / 5 + 3 * (pre.length : Int)) (b := n) (by omega)
    have b0 := Int.emod_nonneg (c / (5 * n) + 2 * (pre.length : Int) + 1) (b := n) (by omega)
    have b1 := Int.emod_lt_of_pos (c / (5 * n) + 2 * (pre.length : Int) + 1) (b := n) (by omega)
    generalize (c / 5 + 3 * (pre.length : Int)) % n = a at *
    generalize (c / (5 * n) + 2 * (pre.length : Int) + 1) % n = b at *
    simp only [bind_s]
    have hs : ∃ z, oite (some (decide (c % 5 = 4))) (some a) (some b) = some z ∧ 0 ≤ z ∧ z < n := by
      rw [oite_s]
      split
      · exact ⟨_, rfl, a0, a1⟩
      · exact ⟨_, rfl, b0, b1⟩
    obtain ⟨z, ez, z0, z1⟩ := hs
    rw [ez]
    simp only [bind_s, otup2_s]
    rw [oapp_s (by omega)]
    simp only [bind_s]
    refine ⟨_, rfl, by rw [List.length_append, List.length_append, List.length_singleton, List.length_singleton]; omega, fun x hx => ?_⟩
    rcases List.mem_append.mp hx with hx | hx
    · exact i2 x hx
    · rw [List.mem_singleton] at hx
      subst hx
      exact ⟨a0, a1, z0, z1⟩
  · rintro s ⟨i1, i2⟩
    show after _ _ _ = _
    refine after_all (G := fun o => o = some true) (fun x hx => ?_) rfl
    obtain ⟨a, b⟩ := x
    obtain ⟨a0, a1, b0, b1⟩ := i2 _ hx
    simp only at a0 a1 b0 b1
    obtain ⟨far, w, bf, es, sw⟩ := shortest_s n0 n1 (by omega) tm a0 a1 b0 b1
    have ef := farL_s n0 n1 (show ts.length ≤ 60 by omega) tm a0 a1 bf
    have eg := good_s tm sw
    simp only [bind_s, oarg_s, es, ef, eg, onot_s, Bool.not_true, oite_f, onotN_s, oor_f, oned_same]
    cases w with
    | none => simp only [Option.isSome_none, oite_f, bind_s, oarg_s, es, eg, onot_s, Bool.not_true, oor_f, oned_same, oite_f]
    | some w =>
      obtain ⟨k, _, k0, hl, hl2, _⟩ := sw
      simp only [Option.isSome_some, oite_t, bind_s]
      rw [oapp_s (by omega)]
      obtain ⟨_, _, _, st⟩ := at_set (xs := w ++ [a]) (a := 0) (by decide) (by rw [List.length_append, List.length_singleton]; omega)
      simp only [map_s, bind_s, oneg_s, st, es, eg, oarg_s, onot_s, Bool.not_true, oor_f, oned_same, oite_f]
end Tw
namespace Tw
open PySem L2
theorem all_mk {K : PySem.W.Frag} {h : Heap} {mg : Str → Option Value} {f0 f1 f2 f3 f4 f5 f6 f7 f8 f9 f10 f11 : Addr} (X : K.In h) (G : h.Ns mainGlobals mg)
    {od0 an0 od1 an1 od2 an2 od3 an3 od4 an4 od5 an5 od6 an6 od7 an7 od8 an8 od9 an9 od10 an10 od11 an11 : Option Addr} {sl0 sl1 sl2 sl3 sl4 sl5 sl6 sl7 sl8 sl9 sl10 sl11 : Array (Option Value)} {oc0 kV0 dc0 pm0 cd0 ct0 oc1 kV1 dc1 pm1 cd1 ct1 oc2 kV2 dc2 pm2 cd2 ct2 oc3 kV3 dc3 pm3 cd3 ct3 oc4 kV4 dc4 pm4 cd4 ct4 oc5 kV5 dc5 pm5 cd5 ct5 oc6 kV6 dc6 pm6 cd6 ct6 oc7 kV7 dc7 pm7 cd7 ct7 oc8 kV8 dc8 pm8 cd8 ct8 oc9 kV9 dc9 pm9 cd9 ct9 oc10 kV10 dc10 pm10 cd10 ct10 oc11 kV11 dc11 pm11 cd11 ct11 : Value}
    (a0 : PySem.W.nsIn K mainGlobals "_law_count" = some (some (.ref f0))) (l0 : K.lookup f0 = some ⟨oc0, od0, .func (PySem.W.fnOf "_law_count" "_law_count" (defArgs s_count) (defBody s_count) (defScope s_count) .none kV0 dc0 pm0 an0 cd0 ct0), sl0⟩) (c0 : PySem.W.codeIn K cd0 "_law_count" = true) (k0 : PySem.W.keepIn K (.ref f0) = true)
    (a1 : PySem.W.nsIn K mainGlobals "_law_digits" = some (some (.ref f1))) (l1 : K.lookup f1 = some ⟨oc1, od1, .func (PySem.W.fnOf "_law_digits" "_law_digits" (defArgs s_digits) (defBody s_digits) (defScope s_digits) .none kV1 dc1 pm1 an1 cd1 ct1), sl1⟩) (c1 : PySem.W.codeIn K cd1 "_law_digits" = true) (k1 : PySem.W.keepIn K (.ref f1) = true)
    (a2 : PySem.W.nsIn K mainGlobals "_law_ties" = some (some (.ref f2))) (l2 : K.lookup f2 = some ⟨oc2, od2, .func (PySem.W.fnOf "_law_ties" "_law_ties" (defArgs s_ties) (defBody s_ties) (defScope s_ties) .none kV2 dc2 pm2 an2 cd2 ct2), sl2⟩) (c2 : PySem.W.codeIn K cd2 "_law_ties" = true) (k2 : PySem.W.keepIn K (.ref f2) = true)
    (a3 : PySem.W.nsIn K mainGlobals "_law_cell_at" = some (some (.ref f3))) (l3 : K.lookup f3 = some ⟨oc3, od3, .func (PySem.W.fnOf "_law_cell_at" "_law_cell_at" (defArgs s_cellat) (defBody s_cellat) (defScope s_cellat) .none kV3 dc3 pm3 an3 cd3 ct3), sl3⟩) (c3 : PySem.W.codeIn K cd3 "_law_cell_at" = true) (k3 : PySem.W.keepIn K (.ref f3) = true)
    (a4 : PySem.W.nsIn K mainGlobals "_law_net" = some (some (.ref f4))) (l4 : K.lookup f4 = some ⟨oc4, od4, .func (PySem.W.fnOf "_law_net" "_law_net" (defArgs s_net) (defBody s_net) (defScope s_net) .none kV4 dc4 pm4 an4 cd4 ct4), sl4⟩) (c4 : PySem.W.codeIn K cd4 "_law_net" = true) (k4 : PySem.W.keepIn K (.ref f4) = true)
    (a5 : PySem.W.nsIn K mainGlobals "neighbours" = some (some (.ref f5))) (l5 : K.lookup f5 = some ⟨oc5, od5, .func (PySem.W.fnOf "neighbours" "neighbours" (defArgs s_neighbours) (defBody s_neighbours) (defScope s_neighbours) .none kV5 dc5 pm5 an5 cd5 ct5), sl5⟩) (c5 : PySem.W.codeIn K cd5 "neighbours" = true) (k5 : PySem.W.keepIn K (.ref f5) = true)
    (a6 : PySem.W.nsIn K mainGlobals "reached" = some (some (.ref f6))) (l6 : K.lookup f6 = some ⟨oc6, od6, .func (PySem.W.fnOf "reached" "reached" (defArgs s_reached) (defBody s_reached) (defScope s_reached) .none kV6 dc6 pm6 an6 cd6 ct6), sl6⟩) (c6 : PySem.W.codeIn K cd6 "reached" = true) (k6 : PySem.W.keepIn K (.ref f6) = true)
    (a7 : PySem.W.nsIn K mainGlobals "shortest" = some (some (.ref f7))) (l7 : K.lookup f7 = some ⟨oc7, od7, .func (PySem.W.fnOf "shortest" "shortest" (defArgs s_shortest) (defBody s_shortest) (defScope s_shortest) .none kV7 dc7 pm7 an7 cd7 ct7), sl7⟩) (c7 : PySem.W.codeIn K cd7 "shortest" = true) (k7 : PySem.W.keepIn K (.ref f7) = true)
    (a8 : PySem.W.nsIn K mainGlobals "_law_far" = some (some (.ref f8))) (l8 : K.lookup f8 = some ⟨oc8, od8, .func (PySem.W.fnOf "_law_far" "_law_far" (defArgs s_far) (defBody s_far) (defScope s_far) .none kV8 dc8 pm8 an8 cd8 ct8), sl8⟩) (c8 : PySem.W.codeIn K cd8 "_law_far" = true) (k8 : PySem.W.keepIn K (.ref f8) = true)
    (a9 : PySem.W.nsIn K mainGlobals "_law_whole" = some (some (.ref f9))) (l9 : K.lookup f9 = some ⟨oc9, od9, .func (PySem.W.fnOf "_law_whole" "_law_whole" (defArgs s_whole) (defBody s_whole) (defScope s_whole) .none kV9 dc9 pm9 an9 cd9 ct9), sl9⟩) (c9 : PySem.W.codeIn K cd9 "_law_whole" = true) (k9 : PySem.W.keepIn K (.ref f9) = true)
    (a10 : PySem.W.nsIn K mainGlobals "_law_good" = some (some (.ref f10))) (l10 : K.lookup f10 = some ⟨oc10, od10, .func (PySem.W.fnOf "_law_good" "_law_good" (defArgs s_good) (defBody s_good) (defScope s_good) .none kV10 dc10 pm10 an10 cd10 ct10), sl10⟩) (c10 : PySem.W.codeIn K cd10 "_law_good" = true) (k10 : PySem.W.keepIn K (.ref f10) = true)
    (a11 : PySem.W.nsIn K mainGlobals "law" = some (some (.ref f11))) (l11 : K.lookup f11 = some ⟨oc11, od11, .func (PySem.W.fnOf "law" "law" (defArgs s_law) (defBody s_law) (defScope s_law) .none kV11 dc11 pm11 an11 cd11 ct11), sl11⟩) (c11 : PySem.W.codeIn K cd11 "law" = true) (k11 : PySem.W.keepIn K (.ref f11) = true)
    (z_all : PySem.W.nsIn K mainGlobals "all" = some none) (z_bool : PySem.W.nsIn K mainGlobals "bool" = some none) (z_int : PySem.W.nsIn K mainGlobals "int" = some none) (z_isinstance : PySem.W.nsIn K mainGlobals "isinstance" = some none) (z_len : PySem.W.nsIn K mainGlobals "len" = some none) (z_list : PySem.W.nsIn K mainGlobals "list" = some none) (z_max : PySem.W.nsIn K mainGlobals "max" = some none) (z_min : PySem.W.nsIn K mainGlobals "min" = some none) (z_range : PySem.W.nsIn K mainGlobals "range" = some none)  :
    ∃ T : Txt K mg, T.a_law = f11 ∧ ∀ (s : Shared) (v : Value), BindsTo s T.fd_law ⟨[v], []⟩ [("_law_script", v)] := by
  have F0 := fun_mk (st := s_count) l0 c0 k0
  have b0 := F0.binds (ps := P_count) fun _ _ _ _ _ _ us hl => match us, hl with | [_], _ => rfl
  have F1 := fun_mk (st := s_digits) l1 c1 k1
  have b1 := F1.binds (ps := P_digits) fun _ _ _ _ _ _ us hl => match us, hl with | [_, _, _], _ => rfl
  have F2 := fun_mk (st := s_ties) l2 c2 k2
  have b2 := F2.binds (ps := P_ties) fun _ _ _ _ _ _ us hl => match us, hl with | [_, _, _], _ => rfl
  have F3 := fun_mk (st := s_cellat) l3 c3 k3
  have b3 := F3.binds (ps := P_cellat) fun _ _ _ _ _ _ us hl => match us, hl with | [_, _], _ => rfl
  have F4 := fun_mk (st := s_net) l4 c4 k4
  have b4 := F4.binds (ps := P_net) fun _ _ _ _ _ _ us hl => match us, hl with | [_, _], _ => rfl
  have F5 := fun_mk (st := s_neighbours) l5 c5 k5
  have b5 := F5.binds (ps := P_neighbours) fun _ _ _ _ _ _ us hl => match us, hl with | [_, _], _ => rfl
  have F6 := fun_mk (st := s_reached) l6 c6 k6
  have b6 := F6.binds (ps := P_reached) fun _ _ _ _ _ _ us hl => match us, hl with | [_, _], _ => rfl
  have F7 := fun_mk (st := s_shortest) l7 c7 k7
  have b7 := F7.binds (ps := P_shortest) fun _ _ _ _ _ _ us hl => match us, hl with | [_, _, _, _], _ => rfl
  have F8 := fun_mk (st := s_far) l8 c8 k8
  have b8 := F8.binds (ps := P_far) fun _ _ _ _ _ _ us hl => match us, hl with | [_, _, _], _ => rfl
  have F9 := fun_mk (st := s_whole) l9 c9 k9
  have b9 := F9.binds (ps := P_whole) fun _ _ _ _ _ _ us hl => match us, hl with | [_], _ => rfl
  have F10 := fun_mk (st := s_good) l10 c10 k10
  have b10 := F10.binds (ps := P_good) fun _ _ _ _ _ _ us hl => match us, hl with | [_, _, _, _, _], _ => rfl
  have F11 := fun_mk (st := s_law) l11 c11 k11
  have b11 := F11.binds (ps := P_law) fun _ _ _ _ _ _ us hl => match us, hl with | [_], _ => rfl
  exact ⟨{ a_count := f0, fd_count := _, F_count := F0, m_count := PySem.W.mg_of X G a0, b_count := b0, a_digits := f1, fd_digits := _, F_digits := F1, m_digits := PySem.W.mg_of X G a1, b_digits := b1, a_ties := f2, fd_ties := _, F_ties := F2, m_ties := PySem.W.mg_of X G a2, b_ties := b2, a_cellat := f3, fd_cellat := _, F_cellat := F3, m_cellat := PySem.W.mg_of X G a3, b_cellat := b3, a_net := f4, fd_net := _, F_net := F4, m_net := PySem.W.mg_of X G a4, b_net := b4, a_neighbours := f5, fd_neighbours := _, F_neighbours := F5, m_neighbours := PySem.W.mg_of X G a5, b_neighbours := b5, a_reached := f6, fd_reached := _, F_reached := F6, m_reached := PySem.W.mg_of X G a6, b_reached := b6, a_shortest := f7, fd_shortest := _, F_shortest := F7, m_shortest := PySem.W.mg_of X G a7, b_shortest := b7, a_far := f8, fd_far := _, F_far := F8, m_far := PySem.W.mg_of X G a8, b_far := b8, a_whole := f9, fd_whole := _, F_whole := F9, m_whole := PySem.W.mg_of X G a9, b_whole := b9, a_good := f10, fd_good := _, F_good := F10, m_good := PySem.W.mg_of X G a10, b_good := b10, a_law := f11, fd_law := _, F_law := F11, m_law := PySem.W.mg_of X G a11, b_law := b11, n_all := PySem.W.mg_none_of X G z_all, n_bool := PySem.W.mg_none_of X G z_bool, n_int := PySem.W.mg_none_of X G z_int, n_isinstance := PySem.W.mg_none_of X G z_isinstance, n_len := PySem.W.mg_none_of X G z_len, n_list := PySem.W.mg_none_of X G z_list, n_max := PySem.W.mg_none_of X G z_max, n_min := PySem.W.mg_none_of X G z_min, n_range := PySem.W.mg_none_of X G z_range }, rfl, fun s v => .of_eq rfl⟩
end Tw
open PySem PySem.W PyProof.Rows
set_option maxRecDepth 100000 in
set_option maxHeartbeats 0 in
theorem PySem.Challenge.cw_tiewood_k05_a_shortest_way_holds : PySem.Challenge.rw_tiewood_k05_a_shortest_way.Holds := by
  w_on; o_law; k_head; (case hw => w_witness2)
  k_fill
  refine Tw.law_end (l := PySem.Challenge.rw_tiewood_k05_a_shortest_way) (lv := 3) (x := "_law_script") (A := Tw.A_law) (g := Tw.u_law) rfl rfl ⟨rfl, by decide, by decide⟩ (fun w h Y => PySem.W.kIn_of Y) (fun _ => rfl) ?F Tw.law_holds
  case F =>
    intro w mg fa h KX G hmg
    refine' Exists.elim (Tw.all_mk KX G ?a0 ?l0 ?c0 ?k0 ?a1 ?l1 ?c1 ?k1 ?a2 ?l2 ?c2 ?k2 ?a3 ?l3 ?c3 ?k3 ?a4 ?l4 ?c4 ?k4 ?a5 ?l5 ?c5 ?k5 ?a6 ?l6 ?c6 ?k6 ?a7 ?l7 ?c7 ?k7 ?a8 ?l8 ?c8 ?k8 ?a9 ?l9 ?c9 ?k9 ?a10 ?l10 ?c10 ?k10 ?a11 ?l11 ?c11 ?k11 ?z_all ?z_bool ?z_int ?z_isinstance ?z_len ?z_list ?z_max ?z_min ?z_range) ?fin
    (case a0 => k_is)
    (case l0 => k_is)
    (case c0 => k_is)
    (case k0 => k_is)
    (case a1 => k_is)
    (case l1 => k_is)
    (case c1 => k_is)
    (case k1 => k_is)
    (case a2 => k_is)
    (case l2 => k_is)
    (case c2 => k_is)
    (case k2 => k_is)
    (case a3 => k_is)
    (case l3 => k_is)
    (case c3 => k_is)
    (case k3 => k_is)
    (case a4 => k_is)
    (case l4 => k_is)
    (case c4 => k_is)
    (case k4 => k_is)
    (case a5 => k_is)
    (case l5 => k_is)
    (case c5 => k_is)
    (case k5 => k_is)
    (case a6 => k_is)
    (case l6 => k_is)
    (case c6 => k_is)
    (case k6 => k_is)
    (case a7 => k_is)
    (case l7 => k_is)
    (case c7 => k_is)
    (case k7 => k_is)
    (case a8 => k_is)
    (case l8 => k_is)
    (case c8 => k_is)
    (case k8 => k_is)
    (case a9 => k_is)
    (case l9 => k_is)
    (case c9 => k_is)
    (case k9 => k_is)
    (case a10 => k_is)
    (case l10 => k_is)
    (case c10 => k_is)
    (case k10 => k_is)
    (case a11 => k_is)
    (case l11 => k_is)
    (case c11 => k_is)
    (case k11 => k_is)
    (case z_all => k_is)
    (case z_bool => k_is)
    (case z_int => k_is)
    (case z_isinstance => k_is)
    (case z_len => k_is)
    (case z_list => k_is)
    (case z_max => k_is)
    (case z_min => k_is)
    (case z_range => k_is)
    case fin =>
      rintro T ⟨ha, hb⟩
      have e := hmg.symm.trans T.m_law
      cases e
      exact ⟨T.fd_law, hb, fun base _ _ => Tw.ok_law T⟩
