import PyProof.Rows.All
import Wide.All
import OpenK.AllK
import Wide.FinOn
import HandS.ForMost
import HandS.Deep
import HandS.DictTup
import KE.KDictKeyed
import HandS.Exc
import HandS.Wide
import HandS.TupAny
import HandS.TupMul
import HandS.IsInst
import HandS.Style
import HandS.Zip
import HandS.ExcOwn
import HandS.TryOnly
import HandS.WideMore
import HandS.Sort
import HandS.HeadHook3
import KE.SortData
import KE.DataAny
import KE.KTupSum
import KE.KExcSuper
import KE.KSuper
import HandS.ExcField
import KE.KExcIs
import KE.KIsAll
import HandS.ExcIs
import KE.GoesMore
import HandS.SetFor
import HandS.Strs
import KE.KDictSum
import KE.KDictCopyH
import KE.KDictDisplayH
import KE.KDictList
import KE.KRevSl
import PyProof.P3In
import KE.GoesEnum
import HandS.Ends
import PyProof.Rows.RegFStrParts
import PySem.Challenge.RW_ownback_k23_whole_steps_that_nobody_sees
set_option Elab.async false
set_option linter.all false
set_option maxRecDepth 100000
/-! Dicts whose keys are tuples of numbers, None and such tuples; their values are data. -/
namespace L2
open PySem PySem.Spec PyProof.Rows
mutual
/-- the key that a piece of data is -/
def nk : PyData → Option NestedKey
  | .none => some .none
  | .int i => some (.num i)
  | .tuple ds => (nkAll ds).map .tup
  | _ => none
def nkAll : List PyData → Option (List NestedKey)
  | [] => some []
  | d :: ds => (nk d).bind fun k => (nkAll ds).map (k :: ·)
end
/-- .. that a dict of ours takes -/
def keyOfD : PyData → Option NestedKey
  | .tuple ds => (nkAll ds).bind fun ks => if NestedKey.depthAll ks + 1 ≤ 8 then some (.tup ks) else none
  | _ => none
mutual
def noTx : NestedKey → Bool
  | .text _ => false
  | .tup ks => noTxAll ks
  | _ => true
def noTxAll : List NestedKey → Bool
  | [] => true
  | k :: ks => noTx k && noTxAll ks
end
mutual
/-- the hash of a key without texts -/
def hash0 : NestedKey → Int
  | .none => reduceHash 0xFCA86420
  | .num i => hashInt i
  | .text x => 0
  | .tup ks => reduceHash (Builtin.Tuple.tupleHashOf (hashes0 ks))
def hashes0 : List NestedKey → List Int
  | [] => []
  | k :: ks => hash0 k :: hashes0 ks
end
mutual
theorem hash0_eq (w : World) : ∀ k, noTx k = true → NestedKey.hash w k = hash0 k
  | .none, _ => by simp only [NestedKey.hash, hash0]
  | .num i, _ => by simp only [NestedKey.hash, hash0]
  | .text x, h => by simp [noTx] at h
  | .tup ks, h => by
    simp only [noTx] at h
    simp only [NestedKey.hash, hash0, hashes0_eq w ks h]
theorem hashes0_eq (w : World) : ∀ ks, noTxAll ks = true → NestedKey.hashes w ks = hashes0 ks
  | [], _ => by simp only [NestedKey.hashes, hashes0]
  | k :: ks, h => by
    simp only [noTxAll, Bool.and_eq_true] at h
    simp only [NestedKey.hashes, hashes0, hash0_eq w k h.1, hashes0_eq w ks h.2]
end
mutual
theorem nk_tx : ∀ (d : PyData) (k : NestedKey), nk d = some k → noTx k = true ∧ k.data = d
  | .none, k, h => by simp only [nk, Option.some.injEq] at h; subst h; exact ⟨rfl, by simp only [NestedKey.data]⟩
  | .int i, k, h => by simp only [nk, Option.some.injEq] at h; subst h; exact ⟨rfl, by simp only [NestedKey.data]⟩
  | .tuple ds, k, h => by
    simp only [nk, Option.map_eq_some_iff] at h
    obtain ⟨ks, h, rfl⟩ := h
    obtain ⟨h1, h2⟩ := nkAll_tx ds ks h
    exact ⟨by simp only [noTx, h1], by simp only [NestedKey.data, h2]⟩
  | .bool b, k, h => by simp [nk] at h
  | .str b, k, h => by simp [nk] at h
  | .list b, k, h => by simp [nk] at h
  | .dict b, k, h => by simp [nk] at h
theorem nkAll_tx : ∀ (ds : List PyData) (ks : List NestedKey), nkAll ds = some ks → noTxAll ks = true ∧ NestedKey.datas ks = ds
  | [], ks, h => by simp only [nkAll, Option.some.injEq] at h; subst h; exact ⟨rfl, by simp only [NestedKey.datas]⟩
  | d :: ds, ks, h => by
    simp only [nkAll, Option.bind_eq_some_iff, Option.map_eq_some_iff] at h
    obtain ⟨k, h1, ks', h2, rfl⟩ := h
    obtain ⟨a1, a2⟩ := nk_tx d k h1
    obtain ⟨b1, b2⟩ := nkAll_tx ds ks' h2
    exact ⟨by simp only [noTxAll, a1, b1, Bool.and_self], by simp only [NestedKey.datas, a2, b2]⟩
end
theorem keyOfD_some {d : PyData} {k : NestedKey} (h : keyOfD d = some k) : nk d = some k ∧ k.depth ≤ 8 ∧ noTx k = true ∧ k.data = d ∧ ∃ ks, k = .tup ks := by
  cases d with
  | tuple ds =>
    simp only [keyOfD, Option.bind_eq_some_iff] at h
    obtain ⟨ks, h1, h2⟩ := h
    split at h2
    · rename_i hd
      cases h2
      have hn : nk (.tuple ds) = some (.tup ks) := by simp only [nk, h1, Option.map_some]
      exact ⟨hn, by simp only [NestedKey.depth]; exact hd, (nk_tx _ _ hn).1, (nk_tx _ _ hn).2, ks, rfl⟩
    · cases h2
  | _ => simp [keyOfD] at h
/-- what stands at a key; what stands behind a store -/
def valN (kvs : List (NestedKey × PyData)) (k : NestedKey) : Option PyData := (kvs.find? fun kv => decide (kv.1 = k)).map (·.2)
def putN (kvs : List (NestedKey × PyData)) (k : NestedKey) (d : PyData) : List (NestedKey × PyData) :=
  if (valN kvs k).isSome then kvs.map (fun kv => if kv.1 = k then (kv.1, d) else kv) else kvs ++ [(k, d)]
/-- the dict's object, by its entries -/
def DicPhi (a : Addr) (es : List (NestedKey × Addr × Value)) : Heap → Prop := fun h => ∃ o ens ep, h.get? a = some o ∧ o.ExactDict ∧ o.data = .dict ens ep ∧ ens.toList = es.map fun x => ⟨hash0 x.1, .ref x.2.1, x.2.2⟩
/-- an entry: its key, its value -/
def DicE (K : PySem.W.Frag) (H : Hp) (q : NestedKey × Addr × Value) (p : NestedKey × PyData) : Prop :=
  q.1 = p.1 ∧ nk q.1.data = some q.1 ∧ noTx q.1 = true ∧ q.1.depth ≤ 8 ∧ Dp K H (.ref q.2.1) q.1.data ∧ ∃ v, RelV v q.2.2 ∧ Dp K H v p.2
abbrev DicAt (K : PySem.W.Frag) (H : Hp) (es : List (NestedKey × Addr × Value)) (kvs : List (NestedKey × PyData)) : Prop := Paired (DicE K H) es kvs
theorem DicAt.keys {K : PySem.W.Frag} {H : Hp} {es : List (NestedKey × Addr × Value)} {kvs : List (NestedKey × PyData)} (h : DicAt K H es kvs) : es.map (·.1) = kvs.map (·.1) := by
  induction h with
  | nil => rfl
  | cons h t ih => rw [List.map_cons, List.map_cons, ih, h.1]
theorem DicAt.len {K : PySem.W.Frag} {H : Hp} {es : List (NestedKey × Addr × Value)} {kvs : List (NestedKey × PyData)} (h : DicAt K H es kvs) : es.length = kvs.length := by
  have := congrArg List.length h.keys
  rwa [List.length_map, List.length_map] at this
theorem DicAt.ent {K : PySem.W.Frag} {H : Hp} {es : List (NestedKey × Addr × Value)} {kvs : List (NestedKey × PyData)} (h : DicAt K H es kvs) (w : World) (P : Program) : (es.map fun x => (⟨hash0 x.1, .ref x.2.1, x.2.2⟩ : DictEntry)) = es.map (entryOfKey (nestedKind P w)) := by
  induction h with
  | nil => rfl
  | cons h t ih =>
    rw [List.map_cons, List.map_cons, ih]
    congr 1
    show _ = (⟨NestedKey.hash w _, _, _⟩ : DictEntry)
    rw [hash0_eq w _ h.2.2.1]
/-- what a look-up gives -/
theorem DicAt.val {K : PySem.W.Frag} {H : Hp} {es : List (NestedKey × Addr × Value)} {kvs : List (NestedKey × PyData)} (h : DicAt K H es kvs) (k : NestedKey) :
    match atKey es k, valN kvs k with
    | some q, some d => ∃ v, RelV v q.2 ∧ Dp K H v d
    | none, none => True
    | _, _ => False := by
  induction h with
  | nil => exact True.intro
  | @cons q p qs ps h t ih =>
    obtain ⟨h1, _, _, _, _, h2⟩ := h
    by_cases e : q.1 = k
    · have e' : p.1 = k := h1.symm.trans e
      have a : atKey (q :: qs) k = some q.2 := by simp [atKey, List.find?_cons, e]
      have b : valN (p :: ps) k = some p.2 := by simp [valN, List.find?_cons, e']
      rw [a, b]; exact h2
    · have e' : ¬ p.1 = k := fun z => e (h1.trans z)
      have a : atKey (q :: qs) k = atKey qs k := by simp [atKey, List.find?_cons, e]
      have b : valN (p :: ps) k = valN ps k := by simp [valN, List.find?_cons, e']
      rw [a, b]; exact ih
theorem DicAt.isSome {K : PySem.W.Frag} {H : Hp} {es : List (NestedKey × Addr × Value)} {kvs : List (NestedKey × PyData)} (h : DicAt K H es kvs) (k : NestedKey) : (atKey es k).isSome = (valN kvs k).isSome := by
  have := h.val k
  cases h1 : atKey es k <;> cases h2 : valN kvs k <;> rw [h1, h2] at this <;> first | rfl | exact this.elim
theorem DicAt.some {K : PySem.W.Frag} {H : Hp} {es : List (NestedKey × Addr × Value)} {kvs : List (NestedKey × PyData)} (h : DicAt K H es kvs) {k : NestedKey} {d : PyData} (e : valN kvs k = some d) : ∃ q, atKey es k = some q ∧ ∃ v, RelV v q.2 ∧ Dp K H v d := by
  have := h.val k
  rw [e] at this
  cases h1 : atKey es k with
  | none => rw [h1] at this; exact this.elim
  | some q => rw [h1] at this; exact ⟨q, rfl, this⟩
theorem DicAt.put {K : PySem.W.Frag} {H : Hp} {es : List (NestedKey × Addr × Value)} {kvs : List (NestedKey × PyData)} (h : DicAt K H es kvs) {k : NestedKey} {b : Addr} {v : V} {u : Value} {d kd : PyData} (hk : keyOfD kd = Option.some k) (hb : Dp K H (.ref b) kd) (r : RelV v u) (hd : Dp K H v d) :
    DicAt K H (storedH es k b u) (putN kvs k d) := by
  obtain ⟨k1, k2, k3, k4, _⟩ := keyOfD_some hk
  have e := h.isSome k
  unfold putN storedH
  rw [← e]
  by_cases q : (atKey es k).isSome = true
  · rw [if_pos q, if_pos q]
    clear e q
    induction h with
    | nil => exact .nil
    | @cons q p qs ps h t ih =>
      rw [List.map_cons, List.map_cons]
      refine .cons ?_ ih
      obtain ⟨h1, h2⟩ := h
      unfold putAt
      by_cases z : q.1 = k
      · rw [if_pos z, if_pos (h1.symm.trans z)]
        exact ⟨h1, h2.1, h2.2.1, h2.2.2.1, h2.2.2.2.1, v, r, hd⟩
      · rw [if_neg z, if_neg (fun y => z (h1.trans y))]; exact ⟨h1, h2⟩
  · rw [if_neg q, if_neg q]
    exact Paired.snoc h ⟨rfl, by rw [k4]; exact k1, k3, k2, by rw [k4]; exact hb, v, r, hd⟩
end L2

set_option Elab.async false
set_option linter.all false
set_option maxRecDepth 100000
/-! The evaluator: a small language of our own (E, S), what it means over plain data. -/
namespace Eng
open PySem
noncomputable section

abbrev D := PyData
/-- a value: data, or an object that may change -/
inductive U where
  | dat (d : PyData) | ref (i : Nat)
/-- an object that may change -/
inductive MObj where
  | lst (xs : List PyData)
  | dct (kvs : List (NestedKey × PyData))
  | inst (c : Nat) (fs : List (Str × U))
abbrev Mem := List MObj
/-- a name's slot: nothing, a value, a list of its own -/
inductive Sl where
  | no | v (u : U) | own (xs : List PyData)
abbrev Env := List Sl

inductive R (α : Type) where
  | ok (a : α) (m : Mem) | exc (c : Nat) (x : U) (m : Mem) | bad
def R.bind {α β : Type} (r : R α) (k : α → Mem → R β) : R β :=
  match r with
  | .ok a m => k a m
  | .exc c x m => .exc c x m
  | .bad => .bad
@[simp] theorem R.bind_ok {α β : Type} (a : α) (m : Mem) (k : α → Mem → R β) : (R.ok a m).bind k = k a m := rfl
@[simp] theorem R.bind_exc {α β : Type} (c : Nat) (x : U) (m : Mem) (k : α → Mem → R β) : (R.exc c x m).bind k = .exc c x m := rfl
@[simp] theorem R.bind_bad {α β : Type} (k : α → Mem → R β) : (R.bad : R α).bind k = .bad := rfl
theorem R.bind_bind {α β γ : Type} (r : R α) (k : α → Mem → R β) (k' : β → Mem → R γ) : (r.bind k).bind k' = r.bind fun a m => (k a m).bind k' := by cases r <;> rfl
/-- where nothing may be raised -/
def R.quiet {α : Type} (r : R α) : R α := match r with
  | .ok a m => .ok a m
  | _ => .bad
@[simp] theorem R.quiet_ok {α : Type} (a : α) (m : Mem) : (R.ok a m).quiet = .ok a m := rfl
@[simp] theorem R.quiet_bad {α : Type} : (R.bad : R α).quiet = .bad := rfl

def asB : U → Mem → R Bool := fun u m => match u with
  | .dat (.bool b) => .ok b m
  | _ => .bad
@[simp] theorem asB_bool (b : Bool) (m : Mem) : asB (.dat (.bool b)) m = .ok b m := rfl
inductive BinO where
  | add | sub | mul | mod | fdiv | pow
  deriving DecidableEq
inductive CmpO where
  | eq | ne | lt | le | gt | ge | is | isnot | in_ | notin
  deriving DecidableEq
inductive B1 where
  | len | tuple | list | abs | int | all | any | sum | max | min | repr | sorted
  deriving DecidableEq
inductive B2 where
  | max | min
  deriving DecidableEq
inductive GdO where
  | in_ | notin | item
  deriving DecidableEq
inductive ClsT where
  | int | bool | str | list | tuple
  deriving DecidableEq

inductive Tg where
  | nm (i : Nat) | tp (ts : List Tg)

mutual
inductive E where
  | cst (d : PyData)
  | glb (x : Str) (d : PyData)
  | var (i : Nat)
  | bv (i : Nat)
  | tup (es : Es)
  | lst (es : Es)
  | newl (es : Es)
  | newD
  | newD1 (k v : E)
  | keysl (a : E)
  | sortk (a : E)
  | sset (a : E)
  | dget (i : Nat) (es : Es)
  | lmul (es : Es) (k : E)
  | ladd (a b : E)
  | din (n : Bool) (a d : E)
  | bin (o : BinO) (a b : E)
  | neg (a : E)
  | not (a : E)
  | and (a b : E)
  | or (a b : E)
  | cmp (o : CmpO) (a b : E)
  | chain (o o' : CmpO) (a b c : E)
  | ite (t a b : E)
  | call (f : Nat) (es : Es)
  | callk (f : Nat) (es : Es) (ks : Es) (perm : List Nat)
  | b1 (f : B1) (a : E)
  | b2 (f : B2) (a b : E)
  | isi (a : E) (c : ClsT)
  | isi2 (a : E) (c c' : ClsT)
  | ix (a i : E)
  | sl (a lo hi : E)
  | rev (a : E)
  | gd (o : GdO) (x : Str) (kvs : List (Str × Int)) (nks : List Str) (a : E)
  | comp (elt : E) (tg : Tg) (it : It) (cond : E) (own : List (Str × Nat))
  | comp2 (elt : E) (tg : Tg) (it : It) (tg' : Tg) (it' : It) (cond : E) (own : List (Str × Nat))
  | no
inductive Es where
  | nil | cons (e : E) (es : Es)
inductive It where
  | seq (e : E) | rng1 (a : E) | rng2 (a b : E) | enum (e : E) | zip2 (a b : E)
end

/-! ### sizes -/
mutual
def szOk : PyData → Bool
  | .none | .bool _ | .int _ => true
  | .str x => decide (x.length ≤ sizeLine)
  | .list xs | .tuple xs => decide (xs.length ≤ sizeLine) && szAll xs
  | .dict _ => false
def szAll : List PyData → Bool
  | [] => true
  | x :: xs => szOk x && szAll xs
end

/-! ### built-ins by values -/
def asInts : List PyData → Option (List Int)
  | [] => some []
  | .int i :: r => (asInts r).map (i :: ·)
  | _ :: _ => none
def asBools : List PyData → Option (List Bool)
  | [] => some []
  | .bool i :: r => (asBools r).map (i :: ·)
  | _ :: _ => none
def maxL : List Int → Int
  | [] => 0
  | [x] => x
  | x :: r => max x (maxL r)
def minL : List Int → Int
  | [] => 0
  | [x] => x
  | x :: r => min x (minL r)

/-- data that sorted can order -/
def sortOk (xs : List PyData) : Prop := (xs.length < 2 ∧ ∀ d ∈ xs, ∃ r, d = .tuple r) ∨ (PySem.W.AllAlike xs ∧ PySem.W.Sortable xs ∧ ∀ d ∈ xs, d.depth ≤ 60)
def b1Val : B1 → PyData → Option PyData
  | .len, .list xs => some (.int xs.length)
  | .len, .tuple xs => some (.int xs.length)
  | .len, .str x => some (.int x.length)
  | .tuple, .list xs => some (.tuple xs)
  | .tuple, .tuple xs => some (.tuple xs)
  | .list, .list xs => some (.list xs)
  | .list, .tuple xs => some (.list xs)
  | .abs, .int i => some (.int (if i < 0 then -i else i))
  | .int, .int i => some (.int i)
  | .int, .bool b => some (.int (if b then 1 else 0))
  | .all, .list xs => (asBools xs).map fun bs => .bool (bs.all id)
  | .any, .list xs => match asBools xs with
    | some bs => some (.bool (bs.any id))
    | none => (asInts xs).map fun ns => .bool (ns.any fun i => i != 0)
  | .any, .tuple xs => (asInts xs).map fun ns => .bool (ns.any fun i => i != 0)
  | .sum, .list xs => (asInts xs).map fun ns => .int ns.sum
  | .sum, .tuple xs => (asInts xs).map fun ns => .int ns.sum
  | .sorted, .list xs => @ite _ (sortOk xs) (Classical.propDecidable _) (some (.list (xs.mergeSort (PySem.W.dataLe false id)))) none
  | .max, .list xs => (asInts xs).bind fun ns => if ns = [] then none else some (.int (maxL ns))
  | .min, .list xs => (asInts xs).bind fun ns => if ns = [] then none else some (.int (minL ns))
  | .repr, d => if d.showable && decide (d.shown.length ≤ sizeLine) && decide (d.depth ≤ 60) then some (.str d.shown) else none
  | _, _ => none
/-- sorted(set(x)) -/
def sortD (ns : List Int) : List Int := ns.eraseDups.mergeSort fun a b => decide (a ≤ b)
def ssetV : PyData → Option PyData
  | .list xs => (asInts xs).bind fun ns => if ns.length ≤ 1000 ∧ (sortD ns).length < 64 then some (.list ((sortD ns).map .int)) else none
  | _ => none
def b2Val : B2 → PyData → PyData → Option PyData
  | .max, .int i, .int j => some (.int (if j > i then j else i))
  | .min, .int i, .int j => some (.int (if j < i then j else i))
  | _, _, _ => none
instance (i j : Int) : Decidable (L2.CMul i j) := by unfold L2.CMul; infer_instance
instance (i j : Int) : Decidable (L2.CPow i j) := by unfold L2.CPow; infer_instance
instance (i j : Int) : Decidable (L2.CDivW i j) := by unfold L2.CDivW; infer_instance
def binVal : BinO → PyData → PyData → Option PyData
  | .add, .int i, .int j => some (.int (i + j))
  | .add, .str x, .str y => @ite _ (x.length + y.length ≤ sizeLine) (Classical.propDecidable _) (some (.str (x ++ y))) none
  | .add, .list xs, .list ys => @ite _ (xs.length + ys.length ≤ sizeLine) (Classical.propDecidable _) (some (.list (xs ++ ys))) none
  | .add, .tuple xs, .tuple ys => @ite _ (xs.length + ys.length ≤ sizeLine) (Classical.propDecidable _) (some (.tuple (xs ++ ys))) none
  | .sub, .int i, .int j => some (.int (i - j))
  | .mul, .int i, .int j => @ite _ (L2.CMul i j) (Classical.propDecidable _) (some (.int (i * j))) none
  | .mul, .tuple xs, .int k => @ite _ (xs ≠ [] ∧ xs.length ≤ 1000 ∧ 0 ≤ k ∧ k ≤ 1000) (Classical.propDecidable _) (some (.tuple (List.replicate k.toNat xs).flatten)) none
  | .mod, .int i, .int j => @ite _ (0 < j) (Classical.propDecidable _) (some (.int (i % j))) none
  | .fdiv, .int i, .int j => @ite _ (L2.CDivW i j) (Classical.propDecidable _) (some (.int (i / j))) none
  | .pow, .int i, .int j => @ite _ (L2.CPow i j) (Classical.propDecidable _) (some (.int (i ^ j.toNat))) none
  | _, _, _ => none
def lmulV : PyData → PyData → Option PyData
  | .list xs, .int k => @ite _ (-(2 ^ 63) ≤ k ∧ k < 2 ^ 63 ∧ xs.length * k.toNat ≤ sizeLine) (Classical.propDecidable _) (some (.list (List.replicate k.toNat xs).flatten)) none
  | _, _ => none
def laddV : PyData → PyData → Option PyData
  | .list xs, .list ys => @ite _ (xs.length + ys.length ≤ sizeLine) (Classical.propDecidable _) (some (.list (xs ++ ys))) none
  | _, _ => none
def isNoneD : PyData → Bool
  | .none => true
  | _ => false
def cmpVal : CmpO → PyData → PyData → Option PyData
  | .eq, .int i, .int j => some (.bool (decide (i = j)))
  | .eq, .str x, .str y => some (.bool (decide (x = y)))
  | .ne, .int i, .int j => some (.bool (!decide (i = j)))
  | .ne, .str x, .str y => some (.bool (!decide (x = y)))
  | .eq, d, e => if SeqAt.shaped d = true ∧ SeqAt.shaped e = true then some (.bool (PyData.eqv d e)) else none
  | .ne, d, e => if SeqAt.shaped d = true ∧ SeqAt.shaped e = true then some (.bool (!PyData.eqv d e)) else none
  | .in_, d, .list ds => if d.canLay0 = true ∧ PyData.canLayAll0 ds = true ∧ d.depth ≤ 60 then some (.bool (ds.any fun z => PyData.eqv z d)) else none
  | .in_, d, .tuple ds => if d.canLay0 = true ∧ PyData.canLayAll0 ds = true ∧ d.depth ≤ 60 then some (.bool (ds.any fun z => PyData.eqv z d)) else none
  | .notin, d, .list ds => if d.canLay0 = true ∧ PyData.canLayAll0 ds = true ∧ d.depth ≤ 60 then some (.bool (!ds.any fun z => PyData.eqv z d)) else none
  | .notin, d, .tuple ds => if d.canLay0 = true ∧ PyData.canLayAll0 ds = true ∧ d.depth ≤ 60 then some (.bool (!ds.any fun z => PyData.eqv z d)) else none
  | .lt, .int i, .int j => some (.bool (decide (i < j)))
  | .le, .int i, .int j => some (.bool (decide (i ≤ j)))
  | .gt, .int i, .int j => some (.bool (decide (j < i)))
  | .ge, .int i, .int j => some (.bool (decide (j ≤ i)))
  | .is, d, .none => some (.bool (isNoneD d))
  | .isnot, d, .none => some (.bool (!isNoneD d))
  | .is, .bool a, .bool b => some (.bool (decide (a = b)))
  | .isnot, .bool a, .bool b => some (.bool (!decide (a = b)))
  | _, _, _ => none
def ixVal : PyData → PyData → Option PyData
  | .list xs, .int i => L2.atI xs i
  | .tuple xs, .int i => L2.atI xs i
  | _, _ => none
def cutD (xs : List PyData) (lo hi : Option Int) : List PyData := (xs.drop (HT.sIx xs.length 0 lo)).take (HT.sIx xs.length xs.length hi - HT.sIx xs.length 0 lo)
def slVal (d : PyData) (lo hi : Option Int) : Option PyData := match d with
  | .list xs => some (.list (cutD xs lo hi))
  | .tuple xs => some (.tuple (cutD xs lo hi))
  | _ => none
def revD : PyData → Option PyData
  | .list xs => some (.list xs.reverse)
  | .tuple xs => some (.tuple xs.reverse)
  | _ => none
/-- a dict of the module's own, whose keys are told: kvs are there, nks are not -/
def gdVal (o : GdO) (kvs : List (Str × Int)) (nks : List Str) : PyData → Option PyData
  | .str z => match o, kvs.lookup z with
    | .in_, some _ => some (.bool true)
    | .in_, none => if z ∈ nks then some (.bool false) else none
    | .notin, some _ => some (.bool false)
    | .notin, none => if z ∈ nks then some (.bool true) else none
    | .item, some i => some (.int i)
    | .item, none => none
  | _ => none
def clsVal : ClsT → PyData → Bool
  | .int, .int _ => true
  | .int, .bool _ => true
  | .bool, .bool _ => true
  | .str, .str _ => true
  | .list, .list _ => true
  | .tuple, .tuple _ => true
  | _, _ => false
def rngD (lo : Int) (n : Nat) : List PyData := (List.range n).map fun (i : Nat) => .int (lo + (i : Int))
def enumD (n : Nat) : List PyData → List PyData
  | [] => []
  | x :: r => .tuple [.int n, x] :: enumD (n + 1) r
def zipD : List PyData → List PyData → List PyData
  | x :: xs, y :: ys => .tuple [x, y] :: zipD xs ys
  | _, _ => []

def R.ofO {α : Type} (o : Option α) (m : Mem) : R α := match o with
  | some a => .ok a m
  | none => .bad
@[simp] theorem R.ofO_some {α : Type} (a : α) (m : Mem) : R.ofO (some a) m = .ok a m := rfl
@[simp] theorem R.ofO_none {α : Type} (m : Mem) : R.ofO (none : Option α) m = .bad := rfl
def R.dat (o : Option PyData) (m : Mem) : R U := match o with
  | some a => .ok (.dat a) m
  | none => .bad
@[simp] theorem R.dat_some (a : PyData) (m : Mem) : R.dat (some a) m = .ok (.dat a) m := rfl
@[simp] theorem R.dat_none (m : Mem) : R.dat none m = .bad := rfl

/-! ### targets -/
mutual
def asgTg : Tg → PyData → Env → Option Env
  | .nm i, d, σ => if i < σ.length then some (σ.set i (.v (.dat d))) else none
  | .tp ts, .tuple ds, σ => asgTgs ts ds σ
  | .tp _, _, _ => none
def asgTgs : List Tg → List PyData → Env → Option Env
  | [], [], σ => some σ
  | t :: ts, d :: ds, σ => (asgTg t d σ).bind fun σ' => asgTgs ts ds σ'
  | _, _, _ => none
end
mutual
def slotsTg : Tg → List Nat
  | .nm i => [i]
  | .tp ts => slotsTgs ts
def slotsTgs : List Tg → List Nat
  | [] => []
  | t :: ts => slotsTg t ++ slotsTgs ts
end
def wipeE (σ : Env) : List Nat → Env
  | [] => σ
  | v :: vs => (wipeE σ vs).set v .no

/-- a call by its number -/
abbrev Calls := Nat → List U → Mem → R U

def datL : List U → Option (List PyData)
  | [] => some []
  | .dat d :: r => (datL r).map (d :: ·)
  | .ref _ :: _ => none
/-- keyword arguments into the parameters' order -/
def permL (us : List U) (perm : List Nat) : Option (List U) := perm.mapM fun i => us[i]?

def condGo (cond : Option (Env → Mem → R U)) (σ : Env) (m : Mem) : R Bool := match cond with
  | none => .ok true m
  | some c => (c σ m).bind asB
def d1 (F : PyData → Option PyData) (x : U) (m : Mem) : R U := match x with
  | .dat d => R.dat (F d) m
  | _ => .bad
def d2 (F : PyData → PyData → Option PyData) (x y : U) (m : Mem) : R U := match x, y with
  | .dat d, .dat e => R.dat (F d e) m
  | _, _ => .bad
@[simp] theorem d1_dat (F : PyData → Option PyData) (d : PyData) (m : Mem) : d1 F (.dat d) m = R.dat (F d) m := rfl
@[simp] theorem d2_dat (F : PyData → PyData → Option PyData) (d e : PyData) (m : Mem) : d2 F (.dat d) (.dat e) m = R.dat (F d e) m := rfl
def asTup (us : List U) (m : Mem) : R U := R.dat ((datL us).map .tuple) m
def asLst (us : List U) (m : Mem) : R U := R.dat ((datL us).map .list) m
def asNew (us : List U) (m : Mem) : R U := match datL us with
  | some ds => .ok (.ref m.length) (m ++ [.lst ds])
  | none => .bad
def negD : PyData → Option PyData
  | .int i => some (.int (-i))
  | _ => none
def ixU (x y : U) (m : Mem) : R U := match x, y with
  | .dat d, .dat e => R.dat (ixVal d e) m
  | .ref k, .dat e => match m[k]? with
    | some (.lst xs) => match e with
      | .int j => R.dat (L2.atI xs j) m
      | _ => .bad
    | some (.dct kvs) => R.dat ((L2.keyOfD e).bind (L2.valN kvs)) m
    | _ => .bad
  | _, _ => .bad
/-- x in y, x not in y: a dict of ours -/
def dinU (n : Bool) (x y : U) (m : Mem) : R U := match x, y with
  | .dat e, .ref k => match m[k]? with
    | some (.dct kvs) => R.dat ((L2.keyOfD e).map fun q => .bool (xor n (L2.valN kvs q).isSome)) m
    | _ => .bad
  | _, _ => .bad
@[simp] theorem ixU_dat (d e : PyData) (m : Mem) : ixU (.dat d) (.dat e) m = R.dat (ixVal d e) m := rfl
/-- sorted(x): a dict of ours, its keys -/
def sortKOk (ds : List PyData) : Prop := PySem.W.AllAlike ds ∧ PySem.W.Sortable ds ∧ ∀ d ∈ ds, d.depth ≤ 60
def keysU (x : U) (m : Mem) : R U := match x with
  | .ref k => match m[k]? with
    | some (.dct kvs) => .ok (.dat (.list (kvs.map (·.1.data)))) m
    | _ => .bad
  | _ => .bad
def newD1U (q : Nat) (x y : U) (m : Mem) : R U := match x, y with
  | .dat kd, .dat d => match m[q]? with
    | some (.dct []) => match L2.keyOfD kd with
      | some k => .ok (.ref q) (m.set q (.dct [(k, d)]))
      | none => .bad
    | _ => .bad
  | _, _ => .bad
def sortKU (x : U) (m : Mem) : R U := match x with
  | .ref k => match m[k]? with
    | some (.dct kvs) => @ite _ (sortKOk (kvs.map (·.1.data))) (Classical.propDecidable _) (.ok (.dat (.list ((kvs.map (·.1.data)).mergeSort (PySem.W.dataLe false id)))) m) .bad
    | _ => .bad
  | _ => .bad
/-- x.get(k, y) -/
def dctU (x : U) (m : Mem) : R Nat := match x with
  | .ref k => match m[k]? with
    | some (.dct _) => .ok k m
    | _ => .bad
  | _ => .bad
def dgetU (k : Nat) (us : List U) (m : Mem) : R U := match us with
  | [.dat e, .dat z] => match m[k]? with
    | some (.dct kvs) => R.dat ((L2.keyOfD e).map fun q => (L2.valN kvs q).getD z) m
    | _ => .bad
  | _ => .bad
def boolOf : Option PyData → Mem → R Bool
  | some (.bool b), m => .ok b m
  | _, _ => .bad
def c2 (F : PyData → PyData → Option PyData) (x y : U) (m : Mem) : R Bool := match x, y with
  | .dat d, .dat e => boolOf (F d e) m
  | _, _ => .bad
@[simp] theorem c2_dat (F : PyData → PyData → Option PyData) (d e : PyData) (m : Mem) : c2 F (.dat d) (.dat e) m = boolOf (F d e) m := rfl
@[simp] theorem boolOf_some (b : Bool) (m : Mem) : boolOf (some (.bool b)) m = .ok b m := rfl
def asInt (x : U) (m : Mem) : R Int := match x with
  | .dat (.int i) => .ok i m
  | _ => .bad
@[simp] theorem asInt_int (i : Int) (m : Mem) : asInt (.dat (.int i)) m = .ok i m := rfl
def asD (x : U) (m : Mem) : R PyData := match x with
  | .dat d => .ok d m
  | _ => .bad
@[simp] theorem asD_dat (d : PyData) (m : Mem) : asD (.dat d) m = .ok d m := rfl
def seqU (x : U) (m : Mem) : R (List PyData) := match x with
  | .dat (.list xs) => .ok xs m
  | .dat (.tuple xs) => .ok xs m
  | _ => .bad
@[simp] theorem seqU_list (xs : List PyData) (m : Mem) : seqU (.dat (.list xs)) m = .ok xs m := rfl
@[simp] theorem seqU_tuple (xs : List PyData) (m : Mem) : seqU (.dat (.tuple xs)) m = .ok xs m := rfl
def rng1U (j : Int) (m : Mem) : R (List PyData) := @ite _ (-(2 ^ 62) ≤ j ∧ j < 2 ^ 62) (Classical.propDecidable _) (.ok (rngD 0 j.toNat) m) .bad
def rng2U (i j : Int) (m : Mem) : R (List PyData) := @ite _ (-(2 ^ 62) ≤ i ∧ i < 2 ^ 62 ∧ -(2 ^ 62) ≤ j ∧ j < 2 ^ 62) (Classical.propDecidable _) (.ok (rngD i (j - i).toNat) m) .bad
def enumU (xs : List PyData) (m : Mem) : R (List PyData) := .ok (enumD 0 xs) m
def zipU (x y : U) (m : Mem) : R (List PyData) := match x, y with
  | .dat (.list xs), .dat (.list ys) => .ok (zipD xs ys) m
  | .dat (.tuple xs), .dat (.tuple ys) => .ok (zipD xs ys) m
  | .dat (.list xs), .dat (.tuple ys) => .ok (zipD xs ys) m
  | .dat (.tuple xs), .dat (.list ys) => .ok (zipD xs ys) m
  | _, _ => .bad
@[simp] theorem zipU_list (xs ys : List PyData) (m : Mem) : zipU (.dat (.list xs)) (.dat (.list ys)) m = .ok (zipD xs ys) m := rfl
@[simp] theorem zipU_lt (xs ys : List PyData) (m : Mem) : zipU (.dat (.list xs)) (.dat (.tuple ys)) m = .ok (zipD xs ys) m := rfl
@[simp] theorem zipU_tl (xs ys : List PyData) (m : Mem) : zipU (.dat (.tuple xs)) (.dat (.list ys)) m = .ok (zipD xs ys) m := rfl
@[simp] theorem zipU_tuple (xs ys : List PyData) (m : Mem) : zipU (.dat (.tuple xs)) (.dat (.tuple ys)) m = .ok (zipD xs ys) m := rfl
def sizeU (xs : List PyData) (m : Mem) : R (List PyData) := @ite _ (xs.length ≤ sizeLine) (Classical.propDecidable _) (.ok xs m) .bad
def getV (σ : Env) (i : Nat) (m : Mem) : R U := match σ[i]? with
  | some (.v u) => .ok u m
  | _ => .bad
def getB (σ : Env) (i : Nat) (m : Mem) : R U := match σ[i]? with
  | some (.v u) => .ok u m
  | some (.own xs) => .ok (.dat (.list xs)) m
  | _ => .bad
/-- one list comprehension's loop -/
def compGo (elt : Env → Mem → R U) (cond : Option (Env → Mem → R U)) (tg : Tg) (σ : Env) : List PyData → Mem → R (List PyData)
  | [], m => .ok [] m
  | d :: ds, m =>
    match asgTg tg d σ with
    | none => .bad
    | some σ' => (condGo cond σ' m).bind fun b m1 => if b = true then (elt σ' m1).bind fun u m2 => (asD u m2).bind fun x m2 => (compGo elt cond tg σ ds m2).bind fun xs m3 => .ok (x :: xs) m3
        else compGo elt cond tg σ ds m1
/-- .. with a second loop in it -/
def comp2Go (elt : Env → Mem → R U) (cond : Option (Env → Mem → R U)) (tg : Tg) (it : Env → Mem → R (List PyData)) (tg' : Tg) (σ : Env) : List PyData → Mem → R (List PyData)
  | [], m => .ok [] m
  | d :: ds, m =>
    match asgTg tg d σ with
    | none => .bad
    | some σ' => (it σ' m).bind fun es m1 => (compGo elt cond tg' (wipeE σ' (slotsTg tg')) es m1).bind fun xs m2 => (comp2Go elt cond tg it tg' σ ds m2).bind fun ys m3 => .ok (xs ++ ys) m3
/-- where an object is only read: a name may hold a list of its own -/
def bA (a : E) (f : Env → Mem → R U) (σ : Env) (m : Mem) : R U := match a with
  | .bv i => getB σ i m
  | _ => f σ m
def oA (a : E) (f : Env → Mem → R U) (σ : Env) (m : Mem) : R (Option Int) := match a with
  | .no => .ok none m
  | _ => ((f σ m).bind asInt).bind fun i m1 => .ok (some i) m1
def cA (a : E) (f : Env → Mem → R U) : Option (Env → Mem → R U) := match a with
  | .no => none
  | _ => some fun σ m => (f σ m).quiet
mutual
def evE (C : Calls) : E → Env → Mem → R U
  | .cst d, _, m => .ok (.dat d) m
  | .glb _ d, _, m => .ok (.dat d) m
  | .var i, σ, m => getV σ i m
  | .bv _, _, _ => .bad
  | .tup es, σ, m => (evEs C es σ m).bind asTup
  | .lst es, σ, m => (evEs C es σ m).bind asLst
  | .newl es, σ, m => (evEs C es σ m).bind asNew
  | .lmul es k, σ, m => ((evEs C es σ m).bind asLst).bind fun x m1 => (evE C k σ m1).bind fun y m2 => d2 lmulV x y m2
  | .sortk a, σ, m => (evE C a σ m).bind sortKU
  | .sset a, σ, m => (evE C a σ m).bind (d1 ssetV)
  | .dget i es, σ, m => ((getV σ i m).bind dctU).bind fun k m1 => (evEs C es σ m1).bind fun us m2 => dgetU k us m2
  | .newD, _, m => .ok (.ref m.length) (m ++ [.dct []])
  | .newD1 k v, σ, m => (evE C k σ (m ++ [.dct []])).bind fun x m1 => (evE C v σ m1).bind fun y m2 => newD1U m.length x y m2
  | .keysl a, σ, m => (evE C a σ m).bind keysU
  | .din n a d, σ, m => (evE C a σ m).bind fun x m1 => (evE C d σ m1).bind fun y m2 => dinU n x y m2
  | .bin o a b, σ, m => (bA a (evE C a) σ m).bind fun x m1 => (bA b (evE C b) σ m1).bind fun y m2 => d2 (binVal o) x y m2
  | .ladd a b, σ, m => (bA a (evE C a) σ m).bind fun x m1 => (bA b (evE C b) σ m1).bind fun y m2 => d2 (laddV) x y m2
  | .neg a, σ, m => (evE C a σ m).bind (d1 negD)
  | .not a, σ, m => ((evE C a σ m).bind asB).bind fun b m1 => .ok (.dat (.bool (!b))) m1
  | .and a b, σ, m => ((evE C a σ m).bind asB).bind fun c m1 => if c = true then evE C b σ m1 else .ok (.dat (.bool false)) m1
  | .or a b, σ, m => ((evE C a σ m).bind asB).bind fun c m1 => if c = true then .ok (.dat (.bool true)) m1 else evE C b σ m1
  | .cmp o a b, σ, m => (bA a (evE C a) σ m).bind fun x m1 => (bA b (evE C b) σ m1).bind fun y m2 => d2 (cmpVal o) x y m2
  | .chain o o' a b c, σ, m => (bA a (evE C a) σ m).bind fun x m1 => (bA b (evE C b) σ m1).bind fun y m2 => (c2 (cmpVal o) x y m2).bind fun k m3 =>
      if k = true then (bA c (evE C c) σ m3).bind fun z m4 => d2 (cmpVal o') y z m4 else .ok (.dat (.bool false)) m3
  | .ite t a b, σ, m => ((evE C t σ m).bind asB).bind fun c m1 => if c = true then evE C a σ m1 else evE C b σ m1
  | .call f es, σ, m => (evEs C es σ m).bind fun us m1 => C f us m1
  | .callk f es ks perm, σ, m => (evEs C es σ m).bind fun us m1 => (evEs C ks σ m1).bind fun zs m2 => (R.ofO (permL (us ++ zs) perm) m2).bind fun ws m3 => C f ws m3
  | .b1 f a, σ, m => (bA a (evE C a) σ m).bind (d1 (b1Val f))
  | .b2 f a b, σ, m => (evE C a σ m).bind fun x m1 => (evE C b σ m1).bind fun y m2 => d2 (b2Val f) x y m2
  | .isi a c, σ, m => (evE C a σ m).bind (d1 fun d => some (.bool (clsVal c d)))
  | .isi2 a c c', σ, m => (evE C a σ m).bind (d1 fun d => some (.bool (clsVal c d || clsVal c' d)))
  | .ix a i, σ, m => (bA a (evE C a) σ m).bind fun x m1 => (evE C i σ m1).bind fun y m2 => ixU x y m2
  | .sl a lo hi, σ, m => (bA a (evE C a) σ m).bind fun x m1 => (oA lo (evE C lo) σ m1).bind fun l m2 => (oA hi (evE C hi) σ m2).bind fun h m3 => d1 (fun d => slVal d l h) x m3
  | .rev a, σ, m => (bA a (evE C a) σ m).bind (d1 revD)
  | .gd o _ kvs nks a, σ, m => (evE C a σ m).bind (d1 (gdVal o kvs nks))
  | .comp elt tg it cond own, σ, m => ((evI C it σ m).bind sizeU).bind fun ds m1 =>
      (compGo (fun σ m => (evE C elt σ m).quiet) (cA cond (evE C cond)) tg (wipeE σ (own.map (·.2))) ds m1).quiet.bind fun xs m2 => .ok (.dat (.list xs)) m2
  | .comp2 elt tg it tg' it' cond own, σ, m => ((evI C it σ m).bind sizeU).bind fun ds m1 =>
      ((comp2Go (fun σ m => (evE C elt σ m).quiet) (cA cond (evE C cond)) tg (fun σ m => (evI C it' σ m).quiet) tg' (wipeE σ (own.map (·.2))) ds m1).quiet.bind sizeU).bind fun xs m2 => .ok (.dat (.list xs)) m2
  | .no, _, _ => .bad
def evEs (C : Calls) : Es → Env → Mem → R (List U)
  | .nil, _, m => .ok [] m
  | .cons e es, σ, m => (evE C e σ m).bind fun u m1 => (evEs C es σ m1).bind fun us m2 => .ok (u :: us) m2
def evI (C : Calls) : It → Env → Mem → R (List PyData)
  | .seq e, σ, m => (evE C e σ m).bind seqU
  | .rng1 a, σ, m => ((evE C a σ m).bind asInt).bind rng1U
  | .rng2 a b, σ, m => ((evE C a σ m).bind asInt).bind fun i m1 => ((evE C b σ m1).bind asInt).bind fun j m2 => rng2U i j m2
  | .enum e, σ, m => ((evE C e σ m).bind seqU).bind enumU
  | .zip2 a b, σ, m => (evE C a σ m).bind fun x m1 => (evE C b σ m1).bind fun y m2 => zipU x y m2
end
end
end Eng

set_option Elab.async false
set_option linter.all false
set_option maxRecDepth 100000
set_option maxHeartbeats 1000000
/-! An own error whose __init__ says super().__init__('..') and keeps its argument: made, raised. -/
namespace EngX
open PySem PySem.W PySem.Calls PyProof.Rows PySem.HandSPX
def iA (fld : Str) (p1 p2 : Pos) : Arguments := { posonlyargs := [], args := [{ arg := "self", annotation := none, pos := p1 }, { arg := fld, annotation := none, pos := p2 }], vararg := none, kwonlyargs := [], kw_defaults := [], kwarg := none, defaults := [] }
def iB (fld msg : Str) (p0 p1 p2 p3 p4 p5 q1 q2 q3 q4 : Pos) : List Stmt :=
  [.Expr (.Call (.Attribute (.Call (.Name "super" p0) [] [] p1) "__init__" p2) [.Constant (.str msg) 0 p3] [] p4) p5, .Assign [.Attribute (.Name "self" q1) fld q2] (.Name fld q3) q4]
def iS (fld : Str) : Scope := { kind := .function, names := [(PySem.Str.ofString "self", .local), (fld, .local), (PySem.Str.ofString "__class__", .free), (PySem.Str.ofString "super", .globalImplicit)], isGenerator := false, isCoroutine := false, more := [] }
/-- what the written part says of an own error's class, at C, and of its __init__, at fI -/
structure OwnTxt (P : Program) (K : Frag) (mg : Str → Option Value) (x fld : Str) (C fI : Addr) : Prop where
  gC : mg x = some (.ref C)
  nS : mg "super" = none
  nP : (P.main.scope.names.lookup ("super" : Str)).isSome = false
  cls : ∃ nm q N bs bm sn sub ab col dd k0 k1 k2 k3 k5, K.lookup C = some (excClassObj nm q C N bs bm true sn sub ab col dd k0 k1 k2 k3 k5 "ValueError.__new__") ∧ refsVE bm = true
  sa : findIn K (.ref C) "__setattr__" = some (some (.builtin "object.__setattr__"))
  noN : findIn K (.ref C) fld = some none
  iC : findIn K (.ref C) "__init__" = some (some (.ref fI))
  tC : typeIn K (.ref fI) = some (.type "function")
  kC : keepIn K (.ref C) = true
  exC : subIn K (.ref C) (.type "BaseException") = some true
  vaC : subIn K (.ref C) (.type "ValueError") = some true
  tyC : typeIn K (.ref C) = some (.type "type")
  slf : mroIn K C (.ref C) = some true
  sup : ks_superIn K C C "__init__" = some (some (.builtin "ValueError.__init__"))
  tp : nsIn K cStatics "thirdparty.any" = some none
  nf : fld = ("at" : Str) ∨ fld = ("value" : Str)
  xf : L2.XfC K C
  fn : ∃ (oc : Value) (od : Option Addr) (q msg : Str) (doc pm : Value) (an : Option Addr) (ct : Value) (osl : Array (Option Value)) (p1 p2 q0 q1 q2 q3 q4 q5 r1 r2 r3 r4 : Pos) (cda cc : Addr) (ccl cl : Value) (cdd cld : Option Addr) (vs : Array Value) (ccs csl : Array (Option Value)) (file : Str) (tf : Tok),
    K.lookup fI = some ⟨oc, od, .func (ksFn "__init__" q (iA fld p1 p2) (iB fld msg q0 q1 q2 q3 q4 q5 r1 r2 r3 r4) (iS fld) .none .none doc pm an (.ref cda) ct cc), osl⟩ ∧ codeIn K (.ref cda) q = true ∧
    K.lookup cda = some ⟨ccl, cdd, .fields vs, ccs⟩ ∧ vs[2]? = some (.str file tf) ∧ ((P.main.file : Str) == file) = true ∧ K.lookup cc = some ⟨cl, cld, .cell (some (.ref C)), csl⟩ ∧ (q2.endLine == q4.line) = true
theorem one_size (v : Value) : [v].length ≤ sizeLine := by
  rw [sizeLine_eq]
  exact (by decide : 1 ≤ 16777216)
/-- what __init__ leaves of a fresh exception at x -/
structure InitEnd (h h' : Heap) (x C dx t1 : Addr) (fld : Str) (v : Value) : Prop where
  keep : ∀ b o, b ≠ x → h.get? b = some o → h'.get? b = some o
  obj : h'.get? x = some { cls := .ref C, dict := some dx, data := .fields #[.ref t1, .none, .none, .none, .bool false, .none] }
  dbig : h.objs.size ≤ dx
  dne : dx ≠ x
  ns : h'.Ns1 dx (fun y => if y = fld then some v else none)
/-- a made error -/
structure OwnMade (h h' : Heap) (e C d : Addr) (fld : Str) (v : Value) : Prop where
  keep : ∀ b o, h.get? b = some o → h'.get? b = some o
  new : h.objs.size ≤ e
  obj : ∃ oe vs, h'.get? e = some oe ∧ oe.cls = .ref C ∧ oe.dict = some d ∧ oe.data = .fields vs ∧ vs[1]? = some .none ∧ vs[2]? = some .none
  dbig : h.objs.size ≤ d
  dne : d ≠ e
  ns : h'.Ns1 d (fun y => if y = fld then some v else none)
section
variable {prog : Program} {w : World} {A : Around} {E : Value → Shared → Prop} {R : Result → Shared → Prop} {s : Shared} {K : Frag} {mg : Str → Option Value} {C fI : Addr} {nm fld : Str}
theorem kept_but {K : Frag} {h h' : Heap} {x : Addr} (X : K.In h) (hx : K.lookup x = none) (k : ∀ b o, b ≠ x → h.get? b = some o → h'.get? b = some o) : K.In h' := fun a o e =>
  k a o (fun z => by rw [z, hx] at e; cases e) (X a o e)
/-- the built-in __init__ bound to the error, called -/
theorem call_line {o : Expr} {name : Str} {apos pos : Pos} {c : Const} {n : Nat} {p : Pos} {env : Env} (hln : (apos.endLine == pos.line) = true) : eval (.Call (.Attribute o name apos) [.Constant c n p] [] pos) env = (do
      let ov ← attributeBase o name env (eval o env)
      standAt apos.atName
      let (f, first) ← holding [ov] (getMethod ov name (do return (← importBound o env).getD true))
      callWith pos f first (backTo pos (starEach [.Constant c n p] env)) []) := by
  rw [arm_eval_Call]
  have hform : methodCallForm ([Expr.Constant c n p].length + ([] : List Keyword).length) (backTo pos (starEach [.Constant c n p] env)) (backToKw pos (keywordEach [] env)) = true := rfl
  have hpos : methodCallPos true o env apos pos = pure pos := by unfold methodCallPos; simp [hln]
  unfold methodCall calleeOf
  rw [hform]
  simp only [hpos, pure_bind, if_true]
  rfl
theorem call_mw {h : Heap} {g : Array GenState} {d : Drawn} {t : Nat} {os : OsState} {u e t0 : Addr} {rest : List Value} {Q : Value → Shared → Prop} {nm q : Str} {N : Addr} {bs bm : List Value} {hdct : Bool} {sn : List Str} {sub : List Value} {ab : Bool} {col : Option Bool} {dd : Option Addr} {k0 k1 k2 k3 k5 : Option Value}
    (hC : h.get? C = some (excClassObj nm q C N bs bm hdct sn sub ab col dd k0 k1 k2 k3 k5 "ValueError.__new__")) (he : h.get? e = some (excO C t0)) (hu : h.get? u = some (kxs_mw "ValueError.__init__" e)) (hrest : rest.length ≤ sizeLine)
    (hq : ∀ h' t1, (∀ b o, b ≠ e → h.get? b = some o → h'.get? b = some o) → h'.get? e = some (excO C t1) → Q .none ⟨h', g, d, t, os⟩) :
    wpAny (model prog w) A (call (.ref u) rest) Q E ⟨h, g, d, t, os⟩ := by
  refine wpAny_call (codeAny_of_tree ?_)
  show wpAny _ A.in1 (callAny (.ref u) ⟨rest, []⟩) _ _ _
  simp only [callAny]
  refine wpAny_bind (wpAny_load hu ?_)
  simp only [kxs_mw, show (Value.type "method-wrapper" == Value.type "method" || Value.type "method-wrapper" == Value.type "builtin_function_or_method" || Value.type "method-wrapper" == Value.type "method-wrapper") = true by decide, if_true]
  refine W.KFB.if_so (by decide) ?_
  refine wpAny_bind (check_bound_init F.excBase_ValueError.toExcCallFacts hC he rfl ?_)
  refine wpAny_bind (wpAny_pure (wpAny_pure ?_))
  refine ⟨plainId_quiet F.excBase_ValueError.init.plain _, codeAny_builtin F.excBase_ValueError.initEntry ?_⟩
  exact exc_init_tree (cls := .ref C) (t0 := t0) (dv := none) (c2 := .none) (c3 := .none) (b4 := .bool false) he hrest fun h' k e' _ => hq h' _ k e'
theorem own_init_at (T : OwnTxt prog K mg nm ("at" : Str) C fI) {x t0 : Addr} {v : Value} (X : K.In s.heap) (G : s.heap.Ns mainGlobals mg) (B : ∃ mb, s.heap.Ns builtinsNs mb ∧ ∀ x : Str, x ≠ "__name__" → mb x = bootBuiltins x) (hlim : s.heap.NoLimit) (hx : s.heap.get? x = some (excO C t0)) (hnx : K.lookup x = none) (hroom : A.depth < recursionLimit)
    (hq : ∀ h' tk dx t1, InitEnd s.heap h' x C dx t1 ("at" : Str) v → R (.ok (.ret .none)) { s with heap := h', toks := tk }) :
    codeAny (model prog w) A (.call (.ref fI) ⟨[.ref x, v], []⟩) R s := by
  obtain ⟨oc, od, qn, msg, doc, pm, an, ct, osl, p1, p2, q0, q1, q2, q3, q4, q5, r1, r2, r3, r4, cda, cc, ccl, cl, cdd, cld, vs, ccs, csl, file, tf, ho, hcd, hca, hvs, hfile, hcc, hln⟩ := T.fn
  obtain ⟨nm', q', N, bs, bm, sn, sub, ab, col, dd, k0, k1, k2, k3, k5, hC, hbm⟩ := T.cls
  have hcl : clsIn K C = some { name := nm', bases := bs, mro := .ref C :: bm, ns := N, qualname := q', hasDict := true, slotNames := sn, subclasses := sub, abstract := ab, collection := col, hasDel := false } := by unfold clsIn; rw [hC] <;> rfl
  have hnn : ∀ x ∈ (iS ("at" : Str)).names, x.2 ≠ .cell := by decide
  have lS : (iS ("at" : Str)).names.lookup ("self" : Str) = some .local := rfl
  have lF : (iS ("at" : Str)).names.lookup ("at" : Str) = some .local := rfl
  have lC : (iS ("at" : Str)).names.lookup ("__class__" : Str) = some .free := rfl
  have lU : (iS ("at" : Str)).names.lookup ("super" : Str) = some .globalImplicit := rfl
  have hdb : (("at" : Str) == ("__debug__" : Str)) = false := by decide
  refine ks_codeAny_call_defAt (body := iB ("at" : Str) msg q0 q1 q2 q3 q4 q5 r1 r2 r3 r4) (binds := [("self", .ref x), (("at" : Str), v)]) hroom (X _ _ ho) rfl hlim (codeRec_of X hcd) rfl (BindsTo.of_eq (by first | rfl | with_unfolding_all rfl)) hnn ?_ (fun h₁ hns hk₁ => ?_) rfl rfl rfl
  · intro y hy
    simp only [List.mem_cons, List.not_mem_nil, or_false] at hy
    rcases hy with rfl | rfl
    · exact lS
    · exact lF
  obtain ⟨mb, hB, hBv⟩ := B
  have X₁ : K.In h₁ := X.keeps hk₁
  have hx₁ := hk₁ _ _ hx
  have hxL : s.heap.objs.size ≠ x := Nat.ne_of_gt (Heap.lt_size hx)
  have hvS : ([("self", .ref x), (("at" : Str), v)] : List (Str × Value)).reverse.lookup ("self" : Str) = some (.ref x) := rfl
  have hvF : ([("self", .ref x), (("at" : Str), v)] : List (Str × Value)).reverse.lookup ("at" : Str) = some v := rfl
  refine ks_wpAt_execs_cons (ks_wpAt_Expr_any (ks_wpAt_MethodCall ?_ (call_line hln)))
  refine ks_wpAt_super_base (env := ksEnv qn (iS ("at" : Str)) s.heap.objs.size fI (.ref cda) cc) lU lC rfl rfl (X₁ _ _ ho) rfl rfl rfl (X₁ _ _ hca) rfl hvs hfile T.nP ?_
  refine ks_loadName_global rfl lU (loadGlobal_builtin (env := ksEnv qn (iS ("at" : Str)) s.heap.objs.size fI (.ref cda) cc) (G.keeps hk₁) T.nS (hB.keeps hk₁) ((hBv _ (by decide)).trans rfl) ⟨rfl, ?_⟩)
  refine wpAny_loadName_free rfl lC rfl ⟨_, X₁ _ _ hcc, rfl⟩ ?_
  refine wpAny_loadName_local rfl lS hns hvS ?_
  have hC₁ := X₁ _ _ hC
  refine ks_wpAny_isType_cls hC₁ rfl ⟨rfl, ?_⟩
  refine ks_wpAny_call_super hC₁ rfl hx₁ rfl (fun c e => by cases e) (looks_mroIn X₁ T.slf) (fun h₂ e₂ k₂ => ?_)
  have X₂ : K.In h₂ := X₁.keeps k₂
  have I₂ : InstAt h₂ x (excO C t0) C none := ⟨k₂ _ _ hx₁, rfl, rfl, trivial⟩
  have hsup : alongIn K "__init__" (((.ref C :: bm).dropWhile (· != .ref C)).drop 1) = some (some (.builtin "ValueError.__init__")) := by
    have := T.sup
    unfold ks_superIn at this
    rw [hcl, Option.bind_some] at this
    exact this
  refine kxs_getMethod kxs_ValueError e₂ (looks_opaque X₂ T.tp) (l₀ := .ref C :: bm) ?_ rfl X₂ hsup (I₂.type.andThen (looks_subIn X₂ T.vaC)) (ks_ne X₂ I₂ hcl) (by decide) ?_
  · exact fun A Q E s k q => wpAny_bind ((looks_clsIn X₂ hcl) A _ E s k (wpAny_pure q))
  have hw : (h₂.push (kxs_mw "ValueError.__init__" x)).get? h₂.objs.size = some (kxs_mw "ValueError.__init__" x) := Heap.get?_push_at rfl rfl
  have k₃ : ∀ b o, h₂.get? b = some o → (h₂.push (kxs_mw "ValueError.__init__" x)).get? b = some o := fun b o e => Heap.get?_push_of_some _ e
  have X₃ : K.In (h₂.push (kxs_mw "ValueError.__init__" x)) := X₂.keeps k₃
  have hx₃ := k₃ _ _ (k₂ _ _ hx₁)
  refine kxs_callWith (i := "ValueError.__init__") (x := x) rfl (evalArgs_plain ?_)
  refine spliced_cons (Constant_str (k := 0) (pos := q3) ?_)
  refine spliced_nil ?_
  refine ⟨hw, ?_⟩
  refine call_mw (X₃ _ _ hC) hx₃ hw (one_size _) fun h₄ t1 k₄ hx₄ => ?_
  show _root_.PySem.wpAt _ _ _ (execs [.Assign [.Attribute (.Name "self" r1) ("at" : Str) r2] (.Name ("at" : Str) r3) r4] _) _ _ _
  have kk : ∀ b o, b ≠ x → h₁.get? b = some o → h₄.get? b = some o := fun b o hb e => k₄ b o hb (k₃ _ _ (k₂ _ _ e))
  have X₄ : K.In h₄ := kept_but X₁ hnx kk
  have hns₄ : h₄.Ns s.heap.objs.size (fun y => ([("self", .ref x), (("at" : Str), v)] : List (Str × Value)).reverse.lookup y) := hns.at fun o q => kk _ o hxL q
  refine wpAt_of_wpAny (wpAny_execs_cons (plainObj_wpAny_Assign_Attribute ?_))
  refine wpAny_Name (wpAny_loadName_local rfl lF hns₄ hvF ?_) hdb
  refine wpAny_Name (wpAny_loadName_local rfl lS hns₄ hvS ?_) (by decide)
  refine set_plain X₄ (ox := excO C t1) (od := none) ⟨hx₄, rfl, rfl, trivial⟩ T.sa ?_
  refine exc_osa X₄ hx₄ hcl (show refsVE (.ref C :: bm) = true from hbm) rfl T.noN (fun h₅ tk₅ dx k₅ dn dne hx₅ hn₅ => ?_)
  show wpAny _ _ (execs _ _) _ _ _
  have z : s.heap.objs.size < h₄.objs.size := hns₄.lt
  exact wpAny_execs_nil (hq h₅ tk₅ dx t1 ⟨fun b o hb e => k₅ b o hb (kk b o hb (hk₁ b o e)), hx₅, Nat.le_of_lt (Nat.lt_of_lt_of_le z dn), dne, hn₅⟩)
theorem own_init_value (T : OwnTxt prog K mg nm ("value" : Str) C fI) {x t0 : Addr} {v : Value} (X : K.In s.heap) (G : s.heap.Ns mainGlobals mg) (B : ∃ mb, s.heap.Ns builtinsNs mb ∧ ∀ x : Str, x ≠ "__name__" → mb x = bootBuiltins x) (hlim : s.heap.NoLimit) (hx : s.heap.get? x = some (excO C t0)) (hnx : K.lookup x = none) (hroom : A.depth < recursionLimit)
    (hq : ∀ h' tk dx t1, InitEnd s.heap h' x C dx t1 ("value" : Str) v → R (.ok (.ret .none)) { s with heap := h', toks := tk }) :
    codeAny (model prog w) A (.call (.ref fI) ⟨[.ref x, v], []⟩) R s := by
  obtain ⟨oc, od, qn, msg, doc, pm, an, ct, osl, p1, p2, q0, q1, q2, q3, q4, q5, r1, r2, r3, r4, cda, cc, ccl, cl, cdd, cld, vs, ccs, csl, file, tf, ho, hcd, hca, hvs, hfile, hcc, hln⟩ := T.fn
  obtain ⟨nm', q', N, bs, bm, sn, sub, ab, col, dd, k0, k1, k2, k3, k5, hC, hbm⟩ := T.cls
  have hcl : clsIn K C = some { name := nm', bases := bs, mro := .ref C :: bm, ns := N, qualname := q', hasDict := true, slotNames := sn, subclasses := sub, abstract := ab, collection := col, hasDel := false } := by unfold clsIn; rw [hC] <;> rfl
  have hnn : ∀ x ∈ (iS ("value" : Str)).names, x.2 ≠ .cell := by decide
  have lS : (iS ("value" : Str)).names.lookup ("self" : Str) = some .local := rfl
  have lF : (iS ("value" : Str)).names.lookup ("value" : Str) = some .local := rfl
  have lC : (iS ("value" : Str)).names.lookup ("__class__" : Str) = some .free := rfl
  have lU : (iS ("value" : Str)).names.lookup ("super" : Str) = some .globalImplicit := rfl
  have hdb : (("value" : Str) == ("__debug__" : Str)) = false := by decide
  refine ks_codeAny_call_defAt (body := iB ("value" : Str) msg q0 q1 q2 q3 q4 q5 r1 r2 r3 r4) (binds := [("self", .ref x), (("value" : Str), v)]) hroom (X _ _ ho) rfl hlim (codeRec_of X hcd) rfl (BindsTo.of_eq (by first | rfl | with_unfolding_all rfl)) hnn ?_ (fun h₁ hns hk₁ => ?_) rfl rfl rfl
  · intro y hy
    simp only [List.mem_cons, List.not_mem_nil, or_false] at hy
    rcases hy with rfl | rfl
    · exact lS
    · exact lF
  obtain ⟨mb, hB, hBv⟩ := B
  have X₁ : K.In h₁ := X.keeps hk₁
  have hx₁ := hk₁ _ _ hx
  have hxL : s.heap.objs.size ≠ x := Nat.ne_of_gt (Heap.lt_size hx)
  have hvS : ([("self", .ref x), (("value" : Str), v)] : List (Str × Value)).reverse.lookup ("self" : Str) = some (.ref x) := rfl
  have hvF : ([("self", .ref x), (("value" : Str), v)] : List (Str × Value)).reverse.lookup ("value" : Str) = some v := rfl
  refine ks_wpAt_execs_cons (ks_wpAt_Expr_any (ks_wpAt_MethodCall ?_ (call_line hln)))
  refine ks_wpAt_super_base (env := ksEnv qn (iS ("value" : Str)) s.heap.objs.size fI (.ref cda) cc) lU lC rfl rfl (X₁ _ _ ho) rfl rfl rfl (X₁ _ _ hca) rfl hvs hfile T.nP ?_
  refine ks_loadName_global rfl lU (loadGlobal_builtin (env := ksEnv qn (iS ("value" : Str)) s.heap.objs.size fI (.ref cda) cc) (G.keeps hk₁) T.nS (hB.keeps hk₁) ((hBv _ (by decide)).trans rfl) ⟨rfl, ?_⟩)
  refine wpAny_loadName_free rfl lC rfl ⟨_, X₁ _ _ hcc, rfl⟩ ?_
  refine wpAny_loadName_local rfl lS hns hvS ?_
  have hC₁ := X₁ _ _ hC
  refine ks_wpAny_isType_cls hC₁ rfl ⟨rfl, ?_⟩
  refine ks_wpAny_call_super hC₁ rfl hx₁ rfl (fun c e => by cases e) (looks_mroIn X₁ T.slf) (fun h₂ e₂ k₂ => ?_)
  have X₂ : K.In h₂ := X₁.keeps k₂
  have I₂ : InstAt h₂ x (excO C t0) C none := ⟨k₂ _ _ hx₁, rfl, rfl, trivial⟩
  have hsup : alongIn K "__init__" (((.ref C :: bm).dropWhile (· != .ref C)).drop 1) = some (some (.builtin "ValueError.__init__")) := by
    have := T.sup
    unfold ks_superIn at this
    rw [hcl, Option.bind_some] at this
    exact this
  refine kxs_getMethod kxs_ValueError e₂ (looks_opaque X₂ T.tp) (l₀ := .ref C :: bm) ?_ rfl X₂ hsup (I₂.type.andThen (looks_subIn X₂ T.vaC)) (ks_ne X₂ I₂ hcl) (by decide) ?_
  · exact fun A Q E s k q => wpAny_bind ((looks_clsIn X₂ hcl) A _ E s k (wpAny_pure q))
  have hw : (h₂.push (kxs_mw "ValueError.__init__" x)).get? h₂.objs.size = some (kxs_mw "ValueError.__init__" x) := Heap.get?_push_at rfl rfl
  have k₃ : ∀ b o, h₂.get? b = some o → (h₂.push (kxs_mw "ValueError.__init__" x)).get? b = some o := fun b o e => Heap.get?_push_of_some _ e
  have X₃ : K.In (h₂.push (kxs_mw "ValueError.__init__" x)) := X₂.keeps k₃
  have hx₃ := k₃ _ _ (k₂ _ _ hx₁)
  refine kxs_callWith (i := "ValueError.__init__") (x := x) rfl (evalArgs_plain ?_)
  refine spliced_cons (Constant_str (k := 0) (pos := q3) ?_)
  refine spliced_nil ?_
  refine ⟨hw, ?_⟩
  refine call_mw (X₃ _ _ hC) hx₃ hw (one_size _) fun h₄ t1 k₄ hx₄ => ?_
  show _root_.PySem.wpAt _ _ _ (execs [.Assign [.Attribute (.Name "self" r1) ("value" : Str) r2] (.Name ("value" : Str) r3) r4] _) _ _ _
  have kk : ∀ b o, b ≠ x → h₁.get? b = some o → h₄.get? b = some o := fun b o hb e => k₄ b o hb (k₃ _ _ (k₂ _ _ e))
  have X₄ : K.In h₄ := kept_but X₁ hnx kk
  have hns₄ : h₄.Ns s.heap.objs.size (fun y => ([("self", .ref x), (("value" : Str), v)] : List (Str × Value)).reverse.lookup y) := hns.at fun o q => kk _ o hxL q
  refine wpAt_of_wpAny (wpAny_execs_cons (plainObj_wpAny_Assign_Attribute ?_))
  refine wpAny_Name (wpAny_loadName_local rfl lF hns₄ hvF ?_) hdb
  refine wpAny_Name (wpAny_loadName_local rfl lS hns₄ hvS ?_) (by decide)
  refine set_plain X₄ (ox := excO C t1) (od := none) ⟨hx₄, rfl, rfl, trivial⟩ T.sa ?_
  refine exc_osa X₄ hx₄ hcl (show refsVE (.ref C :: bm) = true from hbm) rfl T.noN (fun h₅ tk₅ dx k₅ dn dne hx₅ hn₅ => ?_)
  show wpAny _ _ (execs _ _) _ _ _
  have z : s.heap.objs.size < h₄.objs.size := hns₄.lt
  exact wpAny_execs_nil (hq h₅ tk₅ dx t1 ⟨fun b o hb e => k₅ b o hb (kk b o hb (hk₁ b o e)), hx₅, Nat.le_of_lt (Nat.lt_of_lt_of_le z dn), dne, hn₅⟩)
theorem own_init (T : OwnTxt prog K mg nm fld C fI) {x t0 : Addr} {v : Value} (X : K.In s.heap) (G : s.heap.Ns mainGlobals mg) (B : ∃ mb, s.heap.Ns builtinsNs mb ∧ ∀ x : Str, x ≠ "__name__" → mb x = bootBuiltins x) (hlim : s.heap.NoLimit) (hx : s.heap.get? x = some (excO C t0)) (hnx : K.lookup x = none) (hroom : A.depth < recursionLimit)
    (hq : ∀ h' tk dx t1, InitEnd s.heap h' x C dx t1 fld v → R (.ok (.ret .none)) { s with heap := h', toks := tk }) :
    codeAny (model prog w) A (.call (.ref fI) ⟨[.ref x, v], []⟩) R s := by
  rcases T.nf with rfl | rfl
  · exact own_init_at T X G B hlim hx hnx hroom hq
  · exact own_init_value T X G B hlim hx hnx hroom hq
theorem own_made (T : OwnTxt prog K mg nm fld C fI) {v : Value} (X : K.In s.heap) (G : s.heap.Ns mainGlobals mg) (B : ∃ mb, s.heap.Ns builtinsNs mb ∧ ∀ x : Str, x ≠ "__name__" → mb x = bootBuiltins x) (hlim : s.heap.NoLimit) (hroom : A.depth + 1 < recursionLimit)
    (hq : ∀ h' tk e d, OwnMade s.heap h' e C d fld v → R (.ok (.ret (.ref e))) { s with heap := h', toks := tk }) :
    codeAny (model prog w) A (.call (.ref C) ⟨[v], []⟩) R s := by
  obtain ⟨nm', q, N, bs, bm, sn, sub, ab, col, dd, k0, k1, k2, k3, k5, hC, hbm⟩ := T.cls
  obtain ⟨hp, g, dr, tk, os⟩ := s
  have k : ∀ b o, hp.get? b = some o → ((hp.push (kdv_tup [v])).push (excO C hp.objs.size)).get? b = some o := fun b o e => Heap.get?_push_of_some _ (Heap.get?_push_of_some _ e)
  have hget : ((hp.push (kdv_tup [v])).push (excO C hp.objs.size)).get? (hp.objs.size + 1) = some (excO C hp.objs.size) := by heap_get
  have hnx : K.lookup (hp.objs.size + 1) = none := by
    cases e : K.lookup (hp.objs.size + 1) with
    | none => rfl
    | some o =>
      have z : hp.get? (hp.objs.size + 1) = some o := X _ _ e
      exact absurd (Nat.lt_of_succ_lt (Heap.lt_size z)) (Nat.lt_irrefl _)
  obtain ⟨mb, hB, hBv⟩ := B
  refine call_own F.excBase_ValueError (fun X => refsVE_contains X bm hbm) (X _ _ hC) (looks_findIn X T.iC) (fun self => bind_fn X self T.tC) (one_size v) ?_
  refine own_init (s := ⟨(hp.push (kdv_tup [v])).push (excO C hp.objs.size), g, dr, tk, os⟩) T (X.keeps k) (G.keeps k) ⟨mb, hB.keeps k, hBv⟩ (hlim.keeps k) hget hnx ?_ fun h' tk' dx t1 ⟨k', hx, dn, dne, hns⟩ => ?_
  · show A.depth + 1 < recursionLimit
    exact hroom
  · have old : ∀ b o, hp.get? b = some o → h'.get? b = some o := fun b o e => k' b o (Nat.ne_of_lt (Nat.lt_succ_of_lt (Heap.lt_size e))) (k b o e)
    have z : hp.objs.size + 1 + 1 ≤ dx := by
      first
        | (simpa only [Heap.size_push] using dn)
        | exact dn
        | (have q := dn; rw [Heap.size_push, Heap.size_push] at q; exact q)
    exact ⟨rfl, hq h' tk' (hp.objs.size + 1) dx ⟨old, Nat.le_succ _, ⟨_, _, hx, rfl, rfl, rfl, rfl, rfl⟩, Nat.le_trans (Nat.le_trans (Nat.le_succ _) (Nat.le_succ _)) z, dne, hns⟩⟩
end
end EngX
namespace L2
open PySem PySem.Spec PyProof.Rows EngX
theorem relO_own {v : V} {v' : Value} {fld : Str} (r : RelV v v') (f : Str) : RelO (List.lookup f [(fld, v)]) (if f = fld then some v' else none) := by
  by_cases hw : f = fld
  · subst hw
    rw [if_pos rfl]
    have q : List.lookup f [(f, v)] = some v := by simp [List.lookup]
    rw [q]
    exact r
  · rw [if_neg hw]
    have qw : (f == fld) = false := by simpa using hw
    have q2 : List.lookup f [(fld, v)] = none := by simp [List.lookup, qw]
    rw [q2]
    trivial
section
variable {X : Cx} {C fI : Addr} {fld nm : Str}
/-- NAME(e), NAME an own error -/
def tMkOwn (C : Addr) (fld : Str) (ta : TA) : St → Hp → XK → Prop := fun σ H Q => ta σ H fun vs H1 => ∃ v, vs = [v] ∧ ∀ d, H1 d = none → Q (.ref C) (some d) (upd H1 d (.xd [(fld, v)]))
theorem pmk_ownX {a : Expr} {ta : TA} {p pos : Pos} {k : Nat} (T : OwnTxt X.prog X.K X.mg nm fld C fI) (hr : Room k X.A) (ha : PA X [a] ta) (hg : Gl X nm) (hdb : (nm == ("__debug__" : Str)) = false)
    (he : starEach (a :: []) X.env = (false, eval a X.env) :: starEach [] X.env) (hpl : (backTo pos (starEach [] X.env)).any (·.1) = false := by rfl) :
    PMk X (.Call (.Name nm p) [a] [] pos) (tMkOwn C fld ta) := by
  intro pins s σ H Q I h
  refine wpAny_Call_Name_kw (ld_glob I hg T.gC ?_ hdb)
  refine PySem.W.callWith_K (h₀ := X.base) I.ok.mod.kin T.kC (thn (ha.run pos pins s σ H _ I h) fun us s1 hh => ?_) he hpl
  obtain ⟨vs, H1, I1, r1, v, ev, q1⟩ := hh
  subst ev
  refine ⟨I1.kIn, ?_⟩
  cases r1 with
  | cons rv rn =>
    rename_i v' us'
    cases rn
    show wpAny _ _ (call (.ref C) [v']) _ _ _
    have hlim := I1.nolimit
    have hG := I1.ok.mod.glob.keeps I1.bk
    obtain ⟨mb, hB, hBv⟩ := I1.ok.mod.blt
    have hB1 := hB.keeps I1.bk
    obtain ⟨hp, g, dr, tk, os⟩ := s1
    refine wpAny_call (own_made T I1.kIn hG ⟨mb, hB1, hBv⟩ hlim (by have := hr.dp; omega) fun h' tk' e d M => ?_)
    show MkP X pins σ Q (.ref e) ⟨h', g, dr, tk', os⟩
    obtain ⟨oe, fv, hoe, hc, hd, hdat, h1, h2⟩ := M.obj
    have hns := M.ns
    obtain ⟨G', g1, g2⟩ := restrict h' fun b => decide (b ≠ e)
    have gk : ∀ b, b ≠ e → G'.get? b = h'.get? b := fun b hb => g1 b (decide_eq_true hb)
    have ge : G'.get? e = none := g2 e (by simp)
    have old : ∀ b o, hp.get? b = some o → G'.get? b = some o := fun b o q => (gk b (Nat.ne_of_lt (Nat.lt_of_lt_of_le (Heap.lt_size q) M.new))).trans (M.keep b o q)
    have ob : ObjOk X.prog X.w (upd H1 d (.xd [(fld, v)])) G' d (.xd [(fld, v)]) :=
      ⟨_, hns.at (fun o q => (gk d M.dne).trans q), fun f => relO_own rv f⟩
    have J : Inv X pins σ (upd H1 d (.xd [(fld, v)])) ⟨G', g, dr, tk', os⟩ := I1.laid (t' := tk') old M.dbig ob
    refine ⟨e, oe, fv, ⟨G', g, dr, tk', os⟩, _, .ref C, some d, rfl, J, fun b o q => ?_, ge, hoe, ⟨hc, hd⟩, hdat, h1, ?_, rfl, I1.bare, raises_own T.exC T.tyC, q1 d (I1.hok.fresh M.dbig)⟩
    · by_cases hb : b = e
      · have q' : G'.get? b = some o := q
        rw [hb, ge] at q'; cases q'
      · exact (gk b hb).symm.trans q
    · rw [upd_ne (Ne.symm M.dne)]
      exact I1.hok.fresh M.new
/-- raise NAME(e) -/
def tRaiseOwn (C : Addr) (fld : Str) (W : WX) (ta : TA) : TS := fun _ σ H => tMkOwn C fld ta σ H fun cls d H' => W cls d σ H'
theorem ps_raiseOwn {a : Expr} {ta : TA} {W : WX} {p pos pos2 : Pos} {k : Nat} (hc : X.calm = true) (T : OwnTxt X.prog X.K X.mg nm fld C fI) (hr : Room k X.A) (tk : Takes X W) (ha : PA X [a] ta) (hg : Gl X nm) (hdb : (nm == ("__debug__" : Str)) = false)
    (he : starEach (a :: []) X.env = (false, eval a X.env) :: starEach [] X.env) (hpl : (backTo pos (starEach [] X.env)).any (·.1) = false := by rfl) :
    PS X (.Raise (some (.Call (.Name nm p) [a] [] pos)) none pos2) (tRaiseOwn C fld W ta) := ps_raise hc tk (pmk_ownX T hr ha hg hdb he hpl)
end
end L2

set_option Elab.async false
set_option linter.all false
set_option maxRecDepth 100000
set_option maxHeartbeats 1000000
/-! isinstance of a caught error that has a field. -/
namespace L2
open PySem PySem.Spec PyProof.Rows
structure IsxC (K : PySem.W.Frag) (D : Addr) : Prop where
  cl : (PySem.W.clsIn K D).isSome = true
  hg : PySem.W.findIn K (.ref D) "__getattribute__" = some (some (.builtin "BaseException.__getattribute__"))
  hk : PySem.W.findIn K (.ref D) "__getattr__" = some none
  hs : PySem.W.subIn K (.ref D) (.type "BaseException") = some true
  ha : PySem.W.findIn K (.ref D) "__class__" = some (some (.builtin "object.__class__"))
  hn : PySem.W.specialIn K (.builtin "object.__class__") "__get__" = some (some (.builtin "getset_descriptor.__get__"))
  ht : PySem.W.takesIn K (.builtin "object.__class__") = some true
  hm : PySem.W.mroIn K D (.type "object") = some true
/-- isinstance(e, c), e the error that the suite holds, with a dict of its own -/
def rIsX (K : PySem.W.Frag) (D a : Addr) (d : Option Addr) : List V → Hp → VK → Prop := fun xs H Q => ∃ (c : V) (cv : Value) (b : Bool) (dd : Addr) (fs : List (Str × V)), xs = [.ref a, c] ∧ d = some dd ∧ H dd = some (.xd fs) ∧ (∀ u, RelV c u → u = cv) ∧ PySem.W.kitOne K (.ref D) cv = some b ∧ Q (.bl b) H
theorem call_isX {X : Cx} {a D : Addr} {d : Option Addr} {oe : Obj} {pn : List (Addr × Obj)} (C : IsxC X.K D) (hz : Zc (.ref D) d oe) (hf : ∃ vs, oe.data = .fields vs) : CallR (X.suite a ((a, oe) :: pn)) (.builtin "isinstance") (rIsX X.K D a d) := by
  intro pins s σ H xs us Q I r h
  obtain ⟨c, cv, b, dd, fs, rfl, rfl, hx, hcv, e, q⟩ := h
  cases r with
  | cons rx rr =>
    cases rr with
    | cons rt rr =>
      cases rr
      cases rx
      have ec := hcv _ rt
      subst ec
      obtain ⟨hget, _⟩ := I.pin (a, oe) (List.mem_append.mpr (.inl List.mem_cons_self))
      obtain ⟨vs, hv⟩ := hf
      obtain ⟨mA, hns, hr⟩ := I.hok dd _ hx
      obtain ⟨od, ho, hl⟩ := lookIn_ns hns
      have J : PySem.W.InstAt s.heap a oe D (some od) := ⟨hget, hz.1, by unfold PySem.W.notCls; rw [hv] <;> rfl, by rw [hz.2]; exact ho⟩
      exact PySem.W.kia_one (PySem.W.kitx_exc C.cl C.hg C.hk C.hs C.ha C.hn C.ht C.hm) I.kIn J e (fun z => nomatch z) fun tk => ⟨.bl b, H, I.kept (t' := tk) fun _ _ z => z, rfl, q⟩
end L2

set_option Elab.async false
set_option linter.all false
set_option maxRecDepth 100000
/-! The evaluator: statements, defs, a program. -/
namespace Eng
open PySem
noncomputable section

def augVal : BinO → PyData → PyData → Option PyData
  | .add, .int i, .int j => some (.int (i + j))
  | .sub, .int i, .int j => some (.int (i - j))
  | .mul, .int i, .int j => @ite _ (L2.CMul i j) (Classical.propDecidable _) (some (.int (i * j))) none
  | .fdiv, .int i, .int j => @ite _ (L2.CDivW i j) (Classical.propDecidable _) (some (.int (i / j))) none
  | _, _, _ => none
mutual
inductive HE where
  | cst (d : PyData) | fld | var (j : Nat) | rep (e : HE) | isx (D : Str) (b : Bool) | tup (es : HEs) | lst (es : HEs) | cmp (o : CmpO) (a b : HE) | and (a b : HE) | nt (a : HE)
inductive HEs where
  | nil | cons (e : HE) (es : HEs)
end
inductive HB where
  | ne (a b : HE) | eq (a b : HE) | not (b : HB) | or (a b : HB) | isx (D : Str) (b : Bool)
inductive HS where
  | ife (b : HB) (e : HE) | ret (e : HE)
/-- a try's body: e; e, then return d; return e -/
inductive TM where
  | ex | exr (d : PyData) | rt
mutual
inductive S where
  | asg (i : Nat) (e : E)
  | own (i : Nat) (e : E)
  | frz (i : Nat)
  | asgT (ts : List Tg) (e : E)
  | par2 (i j : Nat) (a b : E)
  | par2o (i j : Nat) (a b : E)
  | par1o (i j : Nat) (a b : E)
  | par2oo (i j : Nat) (a b : E)
  | asgTo (i j : Nat) (a b : E)
  | par3o (i j l : Nat) (a b c : E)
  | augO (i : Nat) (ix : E) (o : BinO) (e : E)
  | setO (i : Nat) (ix e : E)
  | setOP (i : Nat) (ix : E) (j : Nat) (e : E)
  | setM (r ix e : E)
  | app (i : Nat) (e : E)
  | ext (i : Nat) (e : E)
  | setO2 (i : Nat) (ix ix2 e : E)
  | popO (i j : Nat)
  | aug (i : Nat) (o : BinO) (e : E)
  | expr (e : E)
  | ife (c : E) (t f : Ss)
  | for_ (tg : Tg) (it : It) (body : Ss)
  | whl (c : E) (body : Ss)
  | ret (e : E)
  | retN
  | brk | cnt | pass
  | raise (c : Nat) (e : E)
  | tryX (md : TM) (e : E) (i k : Nat) (hs : List HS)
inductive Ss where
  | nil | cons (s : S) (ss : Ss)
end
inductive F where
  | nx | brk | cnt | ret (u : U)

mutual
def hE : HE → PyData → Env → Option PyData
  | .cst d, _, _ => some d
  | .fld, x, _ => some x
  | .var j, _, σ => match σ[j]? with
    | some (.v (.dat d)) => some d
    | _ => none
  | .rep e, x, σ => (hE e x σ).bind (b1Val .repr)
  | .isx _ b, _, _ => some (.bool b)
  | .tup es, x, σ => (hEs es x σ).map .tuple
  | .lst es, x, σ => (hEs es x σ).map .list
  | .cmp o a b, x, σ => (hE a x σ).bind fun d => (hE b x σ).bind fun e => cmpVal o d e
  | .and a b, x, σ => (hE a x σ).bind fun d => match d with
    | .bool true => hE b x σ
    | .bool false => some (.bool false)
    | _ => none
  | .nt a, x, σ => (hE a x σ).bind fun d => match d with
    | .bool c => some (.bool (!c))
    | _ => none
def hEs : HEs → PyData → Env → Option (List PyData)
  | .nil, _, _ => some []
  | .cons e es, x, σ => (hE e x σ).bind fun d => (hEs es x σ).map (d :: ·)
end
def boolD : PyData → Option Bool
  | .bool b => some b
  | _ => none
def hB : HB → PyData → Env → Option Bool
  | .ne a b, x, σ => (hE a x σ).bind fun d => (hE b x σ).bind fun e => (cmpVal .ne d e).bind boolD
  | .eq a b, x, σ => (hE a x σ).bind fun d => (hE b x σ).bind fun e => (cmpVal .eq d e).bind boolD
  | .not b, x, σ => (hB b x σ).map (!·)
  | .or a b, x, σ => (hB a x σ).bind fun c => if c = true then some true else hB b x σ
  | .isx _ b, _, _ => some b
def hSs : List HS → PyData → Env → Option F
  | [], _, _ => some .nx
  | .ife b e :: r, x, σ => (hB b x σ).bind fun c => if c = true then (hE e x σ).map fun d => F.ret (.dat d) else hSs r x σ
  | .ret e :: _, x, σ => (hE e x σ).map fun d => F.ret (.dat d)
/-- the name of the error is forgotten -/
def clrS (σ : Env) (i : Nat) : Option Env := match σ[i]? with
  | some (.own _) => none
  | some _ => some (σ.set i .no)
  | none => none
def tryGo (md : TM) (i k : Nat) (hs : List HS) (σ : Env) (r : R U) : R (F × Env) := match r with
  | .ok u m => match md with
    | .ex => .ok (.nx, σ) m
    | .exr d => .ok (.ret (.dat d), σ) m
    | .rt => .ok (.ret u, σ) m
  | .exc c x m => if c = k then
      match x with
      | .dat d => match clrS σ i with
        | some σ' => match hSs hs d σ' with
          | some fl => .ok (fl, σ') m
          | none => .bad
        | none => .bad
      | _ => .bad
    else .exc c x m
  | .bad => .bad
def forGo (body : Env → Mem → R (F × Env)) (tg : Tg) : List PyData → Env → Mem → R (F × Env)
  | [], σ, m => .ok (.nx, σ) m
  | d :: ds, σ, m =>
    match asgTg tg d σ with
    | none => .bad
    | some σ' => (body σ' m).bind fun x m1 => match x.1 with
      | .nx => forGo body tg ds x.2 m1
      | .cnt => forGo body tg ds x.2 m1
      | .brk => .ok (.nx, x.2) m1
      | .ret u => .ok (.ret u, x.2) m1
def whlGo (c : Env → Mem → R U) (body : Env → Mem → R (F × Env)) : Nat → Env → Mem → R (F × Env)
  | 0, _, _ => .bad
  | n + 1, σ, m => ((c σ m).bind asB).bind fun b m1 => if b = true then (body σ m1).bind fun x m2 => match x.1 with
        | .nx => whlGo c body n x.2 m2
        | .cnt => whlGo c body n x.2 m2
        | .brk => .ok (.nx, x.2) m2
        | .ret u => .ok (.ret u, x.2) m2
      else .ok (.nx, σ) m1
def setE (σ : Env) (i : Nat) (s : Sl) : Option Env := if i < σ.length then some (σ.set i s) else none

def setOGo (σ : Env) (i : Nat) (xs : List PyData) (u y : U) (m : Mem) : R (F × Env) := match u, y with
  | .dat d, .dat (.int k) => match L2.ixN xs.length k with
    | some j => .ok (.nx, σ.set i (.own (xs.set j d))) m
    | none => .bad
  | _, _ => .bad
def appGo (σ : Env) (i : Nat) (xs : List PyData) (u : U) (m : Mem) : R (F × Env) := match u with
  | .dat d => @ite _ (xs.length < sizeLine) (Classical.propDecidable _) (.ok (.nx, σ.set i (.own (xs ++ [d]))) m) .bad
  | _ => .bad
def extGo (σ : Env) (i : Nat) (xs : List PyData) (u : U) (m : Mem) : R (F × Env) := match u with
  | .dat (.list ys) => @ite _ (xs.length + ys.length ≤ sizeLine) (Classical.propDecidable _) (.ok (.nx, σ.set i (.own (xs ++ ys))) m) .bad
  | _ => .bad
def setO2Go (σ : Env) (i : Nat) (d2 : PyData) (f : Env → Mem → R U) (x : F × Env) (m : Mem) : R (F × Env) := match x.2[i]? with
  | some (.own ys) => (f x.2 m).bind fun y m1 => setOGo x.2 i ys (.dat d2) y m1
  | _ => .bad
def popGo (σ : Env) (i j : Nat) (xs : List PyData) (m : Mem) : R (F × Env) := match xs.getLast? with
  | some d => if i = j then .bad else match setE (σ.set j (.own xs.dropLast)) i (.v (.dat d)) with
    | some σ' => .ok (.nx, σ') m
    | none => .bad
  | none => .bad
def augGo (σ : Env) (i : Nat) (o : BinO) (d : PyData) (u : U) (m : Mem) : R (F × Env) := match u with
  | .dat d' => match augVal o d d' with
    | some z => .ok (.nx, σ.set i (.v (.dat z))) m
    | none => .bad
  | _ => .bad
def ixO (xs : List PyData) (y : U) : Option (Nat × PyData) := match y with
  | .dat (.int k) => (L2.ixN xs.length k).bind fun j => (xs[j]?).map fun d => (j, d)
  | _ => none
def augOGo (σ : Env) (i : Nat) (o : BinO) (xs : List PyData) (p : Nat × PyData) (u : U) (m : Mem) : R (F × Env) := match u with
  | .dat d' => match augVal o p.2 d' with
    | some z => .ok (.nx, σ.set i (.own (xs.set p.1 z))) m
    | none => .bad
  | _ => .bad
def setMGo (σ : Env) (u x y : U) (m : Mem) : R (F × Env) := match u, x, y with
  | .dat d, .ref q, .dat e => match m[q]? with
    | some (.lst xs) => match e with
      | .int k => match L2.ixN xs.length k with
        | some j => .ok (.nx, σ) (m.set q (.lst (xs.set j d)))
        | none => .bad
      | _ => .bad
    | some (.dct kvs) => match L2.keyOfD e with
      | some k => @ite _ (kvs.length < sizeLine) (Classical.propDecidable _) (.ok (.nx, σ) (m.set q (.dct (L2.putN kvs k d)))) .bad
      | none => .bad
    | _ => .bad
  | _, _, _ => .bad
def setOPGo (σ : Env) (i j : Nat) (xs : List PyData) (d d2 : PyData) (y : U) (m : Mem) : R (F × Env) := match y with
  | .dat (.int k) => match L2.ixN xs.length k with
    | some q => match setE (σ.set i (.own (xs.set q d))) j (.v (.dat d2)) with
      | some σ' => .ok (.nx, σ') m
      | none => .bad
    | none => .bad
  | _ => .bad
mutual
def evS (L : Nat) (C : Calls) : S → Env → Mem → R (F × Env)
  | .asg i e, σ, m => (evE C e σ m).bind fun u m1 => match setE σ i (.v u) with
    | some σ' => .ok (.nx, σ') m1
    | none => .bad
  | .own i e, σ, m => (evE C e σ m).bind fun u m1 => match u with
    | .dat (.list xs) => match setE σ i (.own xs) with
      | some σ' => .ok (.nx, σ') m1
      | none => .bad
    | _ => .bad
  | .frz i, σ, m => match σ[i]? with
    | some (.own xs) => .ok (.nx, σ.set i (.v (.dat (.list xs)))) m
    | some (.v u) => .ok (.nx, σ) m
    | _ => .bad
  | .asgT ts e, σ, m => (evE C e σ m).bind fun u m1 => match u with
    | .dat (.tuple ds) => match asgTgs ts ds σ with
      | some σ' => .ok (.nx, σ') m1
      | none => .bad
    | _ => .bad
  | .par2 i j a b, σ, m => (evE C a σ m).bind fun x m1 => (evE C b σ m1).bind fun y m2 => match (setE σ i (.v x)).bind fun σ' => setE σ' j (.v y) with
    | some σ' => .ok (.nx, σ') m2
    | none => .bad
  | .par2o i j a b, σ, m => (evE C a σ m).bind fun x m1 => (evE C b σ m1).bind fun y m2 => match y with
    | .dat (.list xs) => match (setE σ i (.v x)).bind fun σ' => setE σ' j (.own xs) with
      | some σ' => .ok (.nx, σ') m2
      | none => .bad
    | _ => .bad
  | .par1o i j a b, σ, m => (evE C a σ m).bind fun x m1 => match x with
    | .dat (.list xs) => (evE C b σ m1).bind fun y m2 => match (setE σ i (.own xs)).bind fun σ' => setE σ' j (.v y) with
      | some σ' => .ok (.nx, σ') m2
      | none => .bad
    | _ => .bad
  | .asgTo i j a b, σ, m => (evE C a σ m).bind fun x m1 => match x with
    | .dat (.list xs) => (evE C b σ m1).bind fun y m2 => match (setE σ i (.own xs)).bind fun σ' => setE σ' j (.v y) with
      | some σ' => .ok (.nx, σ') m2
      | none => .bad
    | _ => .bad
  | .par2oo i j a b, σ, m => (evE C a σ m).bind fun x m1 => match x with
    | .dat (.list xs) => (evE C b σ m1).bind fun y m2 => match y with
      | .dat (.list ys) => match (setE σ i (.own xs)).bind fun σ' => setE σ' j (.own ys) with
        | some σ' => .ok (.nx, σ') m2
        | none => .bad
      | _ => .bad
    | _ => .bad
  | .par3o i j l a b c, σ, m => (evE C a σ m).bind fun x m1 => match x with
    | .dat (.list xs) => (evE C b σ m1).bind fun y m2 => (evE C c σ m2).bind fun z m3 => match ((setE σ i (.own xs)).bind fun σ' => setE σ' j (.v y)).bind fun σ' => setE σ' l (.v z) with
      | some σ' => .ok (.nx, σ') m3
      | none => .bad
    | _ => .bad
  | .augO i ix o e, σ, m => match σ[i]? with
    | some (.own xs) => (evE C ix σ m).bind fun y m1 => match ixO xs y with
      | some p => (evE C e σ m1).bind fun u m2 => augOGo σ i o xs p u m2
      | none => .bad
    | _ => .bad
  | .setOP i ix j e, σ, m => (evE C e σ m).bind fun u m1 => match u with
    | .dat (.tuple [d, d2]) => match σ[i]? with
      | some (.own xs) => (evE C ix σ m1).bind fun y m2 => setOPGo σ i j xs d d2 y m2
      | _ => .bad
    | _ => .bad
  | .setO i ix e, σ, m => (evE C e σ m).bind fun u m1 => match σ[i]? with
    | some (.own xs) => (evE C ix σ m1).bind fun y m2 => setOGo σ i xs u y m2
    | _ => .bad
  | .setM r ix e, σ, m => (evE C e σ m).bind fun u m1 => (evE C r σ m1).bind fun x m2 => (evE C ix σ m2).bind fun y m3 => setMGo σ u x y m3
  | .app i e, σ, m => match σ[i]? with
    | some (.own xs) => (evE C e σ m).bind fun u m1 => appGo σ i xs u m1
    | _ => .bad
  | .ext i e, σ, m => match σ[i]? with
    | some (.own xs) => (evE C e σ m).bind fun u m1 => extGo σ i xs u m1
    | _ => .bad
  | .setO2 i ix ix2 e, σ, m => (evE C e σ m).bind fun u m1 => match u with
    | .dat (.tuple [d, d2]) => match σ[i]? with
      | some (.own xs) => ((evE C ix σ m1).bind fun y m2 => setOGo σ i xs (.dat d) y m2).bind (setO2Go σ i d2 (evE C ix2))
      | _ => .bad
    | _ => .bad
  | .popO i j, σ, m => match σ[j]? with
    | some (.own xs) => popGo σ i j xs m
    | _ => .bad
  | .aug i o e, σ, m => match σ[i]? with
    | some (.v (.dat d)) => (evE C e σ m).bind fun u m1 => augGo σ i o d u m1
    | _ => .bad
  | .expr e, σ, m => (evE C e σ m).bind fun _ m1 => .ok (.nx, σ) m1
  | .ife c t f, σ, m => ((evE C c σ m).bind asB).bind fun b m1 => if b = true then evSs L C t σ m1 else evSs L C f σ m1
  | .for_ tg it body, σ, m => (evI C it σ m).bind fun ds m1 => forGo (fun σ m => evSs L C body σ m) tg ds σ m1
  | .whl c body, σ, m => whlGo (fun σ m => evE C c σ m) (fun σ m => evSs L C body σ m) L σ m
  | .ret e, σ, m => (evE C e σ m).bind fun u m1 => .ok (.ret u, σ) m1
  | .retN, σ, m => .ok (.ret (.dat .none), σ) m
  | .brk, σ, m => .ok (.brk, σ) m
  | .cnt, σ, m => .ok (.cnt, σ) m
  | .pass, σ, m => .ok (.nx, σ) m
  | .raise c e, σ, m => (evE C e σ m).bind fun u m1 => .exc c u m1
  | .tryX md e i k hs, σ, m => tryGo md i k hs σ (evE C e σ m)
def evSs (L : Nat) (C : Calls) : Ss → Env → Mem → R (F × Env)
  | .nil, σ, m => .ok (.nx, σ) m
  | .cons s ss, σ, m => (evS L C s σ m).bind fun x m1 => match x.1 with
    | .nx => evSs L C ss x.2 m1
    | _ => .ok x m1
end

/-- a def: its name, how many parameters, its names by slot (parameters first), its body -/
structure FD where
  name : Str
  np : Nat
  N : List Str
  body : Ss
abbrev Prog := Nat → Option FD

def runFD (L : Nat) (C : Calls) (fd : FD) (us : List U) (m : Mem) : R U :=
  if us.length = fd.np then
    (evSs L C fd.body (us.map Sl.v ++ List.replicate (fd.N.length - us.length) .no) m).bind fun x m1 => match x.1 with
      | .ret u => .ok u m1
      | .nx => .ok (.dat .none) m1
      | _ => .bad
  else .bad
def callN (L : Nat) (P : Prog) : Nat → Calls
  | 0 => fun _ _ _ => .bad
  | n + 1 => fun f us m => match P f with
    | some fd => runFD L (callN L P n) fd us m
    | none => .bad
theorem callN_succ {L : Nat} {P : Prog} {n f : Nat} {fd : FD} {us : List U} {m : Mem} (h : P f = some fd) : callN L P (n + 1) f us m = runFD L (callN L P n) fd us m := by
  show (match P f with | some fd => runFD L (callN L P n) fd us m | none => .bad) = _
  rw [h]
end
end Eng

set_option Elab.async false
set_option linter.all false
set_option maxRecDepth 100000
/-! What the evaluator's state is in the abstract heap; how outcomes are handed on. -/
namespace Eng
open PySem PySem.Spec PyProof.Rows L2

def Sub (H H' : Hp) : Prop := ∀ a o, H a = some o → H' a = some o
theorem Sub.refl (H : Hp) : Sub H H := fun _ _ h => h
theorem Sub.trans {H H' H'' : Hp} (a : Sub H H') (b : Sub H' H'') : Sub H H'' := fun x o h => b x o (a x o h)
theorem Sub.new {H : Hp} {p : Addr} {o : HO} (h : H p = none) : Sub H (upd H p o) := fun b x e => by
  rw [upd_ne (ne_of_none e h)]; exact e
theorem Sub.none {H H' : Hp} (s : Sub H H') {p : Addr} (h : H' p = none) : H p = none := by
  cases e : H p with
  | none => rfl
  | some o => rw [s p o e] at h; cases h
end Eng
namespace L2
open PySem PySem.Spec PyProof.Rows Eng
section
variable {K : PySem.W.Frag} {H H' : Hp}
theorem SqL.mono (s : Sub H H') {a : Addr} {xs : List V} (h : SqL K H a xs) : SqL K H' a xs := by
  rcases h with (h | ⟨o, h⟩) | h
  · exact .inl (.inl (s _ _ h))
  · exact .inl (.inr ⟨o, s _ _ h⟩)
  · exact .inr h
theorem SqT.mono (s : Sub H H') {a : Addr} {xs : List V} (h : SqT K H a xs) : SqT K H' a xs := by
  rcases h with (h | ⟨o, h⟩) | h
  · exact .inl (.inl (s _ _ h))
  · exact .inl (.inr ⟨o, s _ _ h⟩)
  · exact .inr h
mutual
theorem Dp.mono (s : Sub H H') : ∀ (d : PyData) (v : V), Dp K H v d → Dp K H' v d
  | .none, _, h => by cases h; exact .non
  | .bool b, _, h => by cases h; exact .bl b
  | .int i, _, h => by cases h; exact .int i
  | .str x, _, h => by cases h; exact .str x
  | .list ds, _, h => by
    cases h with
    | lst hs ha => exact .lst (SqL.mono s hs) (DpAll.mono s ds _ ha)
  | .tuple ds, _, h => by
    cases h with
    | tup hs ha => exact .tup (SqT.mono s hs) (DpAll.mono s ds _ ha)
  | .dict _, _, h => by cases h
theorem DpAll.mono (s : Sub H H') : ∀ (ds : List PyData) (vs : List V), DpAll K H vs ds → DpAll K H' vs ds
  | [], _, h => by cases h; exact .nil
  | d :: ds, _, h => by
    cases h with
    | cons h1 h2 => exact .cons (Dp.mono s d _ h1) (DpAll.mono s ds _ h2)
end
theorem DicAt.mono (s : Sub H H') {es : List (NestedKey × Addr × Value)} {kvs : List (NestedKey × PyData)} (h : DicAt K H es kvs) : DicAt K H' es kvs :=
  Paired.mapP h fun _ _ ⟨h1, h2, h3, h4, h5, v, h6, h7⟩ => ⟨h1, h2, h3, h4, Dp.mono s _ _ h5, v, h6, Dp.mono s _ _ h7⟩
theorem DpAll.len : ∀ {ds : List PyData} {vs : List V}, DpAll K H vs ds → vs.length = ds.length
  | [], _, h => by cases h; rfl
  | d :: ds, _, h => by
    cases h with
    | cons h1 h2 => rw [List.length_cons, List.length_cons, DpAll.len h2]
theorem DpAll.get : ∀ {ds : List PyData} {vs : List V}, DpAll K H vs ds → ∀ {i : Nat} {d : PyData}, ds[i]? = some d → ∃ v, vs[i]? = some v ∧ Dp K H v d
  | [], _, h, i, d, e => by simp at e
  | x :: ds, _, h, i, d, e => by
    cases h with
    | cons h1 h2 =>
      cases i with
      | zero => simp at e; subst e; exact ⟨_, rfl, h1⟩
      | succ i => simp at e; obtain ⟨v, e', h'⟩ := DpAll.get h2 e; exact ⟨v, by simpa using e', h'⟩
theorem DpAll.app : ∀ {ds es : List PyData} {vs ws : List V}, DpAll K H vs ds → DpAll K H ws es → DpAll K H (vs ++ ws) (ds ++ es)
  | [], _, _, _, h, h' => by cases h; exact h'
  | _ :: _, _, _, _, h, h' => by
    cases h with
    | cons h1 h2 => exact .cons h1 (DpAll.app h2 h')
theorem DpAll.drop : ∀ {ds : List PyData} {vs : List V} (n : Nat), DpAll K H vs ds → DpAll K H (vs.drop n) (ds.drop n)
  | _, _, 0, h => h
  | [], _, n + 1, h => by cases h; exact .nil
  | _ :: _, _, n + 1, h => by
    cases h with
    | cons h1 h2 => exact DpAll.drop n h2
theorem DpAll.take : ∀ {ds : List PyData} {vs : List V} (n : Nat), DpAll K H vs ds → DpAll K H (vs.take n) (ds.take n)
  | _, _, 0, h => .nil
  | [], _, n + 1, h => by cases h; exact .nil
  | _ :: _, _, n + 1, h => by
    cases h with
    | cons h1 h2 => exact .cons h1 (DpAll.take n h2)
theorem DpAll.set : ∀ {ds : List PyData} {vs : List V} {d : PyData} {v : V} (n : Nat), DpAll K H vs ds → Dp K H v d → DpAll K H (vs.set n v) (ds.set n d)
  | [], _, _, _, n, h, _ => by cases h; exact .nil
  | _ :: _, _, _, _, 0, h, h' => by
    cases h with
    | cons h1 h2 => exact .cons h' h2
  | _ :: _, _, _, _, n + 1, h, h' => by
    cases h with
    | cons h1 h2 => exact .cons h1 (DpAll.set n h2 h')
theorem DpAll.ints : ∀ {ns : List Int} {ds : List PyData} {vs : List V}, DpAll K H vs ds → asInts ds = some ns → vs = ns.map V.int
  | ns, [], _, h, e => by cases h; simp [asInts] at e; subst e; rfl
  | ns, d :: ds, _, h, e => by
    cases h with
    | cons h1 h2 =>
      cases d with
      | int i =>
        cases h1
        simp only [asInts, Option.map_eq_some_iff] at e
        obtain ⟨r, e, rfl⟩ := e
        rw [DpAll.ints h2 e]; rfl
      | _ => simp [asInts] at e
theorem DpAll.bools : ∀ {ns : List Bool} {ds : List PyData} {vs : List V}, DpAll K H vs ds → asBools ds = some ns → vs = ns.map V.bl
  | ns, [], _, h, e => by cases h; simp [asBools] at e; subst e; rfl
  | ns, d :: ds, _, h, e => by
    cases h with
    | cons h1 h2 =>
      cases d with
      | bool i =>
        cases h1
        simp only [asBools, Option.map_eq_some_iff] at e
        obtain ⟨r, e, rfl⟩ := e
        rw [DpAll.bools h2 e]; rfl
      | _ => simp [asBools] at e
end

end L2
namespace Eng
open PySem PySem.Spec PyProof.Rows L2
/-! ### sizes -/
theorem szAll_iff {ds : List PyData} : szAll ds = true ↔ ∀ d ∈ ds, szOk d = true := by
  induction ds with
  | nil => simp [szAll]
  | cons d ds ih => simp [szAll, ih]
theorem sz_list {ds : List PyData} : szOk (.list ds) = true ↔ ds.length ≤ sizeLine ∧ szAll ds = true := by simp [szOk]
theorem sz_tuple {ds : List PyData} : szOk (.tuple ds) = true ↔ ds.length ≤ sizeLine ∧ szAll ds = true := by simp [szOk]
mutual
theorem noDict_of_sz : ∀ d : PyData, szOk d = true → d.hasDict = false
  | .none, _ => by simp only [PyData.hasDict]
  | .bool _, _ => by simp only [PyData.hasDict]
  | .int _, _ => by simp only [PyData.hasDict]
  | .str x, h => by simp only [PyData.hasDict]
  | .list xs, h => by simp only [szOk, Bool.and_eq_true] at h; simp only [PyData.hasDict]; exact noDictAll_of_sz xs h.2
  | .tuple xs, h => by simp only [szOk, Bool.and_eq_true] at h; simp only [PyData.hasDict]; exact noDictAll_of_sz xs h.2
  | .dict _, h => by simp [szOk] at h
theorem noDictAll_of_sz : ∀ ds : List PyData, szAll ds = true → PyData.hasDictAll ds = false
  | [], _ => by simp only [PyData.hasDictAll]
  | d :: ds, h => by
    simp only [szAll, Bool.and_eq_true] at h
    simp only [PyData.hasDictAll, Bool.or_eq_false_iff]
    exact ⟨noDict_of_sz d h.1, noDictAll_of_sz ds h.2⟩
end

/-! ### the state -/
/-- a value of ours, in the abstract heap: data in the part that stays -/
def RepU (K : PySem.W.Frag) (Hf : Hp) (ρ : List Addr) (v : V) : U → Prop
  | .dat d => Dp K Hf v d ∧ szOk d = true
  | .ref i => ∃ a, ρ[i]? = some a ∧ v = .ref a
/-- .. that is only read: perhaps a list of a name's own -/
def RepB (K : PySem.W.Frag) (H Hf : Hp) (ρ : List Addr) (v : V) (u : U) : Prop :=
  RepU K Hf ρ v u ∨ ∃ p vs xs, u = .dat (.list xs) ∧ v = .ref p ∧ H p = some (.lst vs) ∧ Hf p = none ∧ p ∉ ρ ∧ DpAll K Hf vs xs ∧ szOk (.list xs) = true
def MAt (K : PySem.W.Frag) (H Hf : Hp) (ρ : List Addr) (a : Addr) : MObj → Prop
  | .lst xs => ∃ vs, H a = some (.lst vs) ∧ DpAll K Hf vs xs ∧ szOk (.list xs) = true
  | .dct kvs => ∃ es, H a = some (.ext (DicPhi a es)) ∧ DicAt K Hf es kvs ∧ (es.map (·.1)).Nodup ∧ kvs.length ≤ sizeLine ∧ (∀ p ∈ kvs, szOk p.2 = true ∧ szOk p.1.data = true) ∧ (a == sysModules) = false
  | .inst _ _ => False
structure Fine (K : PySem.W.Frag) (H Hf : Hp) (ρ : List Addr) (m : Mem) : Prop where
  sub : Sub Hf H
  nd : ρ.Nodup
  un : ∀ a ∈ ρ, Hf a = none
  len : ρ.length = m.length
  at_ : ∀ (i : Nat) (a : Addr) (o : MObj), ρ[i]? = some a → m[i]? = some o → MAt K H Hf ρ a o
structure Slots (K : PySem.W.Frag) (H Hf : Hp) (ρ : List Addr) (ω : Nat → Addr) (σ : L2.St) (env : Env) : Prop where
  len : σ.length = env.length
  val : ∀ (i : Nat) (u : U), env[i]? = some (.v u) → ∃ v, σ[i]? = some (some v) ∧ RepU K Hf ρ v u
  own : ∀ (i : Nat) (xs : List PyData), env[i]? = some (.own xs) → σ[i]? = some (some (.ref (ω i))) ∧ Hf (ω i) = none ∧ ω i ∉ ρ ∧ (∃ vs, H (ω i) = some (.lst vs) ∧ DpAll K Hf vs xs) ∧ szOk (.list xs) = true
  inj : ∀ (i j : Nat) (xs ys : List PyData), env[i]? = some (.own xs) → env[j]? = some (.own ys) → ω i = ω j → i = j
/-- what an evaluation leaves as it was -/
structure Pres (H Hf : Hp) (ρ : List Addr) (H' Hf' : Hp) (ρ' : List Addr) : Prop where
  fz : Sub Hf Hf'
  pre : ∃ t, ρ' = ρ ++ t
  kp : ∀ a o, H a = some o → Hf a = none → a ∉ ρ → H' a = some o ∧ Hf' a = none ∧ a ∉ ρ'
theorem Pres.refl (H Hf : Hp) (ρ : List Addr) : Pres H Hf ρ H Hf ρ := ⟨Sub.refl _, ⟨[], by simp⟩, fun _ _ h h1 h2 => ⟨h, h1, h2⟩⟩
theorem Pres.trans {H Hf H1 Hf1 H2 Hf2 : Hp} {ρ ρ1 ρ2 : List Addr} (a : Pres H Hf ρ H1 Hf1 ρ1) (b : Pres H1 Hf1 ρ1 H2 Hf2 ρ2) : Pres H Hf ρ H2 Hf2 ρ2 := by
  refine ⟨a.fz.trans b.fz, ?_, fun x o h h1 h2 => ?_⟩
  · obtain ⟨t, e⟩ := a.pre
    obtain ⟨t', e'⟩ := b.pre
    exact ⟨t ++ t', by rw [e', e, List.append_assoc]⟩
  · obtain ⟨q, q1, q2⟩ := a.kp x o h h1 h2
    exact b.kp x o q q1 q2
section
variable {K : PySem.W.Frag} {H Hf H' Hf' : Hp} {ρ ρ' : List Addr} {m m' : Mem} {ω : Nat → Addr} {σ : L2.St} {env : Env}
theorem RepU.pres {v : V} {u : U} (p : Pres H Hf ρ H' Hf' ρ') (r : RepU K Hf ρ v u) : RepU K Hf' ρ' v u := by
  cases u with
  | dat d => exact ⟨Dp.mono p.fz _ _ r.1, r.2⟩
  | ref i =>
    obtain ⟨a, e, rfl⟩ := r
    obtain ⟨t, e'⟩ := p.pre
    refine ⟨a, ?_, rfl⟩
    rw [e', List.getElem?_append_left (List.getElem?_eq_some_iff.mp e).1]; exact e
theorem RepB.pres {v : V} {u : U} (p : Pres H Hf ρ H' Hf' ρ') (r : RepB K H Hf ρ v u) : RepB K H' Hf' ρ' v u := by
  rcases r with r | ⟨q, vs, xs, rfl, rfl, h, h1, h2, ha, hz⟩
  · exact .inl (r.pres p)
  · obtain ⟨e, e1, e2⟩ := p.kp _ _ h h1 h2
    exact .inr ⟨q, vs, xs, rfl, rfl, e, e1, e2, DpAll.mono p.fz _ _ ha, hz⟩
theorem Slots.pres (p : Pres H Hf ρ H' Hf' ρ') (s : Slots K H Hf ρ ω σ env) : Slots K H' Hf' ρ' ω σ env := by
  refine ⟨s.len, fun i u e => ?_, fun i xs e => ?_, s.inj⟩
  · obtain ⟨v, h, r⟩ := s.val i u e
    exact ⟨v, h, r.pres p⟩
  · obtain ⟨h, h1, h2, ⟨vs, h3, h4⟩, h5⟩ := s.own i xs e
    obtain ⟨e, e1, e2⟩ := p.kp _ _ h3 h1 h2
    exact ⟨h, e1, e2, ⟨vs, e, DpAll.mono p.fz _ _ h4⟩, h5⟩
/-- a new object that stays -/
theorem Pres.new {p : Addr} {o : HO} (h : H p = none) (hs : Sub Hf H) : Pres H Hf ρ (upd H p o) (upd Hf p o) ρ :=
  ⟨Sub.new (hs.none h), ⟨[], by simp⟩, fun a x e e1 e2 => ⟨Sub.new h _ _ e, by rw [upd_ne (ne_of_none e h)]; exact e1, e2⟩⟩
/-- a new object that is free -/
theorem Pres.fresh {p : Addr} {o : HO} (h : H p = none) : Pres H Hf ρ (upd H p o) Hf ρ :=
  ⟨Sub.refl _, ⟨[], by simp⟩, fun a x e e1 e2 => ⟨Sub.new h _ _ e, e1, e2⟩⟩
theorem MAt.grow {a : Addr} {o : MObj} (hs : ∀ x, H a = some x → H' a = some x) (hf : Sub Hf Hf') (h : MAt K H Hf ρ a o) : MAt K H' Hf' ρ' a o := by
  cases o with
  | lst xs => obtain ⟨vs, e, ha, hz⟩ := h; exact ⟨vs, hs _ e, DpAll.mono hf _ _ ha, hz⟩
  | dct kvs => obtain ⟨es, e, ha, hz⟩ := h; exact ⟨es, hs _ e, DicAt.mono hf ha, hz⟩
  | inst c fs => exact h
theorem Fine.tracked (f : Fine K H Hf ρ m) {a : Addr} (h : a ∈ ρ) : ∃ o, H a = some o := by
  obtain ⟨i, hi, e⟩ := List.mem_iff_getElem.mp h
  have hm : i < m.length := by rw [← f.len]; exact hi
  have q := f.at_ i a m[i] (by rw [List.getElem?_eq_getElem hi, e]) (List.getElem?_eq_getElem hm)
  cases ho : m[i] with
  | lst xs => rw [ho] at q; obtain ⟨vs, e, _⟩ := q; exact ⟨_, e⟩
  | dct kvs => rw [ho] at q; obtain ⟨vs, e, _⟩ := q; exact ⟨_, e⟩
  | inst c fs => rw [ho] at q; exact q.elim
theorem Fine.new {p : Addr} {o : HO} (f : Fine K H Hf ρ m) (h : H p = none) : Fine K (upd H p o) (upd Hf p o) ρ m := by
  refine ⟨fun b x e => ?_, f.nd, fun a ha => ?_, f.len, fun i a ob e1 e2 => (f.at_ i a ob e1 e2).grow (fun x e => Sub.new h _ _ e) (Sub.new (f.sub.none h))⟩
  · by_cases hb : b = p
    · subst hb; rw [upd_same] at e ⊢; exact e
    · rw [upd_ne hb] at e ⊢; exact f.sub _ _ e
  · obtain ⟨x, e⟩ := f.tracked ha
    rw [upd_ne (ne_of_none e h)]; exact f.un a ha
theorem Fine.fresh {p : Addr} {o : HO} (f : Fine K H Hf ρ m) (h : H p = none) : Fine K (upd H p o) Hf ρ m :=
  ⟨fun b x e => Sub.new h _ _ (f.sub _ _ e), f.nd, f.un, f.len, fun i a ob e1 e2 => (f.at_ i a ob e1 e2).grow (fun x e => Sub.new h _ _ e) (Sub.refl _)⟩
/-- a free object is frozen -/
theorem Fine.freeze {p : Addr} {o : HO} (f : Fine K H Hf ρ m) (h : H p = some o) (h1 : Hf p = none) (h2 : p ∉ ρ) : Fine K H (upd Hf p o) ρ m := by
  refine ⟨fun b x e => ?_, f.nd, fun a ha => ?_, f.len, fun i a ob e1 e2 => (f.at_ i a ob e1 e2).grow (fun x e => e) (Sub.new h1)⟩
  · by_cases hb : b = p
    · subst hb; rw [upd_same] at e; rw [h]; exact e
    · rw [upd_ne hb] at e; exact f.sub _ _ e
  · rw [upd_ne (fun (z : a = p) => h2 (by rw [← z]; exact ha))]; exact f.un a ha
/-- .. a new object, free in the middle, frozen at the end -/
theorem Pres.frozen {p : Addr} {o : HO} (P : Pres H Hf ρ H' Hf' ρ') (hn : H p = none) (h1 : Hf' p = none) : Pres H Hf ρ H' (upd Hf' p o) ρ' :=
  ⟨P.fz.trans (Sub.new h1), P.pre, fun a x e e1 e2 => by
    obtain ⟨q, q1, q2⟩ := P.kp a x e e1 e2
    exact ⟨q, by rw [upd_ne (ne_of_none e hn)]; exact q1, q2⟩⟩
end

/-! ### outcomes -/
abbrev XRel := Hp → Hp → List Addr → Nat → U → Value → Option Addr → Prop
/-- how an outcome of ours is met: β the machine's, α ours -/
def OutE {α β : Type} (K : PySem.W.Frag) (XR : XRel) (W : WX) (σ : L2.St) (H Hf : Hp) (ρ : List Addr) (Rp : Hp → Hp → List Addr → β → α → Prop) (r : R α) (Q : β → Hp → Prop) : Prop :=
  match r with
  | .ok u m' => ∀ v H' Hf' ρ', Pres H Hf ρ H' Hf' ρ' → Fine K H' Hf' ρ' m' → Rp H' Hf' ρ' v u → Q v H'
  | .exc c x m' => ∀ cls d H' Hf' ρ', Pres H Hf ρ H' Hf' ρ' → Fine K H' Hf' ρ' m' → XR H' Hf' ρ' c x cls d → W cls d σ H'
  | .bad => False
structure At (K : PySem.W.Frag) (H : Hp) (σ : L2.St) (Hf : Hp) (ρ : List Addr) (ω : Nat → Addr) (env : Env) (m : Mem) : Prop where
  fine : Fine K H Hf ρ m
  slots : Slots K H Hf ρ ω σ env
section
variable {α α' β β' : Type} {K : PySem.W.Frag} {XR : XRel} {W : WX} {σ : L2.St} {H Hf : Hp} {ρ : List Addr} {Rp : Hp → Hp → List Addr → β → α → Prop} {Rp' : Hp → Hp → List Addr → β' → α' → Prop} {Q : β → Hp → Prop} {Q' : β' → Hp → Prop}
theorem OutE.mono {r : R α} {Q2 : β → Hp → Prop} (h : OutE K XR W σ H Hf ρ Rp r Q) (hq : ∀ v H', Q v H' → Q2 v H') : OutE K XR W σ H Hf ρ Rp r Q2 := by
  cases r with
  | ok u m' => exact fun v H' Hf' ρ' p f r => hq _ _ (h v H' Hf' ρ' p f r)
  | exc c x m' => exact h
  | bad => exact h
theorem OutE.rel {r : R α} {Rp2 : Hp → Hp → List Addr → β → α → Prop} (h : OutE K XR W σ H Hf ρ Rp r Q) (hr : ∀ H' Hf' ρ' v u, Rp2 H' Hf' ρ' v u → Rp H' Hf' ρ' v u) : OutE K XR W σ H Hf ρ Rp2 r Q := by
  cases r with
  | ok u m' => exact fun v H' Hf' ρ' p f r => h v H' Hf' ρ' p f (hr _ _ _ _ _ r)
  | exc c x m' => exact h
  | bad => exact h
theorem OutE.pres {r : R α} {H1 Hf1 : Hp} {ρ1 : List Addr} (p : Pres H Hf ρ H1 Hf1 ρ1) (h : OutE K XR W σ H Hf ρ Rp r Q) : OutE K XR W σ H1 Hf1 ρ1 Rp r Q := by
  cases r with
  | ok u m' => exact fun v H' Hf' ρ' p' f r => h v H' Hf' ρ' (p.trans p') f r
  | exc c x m' => exact fun cls d H' Hf' ρ' p' f r => h cls d H' Hf' ρ' (p.trans p') f r
  | bad => exact h
/-- THE STEP: the first part's outcome, then the rest's -/
theorem OutE.bind {r : R α'} {k : α' → Mem → R α} (h : OutE K XR W σ H Hf ρ Rp (r.bind k) Q) :
    OutE K XR W σ H Hf ρ Rp' r fun v H1 => ∃ u Hf1 ρ1 m1, Pres H Hf ρ H1 Hf1 ρ1 ∧ Fine K H1 Hf1 ρ1 m1 ∧ Rp' H1 Hf1 ρ1 v u ∧ OutE K XR W σ H1 Hf1 ρ1 Rp (k u m1) Q := by
  cases r with
  | ok u m' => exact fun v H' Hf' ρ' p f r => ⟨u, Hf', ρ', m', p, f, r, OutE.pres p h⟩
  | exc c x m' => exact h
  | bad => exact h
theorem At.pres {H1 Hf1 : Hp} {ρ1 : List Addr} {ω : Nat → Addr} {env : Env} {m m1 : Mem} (a : At K H σ Hf ρ ω env m) (p : Pres H Hf ρ H1 Hf1 ρ1) (f : Fine K H1 Hf1 ρ1 m1) : At K H1 σ Hf1 ρ1 ω env m1 :=
  ⟨f, a.slots.pres p⟩
end
/-- the reading of a part that is evaluated to an α -/
def tR {α β : Type} (K : PySem.W.Frag) (XR : XRel) (W : WX) (Rp : Hp → Hp → List Addr → β → α → Prop) (f : Env → Mem → R α) : L2.St → Hp → (β → Hp → Prop) → Prop :=
  fun σ H Q => ∃ Hf ρ ω env m, At K H σ Hf ρ ω env m ∧ OutE K XR W σ H Hf ρ Rp (f env m) Q
abbrev RU (K : PySem.W.Frag) : Hp → Hp → List Addr → V → U → Prop := fun _ Hf ρ v u => RepU K Hf ρ v u
abbrev RB (K : PySem.W.Frag) : Hp → Hp → List Addr → V → U → Prop := fun H Hf ρ v u => RepB K H Hf ρ v u
abbrev RBool : Hp → Hp → List Addr → Bool → U → Prop := fun _ _ _ b u => u = .dat (.bool b)
def RUs (K : PySem.W.Frag) (Hf : Hp) (ρ : List Addr) : List V → List U → Prop
  | [], [] => True
  | v :: vs, u :: us => RepU K Hf ρ v u ∧ RUs K Hf ρ vs us
  | _, _ => False
theorem RUs.pres {K : PySem.W.Frag} {H Hf H' Hf' : Hp} {ρ ρ' : List Addr} (p : Pres H Hf ρ H' Hf' ρ') : ∀ {vs : List V} {us : List U}, RUs K Hf ρ vs us → RUs K Hf' ρ' vs us
  | [], [], _ => trivial
  | _ :: _, _ :: _, h => ⟨h.1.pres p, RUs.pres p h.2⟩
  | [], _ :: _, h => h.elim
  | _ :: _, [], h => h.elim
theorem RUs.len {K : PySem.W.Frag} {Hf : Hp} {ρ : List Addr} : ∀ {vs : List V} {us : List U}, RUs K Hf ρ vs us → vs.length = us.length
  | [], [], _ => rfl
  | _ :: _, _ :: _, h => by rw [List.length_cons, List.length_cons, RUs.len h.2]
  | [], _ :: _, h => h.elim
  | _ :: _, [], h => h.elim
theorem RUs.dats {K : PySem.W.Frag} {Hf : Hp} {ρ : List Addr} : ∀ {vs : List V} {us : List U} {ds : List PyData}, RUs K Hf ρ vs us → datL us = some ds → DpAll K Hf vs ds ∧ szAll ds = true
  | [], [], ds, _, e => by simp [datL] at e; subst e; exact ⟨.nil, rfl⟩
  | v :: vs, .dat d :: us, ds, h, e => by
    simp only [datL, Option.map_eq_some_iff] at e
    obtain ⟨r, e, rfl⟩ := e
    obtain ⟨h1, h2⟩ := RUs.dats h.2 e
    exact ⟨.cons h.1.1 h1, by simp only [szAll, Bool.and_eq_true]; exact ⟨h.1.2, h2⟩⟩
  | v :: vs, .ref d :: us, ds, h, e => by simp [datL] at e
  | [], _ :: _, _, h, _ => h.elim
  | _ :: _, [], _, h, _ => h.elim
abbrev RL (K : PySem.W.Frag) : Hp → Hp → List Addr → List V → List U → Prop := fun _ Hf ρ v u => RUs K Hf ρ v u
end Eng

set_option Elab.async false
set_option linter.all false
set_option maxRecDepth 100000
/-! Calls with the guards known; the check of a text against the small language. -/
namespace Eng
open PySem PySem.Spec PyProof.Rows L2

/-! ### defs, called where no repr is under way -/
structure FnG (P : Program) (w : World) (K : PySem.W.Frag) (mg : Str → Option Value) (base : Heap) (k : Nat) (f : Addr) (fd : FuncData) (ps : List Str) (sp : Sp) : Prop where
  len : ∀ vs H Q E, sp vs H Q E → vs.length = ps.length
  run : ∀ (A : Around) (outer : List PySem.Env) (s : Shared) (H : Hp) (args : Args) (us : List Value) (vs : List V) (Q : VK) (E : XK), Room k A → A.guards = some [] → Env0 P w K mg base A outer s H → BindsTo s fd args (ps.zip us) → Vals vs us → sp vs H Q E →
    codeAny (model P w) A (.call (.ref f) args) (CR (L2.CX P w) outer P w H s Q E) s
theorem fnG_of {P : Program} {w : World} {K : PySem.W.Frag} {mg : Str → Option Value} {base : Heap} {k : Nat} {f : Addr} {name qual : Str} {params : Arguments} {body : List Stmt} {scope : Scope} {dV kV doc pm cdv ct oc : Value} {an od : Option Addr}
    {osl : Array (Option Value)} {N ps : List Str} {sp : Sp} (lk : K.lookup f = some ⟨oc, od, .func (PySem.W.fnOf name qual params body scope dV kV doc pm an cdv ct), osl⟩) (hcd : PySem.W.codeIn K cdv qual = true) (S : FnScope N ps scope)
    (len : ∀ vs H Q E, sp vs H Q E → vs.length = ps.length)
    (hbody : ∀ (A : Around) (outer : List PySem.Env) (s : Shared) (H : Hp) (vs : List V) (Q : VK) (E : XK), Room k (A.deeper (envOfC qual scope s.heap.objs.size f cdv)) → A.guards = some [] → sp vs H Q E →
      ∃ t, PSs (cxOf (L2.CX P w) P w K mg base N qual scope f cdv A outer s H E) body t ∧ t { nx := fun _ H' => Q .non H', rt := Q } (start N vs) H) :
    FnG P w K mg base (k + 1) f (PySem.W.fnOf name qual params body scope dV kV doc pm an cdv ct) ps sp := by
  refine ⟨len, fun A outer s H args us vs Q E hr hg e0 hb r hsp => ?_⟩
  have hl := len _ _ _ _ hsp
  have KX : K.In s.heap := e0.mod.kin.keeps fun b o e => (e0.bs b o e).1
  have lim : s.heap.NoLimit := e0.mod.nolimit.keeps fun b o e => (e0.bs b o e).1
  have hkind : ∀ y ∈ ps.zip us, scope.names.lookup y.1 = some .local ∨ (scope.names.lookup y.1 = some .cell ∧ ((cellsFrom (s.heap.objs.size + 1) scope.names []).lookup y.1).isSome = true) := fun ⟨n, v⟩ hy => by
    rcases S.par n (List.of_mem_zip hy).1 with q | q
    · exact .inl q
    · exact .inr ⟨q, PySem.W.cellsFrom_some _ _ _ (.inl q)⟩
  refine codeAny_call_function hr.depth (KX _ _ lk) rfl S.co S.gen rfl (PySem.W.codeRec_of KX hcd) (hb _ _ _ _ ?_)
  refine wpAny_newFunctionEnv_cells S.kind hkind fun env he s1 x => ?_
  subst he
  refine ⟨lim.keeps x.toInCall.keep, codeAny_func ?_⟩
  obtain ⟨t, ht, hq⟩ := hbody A outer s H vs Q E (hr.deeper _) hg hsp
  have I : Inv (cxOf (L2.CX P w) P w K mg base N qual scope f cdv A outer s H E) [] (start N vs) H s1 := inv_start S hr.hd e0 hl r x
  refine wpAny_mono (ht.run [] s1 (start N vs) H _ I hq) (fun fl s' hs => ?_) fun e s' hs => hs
  have fin : ∀ {σ' : L2.St} {H' : Hp} {v : V} {u : Value}, Inv (cxOf (L2.CX P w) P w K mg base N qual scope f cdv A outer s H E) [] σ' H' s' → RelV v u → Q v H' → CE outer P w H s Q u s' :=
    fun {σ' H' v u} J rv q => ⟨v, H', J.os, J.bare, J.base, J.hok, rv, q⟩
  cases fl with
  | ret u =>
    obtain ⟨v, σ', H', J, rv, q⟩ := hs
    exact fin J rv q
  | next =>
    obtain ⟨σ', H', J, q⟩ := hs
    exact fin (v := V.non) (u := Value.none) J rfl q
  | brk =>
    obtain ⟨_, _, _, q⟩ := hs
    exact False.elim q
  | cont =>
    obtain ⟨_, _, _, q⟩ := hs
    exact False.elim q
section
variable {X : Cx} {k : Nat} {f : Addr} {fd : FuncData} {ps : List Str} {sp : Sp} {W : WX} {x : Str} {p pos : Pos} {e : Expr} {es : List Expr} {t : TA}
theorem run_fnG {pins : List (Addr × Obj)} {σ : L2.St} {H : Hp} {s : Shared} {Q : VK} {us : List Value} {vs : List V} (F : FnG X.prog X.w X.K X.mg X.base k f fd ps sp) (hr : Room k X.A) (hgd : X.A.guards = some []) (hb : Binds X.K fd ps []) (tk : Takes X W)
    (I : Inv X pins σ H s) (r : Vals vs us) (h : sp vs H Q (WE W σ)) : wpAny (model X.prog X.w) X.A (call (.ref f) us) (EP X pins σ Q) X.xe s := by
  have hl : us.length = ps.length := by rw [← r.length]; exact F.len _ _ _ _ h
  have b := hb s us I.kIn (by rw [List.append_nil]; exact hl)
  rw [List.append_nil] at b
  refine wpAny_call (codeAny_mono (F.run X.A X.stack s H ⟨us, []⟩ us vs Q (WE W σ) hr hgd I.env0 b r h) fun r s' hq => ?_)
  cases r with
  | error e => exact passAt tk σ pins H s e s' I hq
  | ok fl =>
    cases fl with
    | ret u => exact I.after hq
    | next => exact False.elim hq
    | brk => exact False.elim hq
    | cont => exact False.elim hq
theorem star_any {es : List Expr} {env : PySem.Env} {pos : Pos} (h : (starEach es env).any (·.1) = false) : (backTo pos (starEach es env)).any (·.1) = false := by
  rw [← h]; unfold backTo; rw [List.any_map]; rfl
theorem pe_callG (F : FnG X.prog X.w X.K X.mg X.base k f fd ps sp) (hr : Room k X.A) (hgd : X.A.guards = some []) (hg : Gl X x) (hm : X.mg x = some (.ref f)) (hk : PySem.W.keepIn X.K (.ref f) = true) (hb : Binds X.K fd ps []) (tk : Takes X W)
    (ha : PA X (e :: es) t) (hdb : (x == ("__debug__" : Str)) = false) (he : starEach (e :: es) X.env = (false, eval e X.env) :: starEach es X.env) (hpl : (starEach es X.env).any (·.1) = false) :
    PE X (.Call (.Name x p) (e :: es) [] pos) (tCallS sp (WE W) t) := by
  refine ⟨fun pins s σ H Q I h => ?_⟩
  refine wpAny_Call_Name_kw (ld_glob I hg hm ?_ hdb)
  refine PySem.W.callWith_K (h₀ := X.base) I.ok.mod.kin hk (thn (ha.run pos pins s σ H _ I h) fun us s1 ⟨vs, H1, I1, r, q⟩ => ⟨I1.kIn, ?_⟩) he (star_any hpl)
  exact run_fnG F hr hgd hb tk I1 r q
theorem pe_callG0 (F : FnG X.prog X.w X.K X.mg X.base k f fd ps sp) (hr : Room k X.A) (hgd : X.A.guards = some []) (hg : Gl X x) (hm : X.mg x = some (.ref f)) (hk : PySem.W.keepIn X.K (.ref f) = true) (hb : Binds X.K fd ps []) (tk : Takes X W)
    (hdb : (x == ("__debug__" : Str)) = false) :
    PE X (.Call (.Name x p) [] [] pos) (tCallS sp (WE W) tNil) := by
  refine ⟨fun pins s σ H Q I h => ?_⟩
  refine wpAny_Call_Name_kw (ld_glob I hg hm ?_ hdb)
  exact PySem.W.callWith_K0 I.kIn hk (run_fnG (us := []) F hr hgd hb tk I .nil h)
/-- how a call with keywords binds: na positional, then ks; perm: the place of each parameter among them -/
def KB (fd : FuncData) (ps : List Str) (na : Nat) (ks : List Str) (perm : List Nat) : Prop :=
  ∀ us : List Value, us.length = na + ks.length → ∃ ws, perm.mapM (fun i => us[i]?) = some ws ∧ ws.length = ps.length ∧ bindArgs fd ⟨us.take na, ks.zip (us.drop na)⟩ = pure (ps.zip ws)
theorem vals_mapM {vs : List V} {us : List Value} (r : Vals vs us) : ∀ {perm : List Nat} {ws : List Value}, perm.mapM (fun i => us[i]?) = some ws → ∃ zs, perm.mapM (fun i => vs[i]?) = some zs ∧ Vals zs ws
  | [], ws, h => by simp at h; subst h; exact ⟨[], rfl, .nil⟩
  | i :: perm, ws, h => by
    rw [List.mapM_cons] at h
    cases e : us[i]? with
    | none => rw [e] at h; cases h
    | some u =>
      rw [e] at h
      cases e2 : perm.mapM (fun i => us[i]?) with
      | none => rw [e2] at h; cases h
      | some r2 =>
        rw [e2] at h; cases h
        obtain ⟨zs, e3, r3⟩ := vals_mapM r e2
        have hi : i < vs.length := by rw [r.length]; exact (List.getElem?_eq_some_iff.mp e).1
        obtain ⟨u', e4, r4⟩ := r.get (List.getElem?_eq_getElem hi)
        rw [e] at e4; cases e4
        refine ⟨vs[i] :: zs, ?_, .cons r4 r3⟩
        rw [List.mapM_cons, List.getElem?_eq_getElem hi, e3]; rfl
theorem vals_split {vs : List V} {us : List Value} {zs : List V} {ws : List Value} (r : Vals vs us) (r2 : Vals zs ws) : Vals (vs ++ zs) (us ++ ws) := r.append r2
theorem run_fnGK {pins : List (Addr × Obj)} {σ : L2.St} {H : Hp} {s : Shared} {Q : VK} {us ws : List Value} {vs zs vs' : List V} {na : Nat} {ks : List Str} {perm : List Nat} (F : FnG X.prog X.w X.K X.mg X.base k f fd ps sp) (hr : Room k X.A) (hgd : X.A.guards = some []) (hb : KB fd ps na ks perm) (tk : Takes X W)
    (I : Inv X pins σ H s) (r : Vals vs us) (rz : Vals zs ws) (hna : us.length = na) (hks : ws.length = ks.length) (hp : perm.mapM (fun i => (vs ++ zs)[i]?) = some vs') (h : sp vs' H Q (WE W σ)) : wpAny (model X.prog X.w) X.A (call (.ref f) us (ks.zip ws)) (EP X pins σ Q) X.xe s := by
  obtain ⟨ws', e1, e2, e3⟩ := hb (us ++ ws) (by rw [List.length_append, hna, hks])
  rw [List.take_append_of_le_length (by omega), List.take_of_length_le (by omega), List.drop_append_of_le_length (by omega), List.drop_of_length_le (by omega), List.nil_append] at e3
  obtain ⟨zs', e4, r4⟩ := vals_mapM (vals_split r rz) e1
  rw [hp] at e4; cases e4
  refine wpAny_call (codeAny_mono (F.run X.A X.stack s H ⟨us, ks.zip ws⟩ ws' vs' Q (WE W σ) hr hgd I.env0 (.of_eq e3) r4 h) fun r s' hq => ?_)
  cases r with
  | error e => exact passAt tk σ pins H s e s' I hq
  | ok fl =>
    cases fl with
    | ret u => exact I.after hq
    | next => exact False.elim hq
    | brk => exact False.elim hq
    | cont => exact False.elim hq
def tCallGK (sp : Sp) (na : Nat) (ks : List Str) (perm : List Nat) (E : L2.St → XK) (t tk : TA) : TE := fun σ H Q => t σ H fun vs H1 => tk σ H1 fun zs H2 => vs.length = na ∧ zs.length = ks.length ∧ ∃ vs', perm.mapM (fun i => (vs ++ zs)[i]?) = some vs' ∧ sp vs' H2 Q (E σ)
theorem kw_all : ∀ {kws : List Keyword} {env : PySem.Env} {pos : Pos} {ks : List Str}, kws.map (·.arg) = ks.map some → (backToKw pos (keywordEach kws env)).all (·.1.isSome) = true ∧ (backToKw pos (keywordEach kws env)).filterMap (·.1) = ks ∧ (backToKw pos (keywordEach kws env)).any (·.1.isNone) = false
  | [], _, _, ks, h => by
    cases ks with
    | nil => exact ⟨rfl, rfl, rfl⟩
    | cons a b => simp at h
  | ⟨nm, e, kp⟩ :: kws, env, pos, ks, h => by
    cases ks with
    | nil => simp at h
    | cons a b =>
      simp only [List.map_cons, List.cons.injEq] at h
      obtain ⟨h1, h2⟩ := h
      subst h1
      obtain ⟨q1, q2, q3⟩ := kw_all (env := env) (pos := pos) h2
      have e : backToKw pos (keywordEach (⟨some a, e, kp⟩ :: kws) env) = (some a, do let v ← eval e env; standAt pos; pure v) :: backToKw pos (keywordEach kws env) := rfl
      rw [e]
      refine ⟨?_, ?_, ?_⟩
      · rw [List.all_cons, q1]; rfl
      · rw [List.filterMap_cons]; show a :: _ = _; rw [q2]
      · rw [List.any_cons, q3]; rfl
theorem pe_callGK {kws : List Keyword} {tkw : TA} {na : Nat} {ks : List Str} {perm : List Nat} (F : FnG X.prog X.w X.K X.mg X.base k f fd ps sp) (hr : Room k X.A) (hgd : X.A.guards = some []) (hg : Gl X x) (hm : X.mg x = some (.ref f)) (hk : PySem.W.keepIn X.K (.ref f) = true) (hb : KB fd ps na ks perm) (tk : Takes X W)
    (ha : PA X es t) (hkw : PK X kws tkw) (hks : kws.map (·.arg) = ks.map some) (hdb : (x == ("__debug__" : Str)) = false) (hes : es = [] → t = tNil) (he : ∀ e r, es = e :: r → starEach (e :: r) X.env = (false, eval e X.env) :: starEach r X.env) (hpl : (starEach es X.env).any (·.1) = false) :
    PE X (.Call (.Name x p) es kws pos) (tCallGK sp na ks perm (WE W) t tkw) := by
  refine ⟨fun pins s σ H Q I h => ?_⟩
  obtain ⟨k1, k2, k3⟩ := kw_all (env := X.env) (pos := pos) hks
  refine wpAny_Call_Name_kw (ld_glob I hg hm ?_ hdb)
  cases es with
  | nil =>
    have et := hes rfl
    subst et
    refine PySem.W.callWith_KW0 (h₀ := X.base) I.ok.mod.kin hk k1 ?_ (by rw [star_any hpl, k3]; rfl)
    refine thn (hkw.run pos pins s σ H _ I h) fun ws s2 ⟨zs, H2, I2, rz, l1, l2, vs', hp, q2⟩ => ⟨I2.kIn, ?_⟩
    rw [k2]
    exact run_fnGK (us := []) (vs := []) F hr hgd hb tk I2 .nil rz l1 (by rw [← rz.length]; exact l2) hp q2
  | cons e r =>
    refine PySem.W.callWith_KW (h₀ := X.base) I.ok.mod.kin hk k1 (thn (ha.run pos pins s σ H _ I h) fun us s1 ⟨vs, H1, I1, r1, q⟩ => ?_) (by rw [star_any hpl, k3]; rfl) (he e r rfl)
    refine thn (hkw.run pos pins s1 σ H1 _ I1 q) fun ws s2 ⟨zs, H2, I2, rz, l1, l2, vs', hp, q2⟩ => ⟨I2.kIn, ?_⟩
    rw [k2]
    exact run_fnGK (us := us) (vs := vs) F hr hgd hb tk I2 r1 rz (by rw [← r1.length]; exact l1) (by rw [← rz.length]; exact l2) hp q2
end
end Eng

set_option Elab.async false
set_option linter.all false
set_option maxRecDepth 100000
/-! The check of a text. -/
namespace Eng
open PySem PySem.Spec PyProof.Rows L2

structure Cfg where
  nm : Nat → Option Str
  gl : List (Str × PyData)
  kb : List (Nat × Nat × List Str × List Nat)
  gd : List (Str × List (Str × Int) × List Str)
  cl : List (Str × Str)
  ci : List (Nat × Str × Bool)
structure Sc where
  sc : Scope
  fn : Str → Bool

def pl : Expr → Bool
  | .Starred .. => false
  | .Set .. => false
  | .Slice .. => false
  | _ => true
theorem star_pl {e : Expr} {es : List Expr} {env : PySem.Env} (h : pl e = true) : starEach (e :: es) env = (false, eval e env) :: starEach es env := by
  cases e <;> first | rfl | simp [pl] at h
theorem folded_pl {e : Expr} {env : PySem.Env} (h : pl e = true) : ∀ x, foldedSetIterable e env x = pure x := by
  intro x
  cases e <;> first | rfl | simp [pl] at h
theorem ix_pl {e : Expr} (h : pl e = true) : PlainIx e := by
  intro o i
  cases e <;> first | rfl | simp [pl] at h
theorem mark_pl {e : Expr} {op : CmpOp} (h : pl e = true) : behindInMarks op e = false := by
  cases e <;> first | rfl | simp [pl] at h

def glB (c : Sc) (x : Str) : Bool := decide (c.sc.names.lookup x = some .globalImplicit) && !(x == ("__debug__" : Str))
def visB (c : Sc) (x : Str) : Bool := (decide (c.sc.names.lookup x = some .local) || decide (c.sc.names.lookup x = some .cell) || decide (c.sc.names.lookup x = some .free)) && !(x == ("__debug__" : Str)) && !(x == ("__classdict__" : Str))
def locB (c : Sc) (x : Str) : Bool := decide (c.sc.names.lookup x = some .local) || (decide (c.sc.names.lookup x = some .cell) && c.fn x)

def cstB : PyData → Const → Bool
  | .none, .none => true
  | .bool b, .bool c => b == c
  | .int i, .int j => i == j
  | .str x, .str y => decide (x = y) && szOk (.str x)
  | _, _ => false
def sEq : PyData → PyData → Bool
  | .none, .none => true
  | .bool b, .bool c => b == c
  | .int i, .int j => i == j
  | .str x, .str y => decide (x = y)
  | _, _ => false
def binB : BinO → Operator → Bool
  | .add, .Add | .sub, .Sub | .mul, .Mult | .mod, .Mod | .fdiv, .FloorDiv | .pow, .Pow => true
  | _, _ => false
def cmpB : CmpO → CmpOp → Bool
  | .eq, .Eq | .ne, .NotEq | .lt, .Lt | .le, .LtE | .gt, .Gt | .ge, .GtE | .is, .Is | .isnot, .IsNot | .in_, .In | .notin, .NotIn => true
  | _, _ => false
def b1N : B1 → Str
  | .len => "len" | .tuple => "tuple" | .list => "list" | .abs => "abs" | .int => "int" | .all => "all" | .any => "any" | .sum => "sum" | .max => "max" | .min => "min" | .repr => "repr" | .sorted => "sorted"
def b2N : B2 → Str
  | .max => "max" | .min => "min"
def clsN : ClsT → Str
  | .int => "int" | .bool => "bool" | .str => "str" | .list => "list" | .tuple => "tuple"
def isName (c : Sc) (x : Str) : Expr → Bool
  | .Name y _ => (decide (y = x) && glB c y)
  | _ => false
/-- the built-in names that a text may use -/
def bnames : List Str := ["len", "tuple", "list", "abs", "int", "all", "any", "sum", "max", "min", "repr", "sorted", "isinstance", "bool", "str", "range", "enumerate", "zip", "set"]

mutual
def okTg (N : List Str) (c : Sc) : Tg → Expr → Bool
  | .nm i, .Name x _ => decide (N[i]? = some x) && locB c x
  | .tp ts, .Tuple es _ _ => okTgs N c ts es
  | _, _ => false
def okTgs (N : List Str) (c : Sc) : List Tg → List Expr → Bool
  | [], [] => true
  | t :: ts, e :: es => okTg N c t e && okTgs N c ts es
  | _, _ => false
end
def isTp : Expr → Bool
  | .Tuple .. => true
  | _ => false
def Sc.blk (c : Sc) (scope : Scope) : Sc := ⟨relS scope c.sc, fun x => scope.names.lookup x == some .cell⟩

def isNo : E → Bool
  | .no => true
  | _ => false
def okO (e : E) (f : Expr → Bool) : Option Expr → Bool
  | none => (match e with | .no => true | _ => false)
  | some x => f x
mutual
def okE (G : Cfg) (N : List Str) : E → Sc → Expr → Bool
  | .cst d, _, s => match s with | .Constant k _ _ => cstB d k | _ => false
  | .glb x d, c, s => match s with | .Name y _ => decide (x = y) && glB c y && G.gl.any (fun p => decide (p.1 = x) && sEq p.2 d) | _ => false
  | .var i, c, s => match s with | .Name x _ => decide (N[i]? = some x) && visB c x | _ => false
  | .bv i, c, s => match s with | .Name x _ => decide (N[i]? = some x) && visB c x | _ => false
  | .tup es, c, s => match s with | .Tuple elts _ _ => okEs G N es c elts && decide (elts.length ≤ 1000) | _ => false
  | .lst es, c, s => match s with | .List elts _ => okEs G N es c elts && decide (elts.length ≤ 1000) | _ => false
  | .newl es, c, s => match s with | .List elts _ => okEs G N es c elts && decide (elts.length ≤ 1000) | _ => false
  | .lmul es k, c, s => match s with | .BinOp (.List elts _) .Mult r _ => okEs G N es c elts && decide (elts.length ≤ 1000) && okE G N k c r | _ => false
  | .sortk a, c, s => false
  | .sset a, c, s => match s with | .Call (.Name x _) [.Call (.Name y _) [e] [] _] [] _ => decide (x = "sorted") && glB c x && decide (y = "set") && glB c y && okE G N a c e && pl e | _ => false
  | .dget i es, c, s => false
  | .newD, _, s => false
  | .newD1 k v, c, s => false
  | .keysl a, c, s => false
  | .din n a b, c, s => false
  | .bin o a b, c, s => match s with | .BinOp l op r _ => binB o op && okE G N a c l && okE G N b c r | _ => false
  | .ladd a b, c, s => match s with | .BinOp l .Add r _ => okE G N a c l && okE G N b c r | _ => false
  | .neg a, c, s => false
  | .not a, c, s => match s with | .UnaryOp .Not x _ => okE G N a c x | _ => false
  | .and a b, c, s => match s with
    | .BoolOp .And [x, y] _ => okE G N a c x && okE G N b c y
    | .BoolOp .And (x :: y :: z :: r) pos => okE G N a c x && okE G N b c (.BoolOp .And (y :: z :: r) pos)
    | _ => false
  | .or a b, c, s => match s with
    | .BoolOp .Or [x, y] _ => okE G N a c x && okE G N b c y
    | .BoolOp .Or (x :: y :: z :: r) pos => okE G N a c x && okE G N b c (.BoolOp .Or (y :: z :: r) pos)
    | _ => false
  | .cmp o a b, c, s => match s with | .Compare l [op] [r] _ => cmpB o op && okE G N a c l && okE G N b c r && pl r | _ => false
  | .chain o o' a b d, c, s => match s with
    | .Compare l [op, op'] [m, r] _ => cmpB o op && cmpB o' op' && okE G N a c l && okE G N b c m && okE G N d c r && pl m && pl r
    | _ => false
  | .ite t a b, c, s => match s with | .IfExp x y z _ => okE G N t c x && okE G N a c y && okE G N b c z | _ => false
  | .call f es, c, s => match s with | .Call (.Name x _) args [] _ => decide (G.nm f = some x) && glB c x && okEs G N es c args | _ => false
  | .callk f es ks perm, c, s => match s with
    | .Call (.Name x _) args kws _ => decide (G.nm f = some x) && glB c x && okEs G N es c args && okEs G N ks c (kws.map (·.value)) && kws.all (·.arg.isSome) &&
      G.kb.any (fun p => decide (p = (f, args.length, kws.filterMap (·.arg), perm)))
    | _ => false
  | .b1 f a, c, s => match s with | .Call (.Name x _) [e] [] _ => decide (x = b1N f) && glB c x && okE G N a c e && pl e | _ => false
  | .b2 f a b, c, s => match s with | .Call (.Name x _) [e, e'] [] _ => decide (x = b2N f) && glB c x && okE G N a c e && pl e && okE G N b c e' && pl e' | _ => false
  | .isi a k, c, s => match s with | .Call (.Name x _) [e, t] [] _ => decide (x = "isinstance") && glB c x && okE G N a c e && pl e && isName c (clsN k) t | _ => false
  | .isi2 a k k', c, s => match s with | .Call (.Name x _) [e, .Tuple [t, t'] _ _] [] _ => decide (x = "isinstance") && glB c x && okE G N a c e && pl e && isName c (clsN k) t && isName c (clsN k') t' | _ => false
  | .ix a i, c, s => match s with | .Subscript v s _ => okE G N a c v && okE G N i c s && pl s | _ => false
  | .sl a lo hi, c, s => match s with | .Subscript v (.Slice l u none _) _ => okE G N a c v && okO lo (okE G N lo c) l && okO hi (okE G N hi c) u | _ => false
  | .rev a, c, s => false
  | .gd o x kvs nks a, c, s => false
  | .comp elt tg it cond own, c, s => match s with
    | .ListComp e [⟨t, i, ifs, 0⟩] scope _ =>
      blkC N c.sc scope own && okI G N it c t i && pl i && okTg N (c.blk scope) tg t && (slotsTg tg).all (fun j => (own.map (·.2)).contains j) && okE G N elt (c.blk scope) e &&
        (match ifs with | [] => isNo cond | [g] => !isNo cond && okE G N cond (c.blk scope) g | _ => false)
    | _ => false
  | .comp2 elt tg it tg' it' cond own, c, s => match s with
    | .ListComp e [⟨t, i, [], 0⟩, ⟨t', i', ifs, 0⟩] scope _ =>
      blkC N c.sc scope own && okI G N it c t i && pl i && okTg N (c.blk scope) tg t && (slotsTg tg).all (fun j => (own.map (·.2)).contains j) && okI G N it' (c.blk scope) t' i' && pl i' && okTg N (c.blk scope) tg' t' && (slotsTg tg').all (fun j => (own.map (·.2)).contains j) && okE G N elt (c.blk scope) e &&
        (match ifs with | [] => isNo cond | [g] => !isNo cond && okE G N cond (c.blk scope) g | _ => false)
    | _ => false
  | .no, _, _ => false
def okEs (G : Cfg) (N : List Str) : Es → Sc → List Expr → Bool
  | .nil, _, s => match s with | [] => true | _ => false
  | .cons e es, c, s => match s with | x :: xs => okE G N e c x && pl x && okEs G N es c xs | _ => false
def okI (G : Cfg) (N : List Str) : It → Sc → Expr → Expr → Bool
  | .seq e, c, _, i => okE G N e c i
  | .rng1 a, c, _, s => match s with | .Call (.Name x _) [e] [] _ => decide (x = "range") && glB c x && okE G N a c e && pl e | _ => false
  | .rng2 a b, c, _, s => match s with | .Call (.Name x _) [e, e'] [] _ => decide (x = "range") && glB c x && okE G N a c e && pl e && okE G N b c e' && pl e' | _ => false
  | .enum a, c, t, s => match s with | .Call (.Name x _) [e] [] _ => decide (x = "enumerate") && glB c x && okE G N a c e && pl e && isTp t | _ => false
  | .zip2 a b, c, t, s => match s with | .Call (.Name x _) [e, e'] [] _ => decide (x = "zip") && glB c x && okE G N a c e && pl e && okE G N b c e' && pl e' && isTp t | _ => false
end
end Eng

set_option Elab.async false
set_option linter.all false
set_option maxRecDepth 100000
/-! How a reading is opened and closed. -/
namespace Eng
open PySem PySem.Spec PyProof.Rows L2

theorem PE.imp {X : Cx} {e : Expr} {t t' : TE} (h : PE X e t) (hi : ∀ σ H Q, t' σ H Q → t σ H Q) : PE X e t' := ⟨fun pins s σ H Q I q => h.run pins s σ H Q I (hi _ _ _ q)⟩
theorem PT.imp {X : Cx} {e : Expr} {t t' : TT} (h : PT X e t) (hi : ∀ σ H Q, t' σ H Q → t σ H Q) : PT X e t' := ⟨fun pins s σ H Q I q => h.run pins s σ H Q I (hi _ _ _ q)⟩
theorem PW.imp {X : Cx} {e : Expr} {t t' : TT} (h : PW X e t) (hi : ∀ σ H Q, t' σ H Q → t σ H Q) : PW X e t' := ⟨fun wh pins s σ H Q I q => h.run wh pins s σ H Q I (hi _ _ _ q)⟩
theorem PA.imp {X : Cx} {e : List Expr} {t t' : TA} (h : PA X e t) (hi : ∀ σ H Q, t' σ H Q → t σ H Q) : PA X e t' := ⟨fun pos pins s σ H Q I q => h.run pos pins s σ H Q I (hi _ _ _ q)⟩
theorem PI.imp {X : Cx} {tg e : Expr} {t t' : TI} (h : PI X tg e t) (hi : ∀ σ H Q, t' σ H Q → t σ H Q) : PI X tg e t' := ⟨fun pins s σ H Q I q => h.run pins s σ H Q I (hi _ _ _ q)⟩
theorem PI.or {X : Cx} {tg e : Expr} {t t' : TI} (h : PI X tg e t) (h' : PI X tg e t') : PI X tg e (fun σ H R => t σ H R ∨ t' σ H R) := ⟨fun pins s σ H Q I q => q.elim (fun q => h.run pins s σ H Q I q) fun q => h'.run pins s σ H Q I q⟩
theorem PS.imp {X : Cx} {e : Stmt} {t t' : TS} (h : PS X e t) (hi : ∀ D σ H, t' D σ H → t D σ H) : PS X e t' := ⟨fun pins s σ H D I q => h.run pins s σ H D I (hi _ _ _ q)⟩
theorem PSs.imp {X : Cx} {e : List Stmt} {t t' : TS} (h : PSs X e t) (hi : ∀ D σ H, t' D σ H → t D σ H) : PSs X e t' := ⟨fun pins s σ H D I q => h.run pins s σ H D I (hi _ _ _ q)⟩
theorem PG.imp {X : Cx} {e : Expr} {t t' : TG} (h : PG X e t) (hi : ∀ v σ H Q, t' v σ H Q → t v σ H Q) : PG X e t' := ⟨fun pins s σ H v u Q I r q => h.run pins s σ H v u Q I r (hi _ _ _ _ q)⟩

section
variable {α α' β β' : Type} {K : PySem.W.Frag} {XR : XRel} {W : WX} {σ : L2.St} {H Hf : Hp} {ρ : List Addr} {ω : Nat → Addr} {env : Env} {m : Mem} {Rp : Hp → Hp → List Addr → β → α → Prop} {Rp' : Hp → Hp → List Addr → β' → α' → Prop} {Q : β → Hp → Prop}
theorem At.bind {Rp' : Hp → Hp → List Addr → β' → α' → Prop} (a : At K H σ Hf ρ ω env m) {f : Env → Mem → R α'} {k : α' → Mem → R α} (h : OutE K XR W σ H Hf ρ Rp ((f env m).bind k) Q) :
    tR K XR W Rp' f σ H (fun v H1 => ∃ u Hf1 ρ1 m1, Pres H Hf ρ H1 Hf1 ρ1 ∧ At K H1 σ Hf1 ρ1 ω env m1 ∧ Rp' H1 Hf1 ρ1 v u ∧ OutE K XR W σ H1 Hf1 ρ1 Rp (k u m1) Q) :=
  ⟨Hf, ρ, ω, env, m, a, (OutE.bind h).mono fun v H' ⟨u, Hf1, ρ1, m1, p, f1, r, o⟩ => ⟨u, Hf1, ρ1, m1, p, a.pres p f1, r, o⟩⟩
theorem At.ok (a : At K H σ Hf ρ ω env m) {v : β} {u : α} (h : OutE K XR W σ H Hf ρ Rp (.ok u m) Q) (r : Rp H Hf ρ v u) : Q v H := h v H Hf ρ (Pres.refl _ _ _) a.fine r
theorem At.okN (a : At K H σ Hf ρ ω env m) {v : β} {u : α} {p : Addr} {o : HO} (h : OutE K XR W σ H Hf ρ Rp (.ok u m) Q) (hp : H p = none) (r : Rp (upd H p o) (upd Hf p o) ρ v u) : Q v (upd H p o) :=
  h v _ _ ρ (Pres.new hp a.fine.sub) (a.fine.new hp) r
theorem At.free (a : At K H σ Hf ρ ω env m) {p : Addr} (hp : H p = none) : Hf p = none ∧ p ∉ ρ :=
  ⟨a.fine.sub.none hp, fun hm => by obtain ⟨o, e⟩ := a.fine.tracked hm; rw [hp] at e; cases e⟩
end
theorem Pres.none {K : PySem.W.Frag} {H Hf H' Hf' : Hp} {ρ ρ' : List Addr} {m m' : Mem} (p : Pres H Hf ρ H' Hf' ρ') (f : Fine K H Hf ρ m) (f' : Fine K H' Hf' ρ' m') {a : Addr} (h : H' a = none) : H a = none := by
  cases e : H a with
  | none => rfl
  | some o =>
    exfalso
    cases e1 : Hf a with
    | some x => rw [f'.sub _ _ (p.fz _ _ e1)] at h; cases h
    | none =>
      by_cases hm : a ∈ ρ
      · obtain ⟨t, et⟩ := p.pre
        obtain ⟨o', q⟩ := f'.tracked (a := a) (by rw [et]; exact List.mem_append_left _ hm)
        rw [q] at h; cases h
      · obtain ⟨q, _⟩ := p.kp a o e e1 hm
        rw [q] at h; cases h
/-- a list of its own, new since H0 -/
def RF (K : PySem.W.Frag) (H0 : Hp) : Hp → Hp → List Addr → V → U → Prop := fun H Hf ρ v u => ∃ p vs xs, u = .dat (.list xs) ∧ v = .ref p ∧ H0 p = none ∧ H p = some (.lst vs) ∧ Hf p = none ∧ p ∉ ρ ∧ DpAll K Hf vs xs ∧ szOk (.list xs) = true
def tF (K : PySem.W.Frag) (XR : XRel) (W : WX) (f : Env → Mem → R U) : TE :=
  fun σ H Q => ∃ Hf ρ ω env m, At K H σ Hf ρ ω env m ∧ OutE K XR W σ H Hf ρ (RF K H) (f env m) Q
abbrev tU (K : PySem.W.Frag) (XR : XRel) (W : WX) (f : Env → Mem → R U) : TE := tR K XR W (RU K) f
abbrev tB (K : PySem.W.Frag) (XR : XRel) (W : WX) (f : Env → Mem → R U) : TE := tR K XR W (RB K) f
section
variable {K : PySem.W.Frag} {XR : XRel} {W : WX} {f : Env → Mem → R U}
/-- .. frozen -/
theorem tF_of_tU {σ : L2.St} {H : Hp} {Q : VK} (h : tU K XR W f σ H Q) : tF K XR W f σ H Q := by
  obtain ⟨Hf, ρ, ω, env, m, a, o⟩ := h
  refine ⟨Hf, ρ, ω, env, m, a, ?_⟩
  cases e : f env m with
  | ok u m' =>
    rw [e] at o
    intro v H' Hf' ρ' p f' r
    obtain ⟨q, vs, xs, rfl, rfl, h0, h1, h2, h3, h4, h5⟩ := r
    have hn : H' q = some (.lst vs) := h1
    refine o _ H' (upd Hf' q (.lst vs)) ρ' (p.frozen h0 h2) (f'.freeze h1 h2 h3) ⟨.lst (.inl (.inl upd_same)) (DpAll.mono (Sub.new h2) _ _ h4), h5⟩
  | exc c x m' => rw [e] at o; exact o
  | bad => rw [e] at o; exact o
theorem PE.frz {X : Cx} {e : Expr} (h : PE X e (tF K XR W f)) : PE X e (tU K XR W f) := PE.imp h fun _ _ _ q => tF_of_tU q
theorem PE.bor {X : Cx} {e : Expr} (h : PE X e (tU K XR W f)) : PE X e (tB K XR W f) := PE.imp h fun σ H Q ⟨Hf, ρ, ω, env, m, a, o⟩ => ⟨Hf, ρ, ω, env, m, a, o.rel fun _ _ _ _ _ r => .inl r⟩
end
/-- a list, a tuple, read -/
theorem RepB.list {K : PySem.W.Frag} {H Hf : Hp} {ρ : List Addr} {v : V} {xs : List PyData} (s : Sub Hf H) (r : RepB K H Hf ρ v (.dat (.list xs))) :
    ∃ p vs, v = .ref p ∧ SqL K H p vs ∧ DpAll K Hf vs xs ∧ szOk (.list xs) = true := by
  rcases r with ⟨d, hz⟩ | ⟨p, vs, ys, e, rfl, h, _, _, ha, hz⟩
  · cases d with
    | lst hs ha => exact ⟨_, _, rfl, SqL.mono s hs, ha, hz⟩
  · cases e; exact ⟨p, vs, rfl, .inl (.inl h), ha, hz⟩
theorem RepB.tup {K : PySem.W.Frag} {H Hf : Hp} {ρ : List Addr} {v : V} {xs : List PyData} (s : Sub Hf H) (r : RepB K H Hf ρ v (.dat (.tuple xs))) :
    ∃ p vs, v = .ref p ∧ SqT K H p vs ∧ DpAll K Hf vs xs ∧ szOk (.tuple xs) = true := by
  rcases r with ⟨d, hz⟩ | ⟨p, vs, ys, e, rfl, h, _, _, ha, hz⟩
  · cases d with
    | tup hs ha => exact ⟨_, _, rfl, SqT.mono s hs, ha, hz⟩
  · cases e
theorem RepB.dp {K : PySem.W.Frag} {H Hf : Hp} {ρ : List Addr} {v : V} {d : PyData} (s : Sub Hf H) (r : RepB K H Hf ρ v (.dat d)) : Dp K H v d ∧ szOk d = true := by
  rcases r with ⟨d', hz⟩ | ⟨p, vs, ys, e, rfl, h, _, _, ha, hz⟩
  · exact ⟨Dp.mono s _ _ d', hz⟩
  · cases e; exact ⟨.lst (.inl (.inl h)) (DpAll.mono s _ _ ha), hz⟩
theorem RepB.int {K : PySem.W.Frag} {H Hf : Hp} {ρ : List Addr} {v : V} {i : Int} (r : RepB K H Hf ρ v (.dat (.int i))) : v = .int i := by
  rcases r with ⟨d', hz⟩ | ⟨p, vs, ys, e, rfl, h, _, _, ha, hz⟩
  · cases d'; rfl
  · cases e
theorem RepB.str {K : PySem.W.Frag} {H Hf : Hp} {ρ : List Addr} {v : V} {i : Str} (r : RepB K H Hf ρ v (.dat (.str i))) : v = .str i ∧ szOk (.str i) = true := by
  rcases r with ⟨d', hz⟩ | ⟨p, vs, ys, e, rfl, h, _, _, ha, hz⟩
  · cases d'; exact ⟨rfl, hz⟩
  · cases e
theorem RepB.bool {K : PySem.W.Frag} {H Hf : Hp} {ρ : List Addr} {v : V} {i : Bool} (r : RepB K H Hf ρ v (.dat (.bool i))) : v = .bl i := by
  rcases r with ⟨d', hz⟩ | ⟨p, vs, ys, e, rfl, h, _, _, ha, hz⟩
  · cases d'; rfl
  · cases e
theorem RepB.none {K : PySem.W.Frag} {H Hf : Hp} {ρ : List Addr} {v : V} (r : RepB K H Hf ρ v (.dat .none)) : v = .non := by
  rcases r with ⟨d', hz⟩ | ⟨p, vs, ys, e, rfl, h, _, _, ha, hz⟩
  · cases d'; rfl
  · cases e

/-! ### operators by values -/
section
variable {X : Cx} {XR : XRel} {W : WX}
/-- what two values' operator is asked: f by values -/
def opD (K : PySem.W.Frag) (f : PyData → PyData → Option PyData) : R2 := fun x y H Q => ∃ Hf ρ ω σ env m d e z, At K H σ Hf ρ ω env m ∧ RepB K H Hf ρ x (.dat d) ∧ RepB K H Hf ρ y (.dat e) ∧ f d e = some z ∧
  ∀ v H' Hf' ρ', Pres H Hf ρ H' Hf' ρ' → Fine K H' Hf' ρ' m → RepU K Hf' ρ' v (.dat z) → Q v H'
theorem OpR.imp {f : Value → Value → Sem Value} {r r' : R2} (h : OpR X f r) (hi : ∀ x y H Q, r' x y H Q → r x y H Q) : OpR X f r' := fun pins s σ H x y v u Q I rx ry q => h pins s σ H x y v u Q I rx ry (hi _ _ _ _ q)
theorem op_cases {f : Value → Value → Sem Value} {F : PyData → PyData → Option PyData} (h : ∀ d e z, F d e = some z → OpR X f (fun x y H Q => ∃ Hf ρ ω σ env m, At X.K H σ Hf ρ ω env m ∧ RepB X.K H Hf ρ x (.dat d) ∧ RepB X.K H Hf ρ y (.dat e) ∧
    ∀ v H' Hf' ρ', Pres H Hf ρ H' Hf' ρ' → Fine X.K H' Hf' ρ' m → RepU X.K Hf' ρ' v (.dat z) → Q v H')) : OpR X f (opD X.K F) := by
  intro pins s σ H x y v u Q I rx ry ⟨Hf, ρ, ω, σ', env, m, d, e, z, a, r1, r2, hz, q⟩
  exact h d e z hz pins s σ H x y v u Q I rx ry ⟨Hf, ρ, ω, σ', env, m, a, r1, r2, q⟩
end
end Eng

set_option Elab.async false
set_option linter.all false
set_option maxRecDepth 100000
/-! Dicts of ours: {}, d[k], d[k] = v, k in d, d.get(k, x). -/
namespace L2
open PySem PySem.Spec PyProof.Rows PySem.Calls Eng
section
variable {X : Cx} {pins : List (Addr × Obj)} {σ : St} {H : Hp} {s : Shared}
mutual
/-- a piece of data is a key -/
theorem nk_is (I : Inv X pins σ H s) : ∀ (d : PyData) (v : V) (u : Value) (k : NestedKey), Dp X.K H v d → RelV v u → nk d = some k → NestedIs s.heap k u
  | .none, _, _, k, h, r, e => by
    simp only [nk, Option.some.injEq] at e
    subst e
    cases h
    cases r
    exact .none
  | .int i, _, _, k, h, r, e => by
    simp only [nk, Option.some.injEq] at e
    subst e
    cases h
    obtain ⟨t, rfl⟩ := r
    exact .int i t
  | .tuple ds, _, _, k, h, r, e => by
    simp only [nk, Option.map_eq_some_iff] at e
    obtain ⟨ks, e, rfl⟩ := e
    cases h with
    | tup hs ha =>
      cases r
      obtain ⟨its, rv, ⟨o, ho, hc, n, hd⟩, _⟩ := I.tuple hs
      exact .tup ho hc hd (nkAll_is I ds _ its ks ha rv e)
  | .bool b, _, _, k, h, r, e => by simp [nk] at e
  | .str b, _, _, k, h, r, e => by simp [nk] at e
  | .list b, _, _, k, h, r, e => by simp [nk] at e
  | .dict b, _, _, k, h, r, e => by simp [nk] at e
theorem nkAll_is (I : Inv X pins σ H s) : ∀ (ds : List PyData) (vs : List V) (us : List Value) (ks : List NestedKey), DpAll X.K H vs ds → Vals vs us → nkAll ds = some ks → NestedAll s.heap ks us
  | [], _, _, ks, h, r, e => by
    simp only [nkAll, Option.some.injEq] at e
    subst e
    cases h
    cases r
    exact .nil
  | d :: ds, _, _, ks, h, r, e => by
    simp only [nkAll, Option.bind_eq_some_iff, Option.map_eq_some_iff] at e
    obtain ⟨k, e1, ks', e2, rfl⟩ := e
    cases h with
    | cons h1 h2 =>
      cases r with
      | cons r1 r2 => exact .cons (nk_is I d _ _ k h1 r1 e1) (nkAll_is I ds _ _ ks' h2 r2 e2)
end
theorem key_is (I : Inv X pins σ H s) {b : Addr} {d : PyData} {k : NestedKey} (h : Dp X.K H (.ref b) d) (e : keyOfD d = some k) : (nestedKind X.prog X.w).is s.heap k b := by
  obtain ⟨h1, h2, _⟩ := keyOfD_some e
  exact ⟨nk_is I d _ _ k h rfl h1, h2⟩
theorem key_ref {d : PyData} {k : NestedKey} {v : V} (h : Dp X.K H v d) (e : keyOfD d = some k) : ∃ b, v = .ref b := by
  cases h with
  | tup hs ha => exact ⟨_, rfl⟩
  | _ => simp [keyOfD] at e
/-- the dict, as the library has it -/
theorem dic_of (I : Inv X pins σ H s) {a : Addr} {es : List (NestedKey × Addr × Value)} {kvs : List (NestedKey × PyData)} (h : H a = some (.ext (DicPhi a es))) (hd : DicAt X.K H es kvs) (hn : (es.map (·.1)).Nodup) : s.heap.DictOfH (nestedKind X.prog X.w) a es := by
  obtain ⟨⟨o, ens, ep, h1, h2, h3, h4⟩, _⟩ := (show ObjOk X.prog X.w H s.heap a (.ext (DicPhi a es)) from I.hok a _ h)
  refine ⟨o, ens, ep, h1, h2, h3, by rw [h4, hd.ent X.w X.prog], fun x hx => ?_, hn⟩
  have : ∀ {es : List (NestedKey × Addr × Value)} {kvs : List (NestedKey × PyData)}, DicAt X.K H es kvs → ∀ x ∈ es, (nestedKind X.prog X.w).is s.heap x.1 x.2.1 := fun {es kvs} h => by
    induction h with
    | nil => intro x hx; exact nomatch hx
    | cons h t ih =>
      intro x hx
      rcases List.mem_cons.mp hx with rfl | hx
      · exact ⟨nk_is I _ _ _ _ h.2.2.2.2.1 rfl h.2.1, h.2.2.2.1⟩
      · exact ih x hx
  exact this hd x hx
theorem DicPhi.ok {P : Program} {w : World} {H' : Hp} {h : Heap} {a : Addr} {es : List (NestedKey × Addr × Value)} (p : DicPhi a es h) : ObjOk P w H' h a (.ext (DicPhi a es)) := by
  have p' := p
  obtain ⟨o, ens, ep, h1, h2, h3, h4⟩ := p'
  exact ⟨p, ⟨o, h1⟩, fun g1 g2 ⟨o, ens, ep, q1, q2, q3, q4⟩ hk => ⟨o, ens, ep, hk _ q1, q2, q3, q4⟩⟩
end
/-! ### {} -/
def tDNewE : TE := fun _ H Q => ∀ p, H p = none → (p == sysModules) = false → Q (.ref p) (upd H p (.ext (DicPhi p [])))
section
variable {X : Cx} {pos : Pos}
end
/-! ### d[k] -/
def rIxE (K : PySem.W.Frag) : R2 := fun x y H Q => ∃ a es kvs kd k d Hf, Sub Hf H ∧ x = .ref a ∧ H a = some (.ext (DicPhi a es)) ∧ DicAt K Hf es kvs ∧ (es.map (·.1)).Nodup ∧ Dp K H y kd ∧ keyOfD kd = some k ∧ valN kvs k = some d ∧ ∀ v, Dp K Hf v d → Q v H
def rInE (K : PySem.W.Frag) (n : Bool) : R2 := fun x y H Q => ∃ a es kvs kd k Hf, Sub Hf H ∧ y = .ref a ∧ (a == sysModules) = false ∧ H a = some (.ext (DicPhi a es)) ∧ DicAt K Hf es kvs ∧ (es.map (·.1)).Nodup ∧ Dp K H x kd ∧ keyOfD kd = some k ∧ Q (.bl (xor n (valN kvs k).isSome)) H
def rSetE (K : PySem.W.Frag) : V → V → V → Hp → (Hp → Prop) → Prop := fun o i v H Q => ∃ a es kvs kd k d Hf, Sub Hf H ∧ Hf a = none ∧ o = .ref a ∧ H a = some (.ext (DicPhi a es)) ∧ DicAt K Hf es kvs ∧ (es.map (·.1)).Nodup ∧ kvs.length ≤ sizeLine ∧ Dp K Hf i kd ∧ keyOfD kd = some k ∧ Dp K Hf v d ∧
  ∀ es', DicAt K Hf es' (putN kvs k d) → (es'.map (·.1)).Nodup → Q (upd H a (.ext (DicPhi a es')))
section
variable {X : Cx}
theorem ix_dic (hu : X.A.units + 64 < cLine) : IxR X (rIxE X.K) := by
  intro value slice pins s σ H x y v u Q I rx ry h hs
  obtain ⟨a, es, kvs, kd, k, d, Hf, sb, rfl, ha, hd, hn, hk, ek, ev, q⟩ := h
  cases rx
  obtain ⟨b, rfl⟩ := key_ref hk ek
  cases (show u = Value.ref b from ry)
  have dd := dic_of I ha (DicAt.mono sb hd) hn
  obtain ⟨p, hp, v, rv, hv⟩ := hd.some ev
  have room : (nestedKind X.prog X.w).room X.A.in1 := by show X.A.units + 1 + 8 < cLine; omega
  exact subscriptTail_builtinR (x := p.2) dd.typeIs PySem.F.slot_dict_getitem.lookup
    (wpAny_getItem_heap (Q := fun r s' => r = p.2 ∧ EP X pins σ Q r s') room (key_is I hk ek) dd hp ⟨rfl, v, H, I.tok _, rv, q v hv⟩) hs
theorem set_dic (hu : X.A.units + 64 < cLine) : PSet X (rSetE X.K) := by
  intro pins s σ H o i v ov iv u Q I ro ri rv h
  obtain ⟨a, es, kvs, kd, k, d, Hf, sb, hfa, rfl, ha, hd, hn, hl, hk, ek, hv, q⟩ := h
  cases ro
  obtain ⟨b, rfl⟩ := key_ref hk ek
  cases (show iv = Value.ref b from ri)
  have dd := dic_of I ha (DicAt.mono sb hd) hn
  have room : (nestedKind X.prog X.w).room X.A.in1 := by show X.A.units + 1 + 8 < cLine; omega
  refine wpAny_setItem_heap (hsz := by rw [hd.len]; exact hl) room (key_is I (Dp.mono sb _ _ hk) ek) dd fun h' dd' hs => ?_
  have hd' := hd.put ek hk rv hv
  obtain ⟨ob, ens, ep, hq, h2, h3, h4, _, h5⟩ := dd'
  refine ⟨_, d_write I (by rw [ha]; exact True.intro) hs ⟨ob, hq⟩ (DicPhi.ok ⟨ob, ens, ep, hq, h2, h3, by rw [h4, hd'.ent X.w X.prog]⟩), q _ hd' h5⟩
end
end L2

set_option Elab.async false
set_option linter.all false
set_option maxRecDepth 100000
/-! zip of a list or tuple and a list or tuple. -/
namespace L2
open PySem PySem.Spec PyProof.Rows
def SqK (K : PySem.W.Frag) (k : Bool) (H : Hp) (a : Addr) (xs : List V) : Prop := match k with
  | true => SqL K H a xs
  | false => SqT K H a xs
def ItK (k : Bool) (h : Heap) (it l : Addr) (i : Nat) : Prop := match k with
  | true => h.IsListIter it l i
  | false => h.IsTupleIter it l i
def ArK (k : Bool) (h : Heap) (l : Addr) (its : Array Value) : Prop := match k with
  | true => h.IsList l its
  | false => h.IsTuple l its
theorem ItK.at {k : Bool} {h h' : Heap} {it l : Addr} {i : Nat} (x : ItK k h it l i) (e : ∀ o, h.get? it = some o → h'.get? it = some o) : ItK k h' it l i := by
  cases k
  · exact Heap.IsTupleIter.at x e
  · exact Heap.IsListIter.at x e
theorem ItK.obj {k : Bool} {h : Heap} {it l : Addr} {i : Nat} (x : ItK k h it l i) : ∃ o, h.get? it = some o ∧ ∃ fs, o.data = .fields fs := by
  cases k
  · obtain ⟨o, h1, _, h2⟩ := x; exact ⟨o, h1, _, h2⟩
  · obtain ⟨o, h1, _, h2⟩ := x; exact ⟨o, h1, _, h2⟩
theorem SqK.arr {X : Cx} {pins : List (Addr × Obj)} {σ : St} {H : Hp} {s : Shared} (I : Inv X pins σ H s) {k : Bool} {a : Addr} {xs : List V} (h : SqK X.K k H a xs) : ∃ its : List Value, Vals xs its ∧ ArK k s.heap a its.toArray ∧ a < s.heap.objs.size := by
  cases k
  · obtain ⟨its, rv, p, _⟩ := I.tuple h
    obtain ⟨o, ho, _⟩ := id p
    exact ⟨its, rv, p, Heap.lt_size ho⟩
  · obtain ⟨its, rv, p, _⟩ := I.list h
    exact ⟨its, rv, p.isList, p.lt⟩
theorem SqK.inj {X : Cx} {pins : List (Addr × Obj)} {σ : St} {H : Hp} {s : Shared} (I : Inv X pins σ H s) {k : Bool} {a : Addr} {xs ys : List V} (h : SqK X.K k H a xs) (h' : SqK X.K k H a ys) : xs = ys := by
  cases k
  · exact I.tuple_inj h h'
  · exact I.list_inj h h'
theorem drawsK (k : Bool) {prog : Program} {w : World} {A : Around} (hh : A.handled = none) (it l : Addr) (hne : l ≠ it) (items : Array Value) :
    Draws prog w A it [it, l] items.size (fun i v => items[i]? = some v) (fun i h => ItK k h it l i ∧ ArK k h l items) := by
  cases k
  · exact Draws.tuple hh it l hne items
  · exact Draws.list hh it l hne items
theorem beginsK (k : Bool) (l : Addr) (items : Array Value) : ∃ o : Obj, Begins (.ref l) o (fun h => ArK k h l items) ∧ ∀ (h : Heap) (it : Addr), h.get? it = some o → ItK k h it l 0 := by
  cases k
  · exact ⟨_, begins_tuple l items, fun h it e => ⟨_, e, rfl, rfl⟩⟩
  · exact ⟨_, begins_list l items, fun h it e => ⟨_, e, rfl, rfl⟩⟩
/-- the sequences as they stand at each turn, the items in new pairs -/
def ItzK (K : PySem.W.Frag) (k1 k2 : Bool) (a b : Addr) : It :=
  ⟨fun i H => ∃ (xs ys : List V) (x y : V), SqK K k1 H a xs ∧ SqK K k2 H b ys ∧ xs[i]? = some x ∧ ys[i]? = some y,
    fun i H v H' => ∃ T x y, v = .ref T ∧ H T = none ∧ H' = upd H T (.tup [x, y]) ∧ (∀ xs, SqK K k1 H a xs → xs[i]? = some x) ∧ ∀ ys, SqK K k2 H b ys → ys[i]? = some y,
    fun i H => ∃ xs ys : List V, SqK K k1 H a xs ∧ SqK K k2 H b ys ∧ (i ≤ xs.length ∧ i ≤ ys.length) ∧ (i = xs.length ∨ i = ys.length)⟩
theorem sepK {z TI TO i1 i2 a b : Addr} (D : ZipApart z TI TO i1 i2 a b) : ZipSep2 z TI TO i1 i2 [i1, a] [i2, b] where
  TIz := D.TIz
  TOz := D.TOz
  TITO := D.TITO
  TIi1 := D.TIi1
  mem1 := by simp
  zf1 := by simp [D.i1z.symm, D.l1z.symm]
  Tf1 := by simp [D.TOi1, D.l1TO.symm]
  TIi2 := D.TIi2
  mem2 := by simp
  zf2 := by simp [D.i2z.symm, D.l2z.symm]
  Tf2 := by simp [D.TOi2, D.l2TO.symm]
  sep1_2 := by simp [D.i12, D.l2i1.symm]
  sep2_1 := by simp [D.i12.symm, D.l1i2.symm]
theorem turn_zipK {P : Program} {w : World} {K : PySem.W.Frag} (k1 k2 : Bool) {elts : List Expr} {kk : Nat} {tpos : Pos} {a b z TI TO i1 i2 : Addr} (D : ZipApart z TI TO i1 i2 a b) :
    Turn P w K (.Tuple elts kk tpos) (ItzK K k1 k2 a b) [z, TI, TO, i1, i2] z (fun i h => IsZip h z TI TO .none ∧ IsPair h TI (.ref i1) (.ref i2) ∧ (∃ x y, IsPair h TO x y) ∧ ItK k1 h i1 a i ∧ ItK k2 h i2 b i) where
  mem := by simp
  obj := fun i h st c hc => by
    obtain ⟨hz, hTI, ⟨x, y, hTO⟩, t1, t2⟩ := st
    obtain ⟨o1, e1, f1, d1⟩ := t1.obj
    obtain ⟨o2, e2, f2, d2⟩ := t2.obj
    have e' : c = z ∨ c = TI ∨ c = TO ∨ c = i1 ∨ c = i2 := by simpa using hc
    rcases e' with q | q | q | q | q
    · rw [q]; exact ⟨_, hz, fun v q => nomatch q⟩
    · rw [q]; exact ⟨_, hTI, fun v q => nomatch q⟩
    · rw [q]; exact ⟨_, hTO, fun v q => nomatch q⟩
    · rw [q]; exact ⟨o1, e1, fun v q => by rw [d1] at q; cases q⟩
    · rw [q]; exact ⟨o2, e2, fun v q => by rw [d2] at q; cases q⟩
  keep := fun i h h' st k => by
    obtain ⟨hz, hTI, ⟨x, y, hTO⟩, h1, h2⟩ := st
    exact ⟨k z (by simp) _ hz, k TI (by simp) _ hTI, ⟨x, y, k TO (by simp) _ hTO⟩, h1.at fun o q => k i1 (by simp) o q, h2.at fun o q => k i2 (by simp) o q⟩
  item := by
    intro X hP hw hK hc i pins s σ H E I hf st hg
    subst hP hw hK
    obtain ⟨hz, hTI, ⟨x0, y0, hTO⟩, h1, h2⟩ := st
    obtain ⟨xs, ys, x, y, hqx, hqy, hx, hy⟩ := hg
    obtain ⟨its, rv, p, _⟩ := SqK.arr I hqx
    obtain ⟨its2, rv2, p2, _⟩ := SqK.arr I hqy
    obtain ⟨u, hu, ru⟩ := rv.get hx
    obtain ⟨u2, hu2, ru2⟩ := rv2.get hy
    have hzl : z < s.heap.objs.size := Heap.lt_size hz
    have hh : X.A.in1.handled = none := I.ok.hd hc
    have lt1 : i < its.toArray.size := by rw [List.size_toArray]; exact (List.getElem?_eq_some_iff.mp hu).1
    have lt2 : i < its2.toArray.size := by rw [List.size_toArray]; exact (List.getElem?_eq_some_iff.mp hu2).1
    refine wpAny_pyNext_zipD2_item (sepK D) (drawsK k1 hh i1 a D.l1i1 its.toArray) (drawsK k2 hh i2 b D.l2i2 its2.toArray) hz hTI hTO ⟨h1, p⟩ ⟨h2, p2⟩ lt1 lt2 fun v1 v2 h' tk e1 e2 z' TO' h1' h2' hT hsz hk => ?_
    have ev1 : v1 = u := by
      have e1' : its[i]? = some v1 := by simpa using e1
      rw [hu] at e1'; cases e1'; rfl
    have ev2 : v2 = u2 := by
      have e2' : its2[i]? = some v2 := by simpa using e2
      rw [hu2] at e2'; cases e2'; rfl
    subst ev1 ev2
    refine ⟨_, rfl, wpAny_letOwnedTupleGo_zip (s := { s with heap := h', toks := tk }) z' fun h'' z'' sb => ?_⟩
    have hT2 : h''.get? s.heap.objs.size = some { cls := .type "tuple", data := .seq #[v1, v2] } := (sb.2 _ (Nat.ne_of_gt hzl)).trans hT
    have new : ObjOk X.prog X.w (upd H s.heap.objs.size (.tup [x, y])) h'' s.heap.objs.size (.tup [x, y]) :=
      ⟨by show 2 ≤ sizeLine; decide, [v1, v2], .cons ru (.cons ru2 .nil), ⟨_, hT2, rfl, _, rfl⟩⟩
    have I1 : Inv X pins σ (upd H s.heap.objs.size (.tup [x, y])) { s with heap := h'', toks := tk } :=
      I.turnedNew (t' := tk) (ch := [z, TI, TO, i1, i2]) (fun c o hb q => (sb.2 c (fun q' => hb (by simp [q']))).trans (hk c o (fun q' => hb (by simp [q'])) (fun q' => hb (by simp [q'])) (fun q' => hb (by simp [q'])) (fun q' => hb (by simp [q'])) q)) hf (Nat.le_refl _) new
    refine ⟨.ref s.heap.objs.size, _, I1, rfl, ⟨_, x, y, rfl, I.hok.fresh (Nat.le_refl _), rfl, fun l hl => by rw [SqK.inj I hl hqx]; exact hx, fun l hl => by rw [SqK.inj I hl hqy]; exact hy⟩, ⟨z'', ?_, ⟨v1, v2, ?_⟩, ?_, ?_⟩, fun c hcm => ?_⟩
    · exact (sb.2 _ D.TIz).trans (hk _ _ D.TIz D.TITO D.TIi1 D.TIi2 hTI)
    · exact (sb.2 _ D.TOz).trans TO'
    · exact h1'.1.at fun o q => (sb.2 _ D.i1z).trans q
    · exact h2'.1.at fun o q => (sb.2 _ D.i2z).trans q
    · have hlt : c < s.heap.objs.size := by
        have e' : c = z ∨ c = TI ∨ c = TO ∨ c = i1 ∨ c = i2 := by simpa using hcm
        rcases e' with q | q | q | q | q
        · rw [q]; exact hzl
        · rw [q]; exact Heap.lt_size hTI
        · rw [q]; exact Heap.lt_size hTO
        · rw [q]; obtain ⟨_, e1, _⟩ := h1.obj; exact Heap.lt_size e1
        · rw [q]; obtain ⟨_, e2, _⟩ := h2.obj; exact Heap.lt_size e2
      rw [upd_ne (Nat.ne_of_lt hlt)]
      exact (hf c hcm).1
  done := by
    intro X hP hw hK hc i pins s σ H E I hf st hg
    subst hP hw hK
    obtain ⟨hz, hTI, ⟨x0, y0, hTO⟩, h1, h2⟩ := st
    obtain ⟨xs, ys, hqx, hqy, hle, hend⟩ := hg
    obtain ⟨its, rv, p, _⟩ := SqK.arr I hqx
    obtain ⟨its2, rv2, p2, _⟩ := SqK.arr I hqy
    have l1 := rv.length
    have l2 := rv2.length
    have hh : X.A.in1.handled = none := I.ok.hd hc
    exact wpAny_pyNext_zipD2_end (sepK D) (drawsK k1 hh i1 a D.l1i1 its.toArray) (drawsK k2 hh i2 b D.l2i2 its2.toArray) hz hTI hTO ⟨h1, p⟩ ⟨h2, p2⟩ (by rw [List.size_toArray]; omega) (by rw [List.size_toArray]; omega) (by rw [List.size_toArray, List.size_toArray]; omega) fun h' tk hk => ⟨rfl, I.turnedL (t' := tk) (ch := [z, TI, TO, i1, i2]) (fun c o hb q =>
      hk c o (fun q' => hb (by simp [q'])) (fun q' => hb (by simp [q'])) (fun q' => hb (by simp [q'])) (fun q' => hb (by simp [q'])) q) hf⟩
  self := fun A i s Q E st h => wpAny_pyIter_zip st.1 h
def iZipK (K : PySem.W.Frag) (ta : TA) : TI := fun σ H R => ta σ H fun vs H1 => ∃ k1 k2 a b xs ys, vs = [.ref a, .ref b] ∧ SqK K k1 H1 a xs ∧ SqK K k2 H1 b ys ∧ R (ItzK K k1 k2 a b) H1
theorem pi_zipK {X : Cx} {e e2 : Expr} {ta : TA} {p pos tpos : Pos} {elts : List Expr} {kk : Nat} (hg : Gl X "zip") (hm : X.mg "zip" = none) (ha : PA X [e, e2] ta)
    (hs : starEach [e, e2] X.env = (false, eval e X.env) :: starEach [e2] X.env := by rfl) (hpl : (backTo pos (starEach [e2] X.env)).any (·.1) = false := by rfl) :
    PI X (.Tuple elts kk tpos) (.Call (.Name "zip" p) [e, e2] [] pos) (iZipK X.K ta) := by
  refine ⟨fun pins s σ H R I h => ?_⟩
  refine Call_ (ld_blt I hg hm PyProof.Rows.boot_zip (PyProof.Rows.callWith_type1 (thn (ha.run pos pins s σ H _ I h) fun us s1 ⟨vs, H1, I1, r1, q1⟩ => ?_) hs hpl))
  obtain ⟨k1, k2, a, b, xs, ys, ex, hqx, hqy, q⟩ := q1
  subst ex
  cases r1 with
  | cons r rr =>
    cases rr with
    | cons r' rr =>
      cases rr
      cases r
      cases r'
      have fresh5 : ∀ c, c ∈ [s1.heap.objs.size + 4, s1.heap.objs.size + 2, s1.heap.objs.size + 3, s1.heap.objs.size, s1.heap.objs.size + 1] → FpOk X pins H1 c := fun c hcm => by
        have hle : s1.heap.objs.size ≤ c := by
          simp only [List.mem_cons, List.not_mem_nil, or_false] at hcm
          rcases hcm with z | z | z | z | z <;> (rw [z]; omega)
        exact I1.fpOk hle (I1.hok.fresh hle)
      obtain ⟨its, rv, p1, lt1⟩ := SqK.arr I1 hqx
      obtain ⟨its2, rv2, p2, lt2⟩ := SqK.arr I1 hqy
      obtain ⟨o1, B1, f1⟩ := beginsK k1 a its.toArray
      obtain ⟨o2, B2, f2⟩ := beginsK k2 b its2.toArray
      refine zip_begins2 B1 B2 p1 p2 fun h' hz hTI hTO h1 h2 hsz hk => wpAny_pyIter_zip hz ?_
      have I2 : Inv X pins σ H1 { s1 with heap := h' } := I1.kept (t' := s1.toks) hk
      exact ⟨s1.heap.objs.size + 4, [s1.heap.objs.size + 4, s1.heap.objs.size + 2, s1.heap.objs.size + 3, s1.heap.objs.size, s1.heap.objs.size + 1], _, _, H1, rfl, I2, turn_zipK k1 k2 (PySem.W.ktu_apart s1.heap.objs.size a b lt1 lt2), ⟨hz, hTI, ⟨_, _, hTO⟩, f1 _ _ h1, f2 _ _ h2⟩, fresh5, q⟩
end L2

set_option Elab.async false
set_option linter.all false
set_option maxRecDepth 100000
set_option maxHeartbeats 3200000
/-! sorted(set(xs)), xs a list of ints. -/
namespace EngQ
open PySem PySem.Spec PyProof.Rows L2 RZ PySem.Calls
/-- a new set's object -/
abbrev fob (w : World) : Obj := { cls := .type "set", dict := none, data := .set #[] 0 (.fresh 0 0 (!w.params.followText "set-order")) }
section
variable {P : Program} {w : World} {A : Around} {E : Value → Shared → Prop} {s : Shared}
theorem call_setI {l : Addr} {its : Array Value} (ns : List Int) {Q : Value → Shared → Prop} (hh : A.handled = none) (hl : s.heap.IsList l its) (hit : IntsAre its.toList ns) (hb : ns.length + 1 < scanBound)
    (fin : ∀ (g : Heap) (tk c : Nat), SetR w g s.heap.objs.size (fun j => decide (j ∈ ns)) c → c ≤ ns.length → (∀ b o, s.heap.get? b = some o → g.get? b = some o) → Q (.ref s.heap.objs.size) { s with heap := g, toks := tk }) :
    wpAny (model P w) A (call (.type "set") [.ref l]) Q E s := by
  have isz : its.size = ns.length := by have q := hit.length; rwa [Array.length_toList] at q
  refine wpAny_call (codeAny_of_tree ?_); show wpAny _ _ (callAny (.type "set") _) _ _ _
  refine wpAny_pure ⟨Code.quiet_builtin _ (by decide +kernel), codeAny_builtin PySem.F.entry_type_call ?_⟩
  rw [Around.under_plain (weight_type_call_type "set" [.ref l] []) rfl]
  have ⟨_, _, k1⟩ := PySem.F.called_set.mro
  have k2 := PySem.F.called_set.made; have k3 := PySem.F.called_set.sub; have k4 := PySem.F.called_set.notType; have k5 := PySem.F.called_set.canCreate
  have k6 := PySem.F.typeCall_set_1 (.ref l)
  repeat (any_goals (first | assumption | wp_step))
  refine codeAny_mono (code_set_led1 (.ref l) (Q₁ := fun ob z => ob = .ref s.heap.objs.size ∧ z = { s with heap := s.heap.push (fob w) }) (E := E) ⟨rfl, rfl⟩) fun r z hr => ?_
  cases r with
  | error e => exact hr
  | ok fl =>
  cases fl with
  | ret ob =>
    obtain ⟨rfl, rfl⟩ := hr
    have hS : (s.heap.push (fob w)).get? s.heap.objs.size = some (fob w) := Heap.get?_push_size _ rfl
    have hT : Shared.TypeIs { s with heap := s.heap.push (fob w) } (.ref s.heap.objs.size) "set" := ⟨_, hS, rfl⟩
    have i1 := PySem.F.called_set.init.lookup; have i2 := PySem.F.called_set.init.bind (.ref s.heap.objs.size)
    repeat (any_goals (first | assumption | wp_step))
    refine codeAny_mono (codeAny_call_builtin (R := wants (fun r y => r = .none ∧ ∃ g tk c, y = { s with heap := g, toks := tk } ∧ SetR w g s.heap.objs.size (fun j => decide (j ∈ ns)) c ∧ c ≤ ns.length ∧ ∀ b o, s.heap.get? b = some o → g.get? b = some o) E) PySem.F.called_set.init.plain PySem.F.entry_set_init
      (check_set_init_1 hT ?_)) fun r₂ y hy => ?_
    · have hlS : l < s.heap.objs.size := Heap.lt_size hl.choose_spec.1
      obtain ⟨⟨oc, od, ox, os⟩, hol, hcl, nl, hdl⟩ := hl
      simp only at hcl hdl; subst hcl; subst hdl
      have hol' : (s.heap.push (fob w)).get? l = some { cls := .type "list", dict := od, data := .seq its nl, slots := os } := Heap.get?_push_of_some _ hol
      have s1 := PySem.F.sub_list_set; have s2 := PySem.F.sub_list_frozenset
      have s3 : (Value.type "list" == Value.type "dict") = false := by decide
      have hl1 : (s.heap.push (fob w)).IsList l its := ⟨_, hol', rfl, nl, rfl⟩
      unfold Builtin.«set.__init__» noKeywords Builtin.Frozenset.updateFrom
      generalize hPI : pyIter = PI
      wp_walk
      subst hPI
      refine wpAny_pyIter_list hl1 (wpAny_bind (wpAny_runValue ?_))
      have h3 : A.in1.in1.in1.handled = none := by simp [hh]
      have z1 : (s.heap.push (fob w)).objs.size = s.heap.objs.size + 1 := Heap.size_push ..
      have nI : l ≠ (s.heap.push (fob w)).objs.size := Nat.ne_of_lt (by rw [z1]; exact Nat.lt_succ_of_lt hlS)
      have nS : s.heap.objs.size ∉ [(s.heap.push (fob w)).objs.size, l] := by
        rw [z1]; simp only [List.mem_cons, List.not_mem_nil, or_false, not_or]; exact ⟨Nat.ne_of_lt (Nat.lt_succ_self _), Nat.ne_of_gt hlS⟩
      have hv : ∀ (i : Nat) (v : Value), its[i]? = some v → ∃ k t, ns[i]? = some k ∧ v = .int k t := fun i v hv => by
        have hi : i < ns.length := by rw [← isz]; exact (Array.getElem?_eq_some_iff.mp hv).1
        obtain ⟨t, e⟩ := hit.int_at i v (by rw [Array.getElem?_toList]; exact hv)
        exact ⟨ns[i], t, List.getElem?_eq_getElem hi, by rw [e, List.getD_eq_getElem?_getD, List.getElem?_eq_getElem hi] <;> rfl⟩
      refine set_update_ints ((Walks.list h3 _ l nI its).toS) s.heap.objs.size nS ns isz hb hv (its.size - 0) 0 _ (by omega) (Nat.zero_le _) ⟨⟨_, Heap.get?_push_size _ rfl, rfl, rfl⟩, hl1.push _⟩ ⟨0, Nat.le_refl 0, setR_new_at (Heap.get?_push_of_some _ hS)⟩ fun y c' hm hc' hS' => ?_
      obtain ⟨g, g2, d', tk, os'⟩ := y
      obtain rfl : g2 = s.gens := hm.gens
      obtain rfl : d' = s.drawn := hm.drawn
      obtain rfl : os' = s.os := hm.os
      show wpAny _ _ _ _ _ _
      refine wpAny_pure ?_
      show wpAny _ _ (ret Value.none) _ _ _
      rw [isz] at hc'
      refine wpAny_pure ⟨rfl, g, tk, c', rfl, hS', hc', fun b o e => ?_⟩
      have b0 : b < s.heap.objs.size := Heap.lt_size e
      refine hm.heap b o ?_ (Heap.get?_push_of_some _ (Heap.get?_push_of_some _ e))
      rw [z1]; simp only [List.mem_cons, List.not_mem_nil, or_false, not_or]; exact ⟨Nat.ne_of_lt b0, Nat.ne_of_lt (Nat.lt_succ_of_lt b0)⟩
    · cases r₂ with
      | error e => exact hy
      | ok f2 =>
        cases f2 with
        | ret r =>
          obtain ⟨rfl, g, tk, c', rfl, hS', hc', hk'⟩ := hy
          repeat (any_goals (first | assumption | wp_step))
          exact fin _ _ _ hS' hc' hk'
        | _ => exact hy.elim
  | _ => exact hr.elim
end
theorem len_sub : ∀ (l D : List Int), l.Nodup → (∀ x ∈ l, x ∈ D) → l.length ≤ D.length
  | [], _, _, _ => Nat.zero_le _
  | x :: l, D, hn, hs => by
    obtain ⟨h1, h2⟩ := List.nodup_cons.mp hn
    have hx : x ∈ D := hs x List.mem_cons_self
    have ih := len_sub l (D.erase x) h2 fun y hy => by
      have ne : y ≠ x := fun e => h1 (by rw [← e]; exact hy)
      exact (List.mem_erase_of_ne ne).2 (hs y (List.mem_cons_of_mem _ hy))
    have := List.length_erase_of_mem hx
    have := List.length_pos_of_mem hx
    rw [List.length_cons]; omega
theorem set_count {w : World} {g : Heap} {a : Addr} {ns : List Int} {c : Nat} (h : SetR w g a (fun j => decide (j ∈ ns)) c) (D : List Int) (hD : ∀ k ∈ ns, k ∈ D) : c ≤ D.length := by
  obtain ⟨o, es, ep, t, _, _, _, _, nd, hm, _, _, hn, _⟩ := h
  have := len_sub _ D nd fun k hk => hD k (of_decide_eq_true ((hm k).mpr hk))
  rw [List.length_map, Array.length_toList] at this
  omega
/-- set(xs) -/
def rSetL (w : World) (K : PySem.W.Frag) : List V → Hp → VK → Prop := fun vs H Q => ∃ (a : Addr) (ns : List Int), vs = [V.ref a] ∧ SqL K H a (ns.map V.int) ∧ ns.length ≤ 1000 ∧ ∀ p c, H p = none → (∀ D : List Int, (∀ k ∈ ns, k ∈ D) → c ≤ D.length) → Q (.ref p) (upd H p (SetO w p (fun j => decide (j ∈ ns)) c))
section
variable {X : Cx}
theorem cr_setL (hc : X.calm = true) : CallR X (.type "set") (rSetL X.w X.K) := by
  intro pins s σ H vs us Q I r h
  obtain ⟨a, ns, rfl, hq, hl, q⟩ := h
  rw [Vals.ref1 r]
  obtain ⟨its, rv, pl, hz⟩ := I.list hq
  refine call_setI ns (I.ok.hd hc) pl.isList (by simpa using intsAre_vals rv) (by unfold scanBound; omega) fun g tk c hS hc' hk => ?_
  have hn : H s.heap.objs.size = none := I.hok.fresh (Nat.le_refl _)
  exact ⟨.ref s.heap.objs.size, _, I.laid (t' := tk) hk (Nat.le_refl _) (setO_new hS), rfl, q _ c hn (set_count hS)⟩
end
end EngQ

set_option Elab.async false
set_option linter.all false
set_option maxRecDepth 100000
set_option maxHeartbeats 4000000
/-! Rules of the machine that the layer lacks: a tuple times one, any and sum of a tuple, sorted of data. -/
namespace L2
open PySem PySem.Spec PyProof.Rows
theorem tuple_mul_one (l : Addr) (items : Array Value) (n : Nat) (dd : Option Addr) (sl : Array (Option Value)) (u : Tok) :
    Meets (Builtin.«tuple.__mul__» ⟨[.ref l, .int 1 u], []⟩) (fun _ R s => s.heap.get? l = some { cls := .type "tuple", dict := dd, data := .seq items n, slots := sl } ∧ R (.ok (.ret (Value.ref l))) s) :=
  .of_wp fun prog w A R s h => by
    obtain ⟨hp, g, d, tk, os⟩ := s
    obtain ⟨hl, h⟩ := h
    have f1 := AutoSeq1.idx_int
    have c0 : (decide ((1 : Int) < -(2 ^ 63)) || decide ((1 : Int) ≥ 2 ^ 63)) = false := by decide
    have c1 : (items.isEmpty || (1 : Int) == 1) = true := by simp
    wp_walk using wpAny_loadPart' hl
    repeat (first
      | (refine wpAny_ite_false (decide_eq_false (by rw [c0]; exact Bool.false_ne_true)) ?_; wp_walk using wpAny_loadPart' hl)
      | (refine wpAny_ite_true (decide_eq_true (by rw [c1])) ?_; wp_walk using wpAny_loadPart' hl))
    exact ⟨_, rfl, h⟩
theorem tuple_mul_zero (l : Addr) (items : Array Value) (n : Nat) (dd : Option Addr) (sl : Array (Option Value)) (u : Tok) (hi : items.isEmpty = false) :
    Meets (Builtin.«tuple.__mul__» ⟨[.ref l, .int 0 u], []⟩) (fun _ R s => s.heap.get? l = some { cls := .type "tuple", dict := dd, data := .seq items n, slots := sl } ∧
      R (.ok (.ret (Value.ref s.heap.objs.size))) { s with heap := s.heap.push { cls := Value.type "tuple", data := Data.seq #[] }, toks := s.toks }) :=
  .of_wp fun prog w A R s h => by
    obtain ⟨hp, g, d, tk, os⟩ := s
    obtain ⟨hl, h⟩ := h
    have f1 := AutoSeq1.idx_int
    have c0 : (decide ((0 : Int) < -(2 ^ 63)) || decide ((0 : Int) ≥ 2 ^ 63)) = false := by decide
    have c1 : (items.isEmpty || (0 : Int) == 1) = false := by rw [hi]; rfl
    have c2 : (decide ((0 : Int) ≤ 0) || items.isEmpty) = true := by simp
    wp_walk using wpAny_loadPart' hl
    repeat (first
      | (refine wpAny_ite_false (decide_eq_false (by rw [c0]; exact Bool.false_ne_true)) ?_; wp_walk using wpAny_loadPart' hl)
      | (refine wpAny_ite_false (decide_eq_false (by rw [c1]; exact Bool.false_ne_true)) ?_; wp_walk using wpAny_loadPart' hl)
      | (refine wpAny_ite_true (decide_eq_true (by rw [c2])) ?_; wp_walk using wpAny_loadPart' hl))
    exact ⟨_, rfl, h⟩
section
variable {X : Cx}
theorem op_repT0 : OpR X (binaryOp .Mult) (fun x y H Q => ∃ l xs, x = .ref l ∧ y = .int 0 ∧ SqT X.K H l xs ∧ xs ≠ [] ∧ ∀ p, H p = none → Q (.ref p) (upd H p (.tup []))) := by
  intro pins s σ H x y v u Q I rx ry h
  obtain ⟨l, xs, rfl, rfl, hT, hne, q⟩ := h
  cases rx
  obtain ⟨t, rfl⟩ := ry
  obtain ⟨its, r, ⟨⟨cls, dd, data, sl⟩, ho, hc, n, hd⟩, hs⟩ := I.tuple hT
  simp only at hc hd
  subst hc hd
  have hle : its.length = xs.length := r.length.symm
  have hn : its ≠ [] := fun e => hne (by
    rw [e] at hle
    exact List.eq_nil_of_length_eq_zero hle.symm)
  have hi : its.toArray.isEmpty = false := by
    cases its with
    | nil => exact absurd rfl hn
    | cons a b => rfl
  refine wpAny_binaryOp_repeat_ref (T := "tuple") (U := "int") (by decide) ⟨_, ho, rfl⟩ (fun s' => typeIs_int s' 0 t) noFill_tuple_mul F.fills_int_mul F.slot_int_rmul repeat_tuple F.slot_int_index.lookup
    (call_meets F.slot_int_rmul (typeIs_int s 0 t) F.entry_int_rmul (F.args_int_rmul_2 _ _) (int_rmul_tuple 0 t l its.toArray n dd sl)
      ⟨ho, rfl, ⟨_, ho, rfl⟩, call_meets F.slot_tuple_mul ⟨_, ho, rfl⟩ F.entry_tuple_mul (F.args_tuple_mul_2 _ _) (tuple_mul_zero l its.toArray n dd sl t hi) ⟨ho, ?_⟩⟩)
  refine ⟨.ref s.heap.objs.size, _, I.laid (t' := s.toks) (o := .tup []) (fun b ob q => Heap.get?_push_of_some _ q) (Nat.le_refl _) ?_, rfl, q _ (I.hok.fresh (Nat.le_refl _))⟩
  exact ⟨by simp, [], .nil, IsTup.new _ _⟩
theorem op_repT1 : OpR X (binaryOp .Mult) (fun x y H Q => ∃ l xs, x = .ref l ∧ y = .int 1 ∧ SqT X.K H l xs ∧ Q (.ref l) H) := by
  intro pins s σ H x y v u Q I rx ry h
  obtain ⟨l, xs, rfl, rfl, hT, q⟩ := h
  cases rx
  obtain ⟨t, rfl⟩ := ry
  obtain ⟨its, r, ⟨⟨cls, dd, data, sl⟩, ho, hc, n, hd⟩, hs⟩ := I.tuple hT
  simp only at hc hd
  subst hc hd
  refine wpAny_binaryOp_repeat_ref (T := "tuple") (U := "int") (by decide) ⟨_, ho, rfl⟩ (fun s' => typeIs_int s' 1 t) noFill_tuple_mul F.fills_int_mul F.slot_int_rmul repeat_tuple F.slot_int_index.lookup
    (call_meets F.slot_int_rmul (typeIs_int s 1 t) F.entry_int_rmul (F.args_int_rmul_2 _ _) (int_rmul_tuple 1 t l its.toArray n dd sl)
      ⟨ho, rfl, ⟨_, ho, rfl⟩, call_meets F.slot_tuple_mul ⟨_, ho, rfl⟩ F.entry_tuple_mul (F.args_tuple_mul_2 _ _) (tuple_mul_one l its.toArray n dd sl t) ⟨ho, ?_⟩⟩)
  exact ⟨.ref l, H, I, rfl, q⟩
theorem dp_ints {K : PySem.W.Frag} {H : Hp} : ∀ ns : List Int, DpAll K H (ns.map V.int) (ns.map PyData.int)
  | [] => .nil
  | n :: ns => .cons (.int n) (dp_ints ns)
theorem plain_ints : ∀ ns : List Int, PyData.plainAll (ns.map PyData.int) = true
  | [] => rfl
  | n :: ns => by simp only [List.map_cons, PyData.plainAll, PyData.plain, plain_ints ns, Bool.and_self]
/-- any(t), t a tuple of ints -/
theorem cr_anyT (hc : X.calm = true) : CallR X (.builtin "any") (fun vs H Q => ∃ (a : Addr) (ns : List Int), vs = [V.ref a] ∧ SqT X.K H a (ns.map V.int) ∧ Q (.bl (ns.any fun i => i != 0)) H) := by
  intro pins s σ H vs us Q I r h
  obtain ⟨a, ns, rfl, hs, q⟩ := h
  obtain ⟨its, rv, hl, _⟩ := I.tuple hs
  rw [Vals.ref1 r]
  have hi := rv.ints
  have hd : ∃ as, ReadsAll s.heap its (ns.map PyData.int) as := Dp.readsAll I _ (ns.map V.int) its (dp_ints ns) rv
  obtain ⟨as, hr⟩ := hd
  refine PySem.W.any_tuple_data (I.ok.hd hc) hl hr ?_ (fun x hx => ?_) fun h' tk hk => ?_
  · exact plain_ints ns
  · obtain ⟨n, _, rfl⟩ := List.mem_map.mp hx
    simp only [PyData.fits63]
  · have e : (ns.map PyData.int).any PyData.truthy = ns.any fun i => i != 0 := by
      rw [List.any_map]
      rfl
    rw [e]
    exact ⟨.bl _, H, I.kept (t' := tk) hk, rfl, q⟩
/-- any(l), l a list of ints -/
theorem cr_anyI (hc : X.calm = true) : CallR X (.builtin "any") (fun vs H Q => ∃ (a : Addr) (ns : List Int), vs = [V.ref a] ∧ SqL X.K H a (ns.map V.int) ∧ Q (.bl (ns.any fun i => i != 0)) H) := by
  intro pins s σ H vs us Q I r h
  obtain ⟨a, ns, rfl, hs, q⟩ := h
  obtain ⟨its, rv, hl, _⟩ := I.list hs
  rw [Vals.ref1 r]
  have hd : ∃ as, ReadsAll s.heap its (ns.map PyData.int) as := Dp.readsAll I _ (ns.map V.int) its (dp_ints ns) rv
  obtain ⟨as, hr⟩ := hd
  refine PySem.W.any_list_data (I.ok.hd hc) hl.isList hr ?_ (fun x hx => ?_) fun h' tk hk => ?_
  · exact plain_ints ns
  · obtain ⟨n, _, rfl⟩ := List.mem_map.mp hx
    simp only [PyData.fits63]
  · have e : (ns.map PyData.int).any PyData.truthy = ns.any fun i => i != 0 := by
      rw [List.any_map]
      rfl
    rw [e]
    exact ⟨.bl _, H, I.kept (t' := tk) hk, rfl, q⟩
/-- sum(t), t a tuple of ints -/
theorem cr_sumT (hc : X.calm = true) : CallR X (.builtin "sum") (fun vs H Q => ∃ (a : Addr) (ns : List Int), vs = [V.ref a] ∧ SqT X.K H a (ns.map V.int) ∧ Q (.int ns.sum) H) := by
  intro pins s σ H vs us Q I r h
  obtain ⟨a, ns, rfl, hs, q⟩ := h
  obtain ⟨its, rv, hl, _⟩ := I.tuple hs
  rw [Vals.ref1 r]
  have hi := rv.ints
  obtain ⟨xs, e⟩ := hi.allInts.items
  have hn : numsOf (intItems xs).toList = ns := by rw [← e]; exact hi.numsOf
  rw [nums_intItems] at hn
  rw [e] at hl
  refine PySem.W.ktm_sumG (I.ok.hd hc) hl fun h' tk t' hk => ?_
  refine ⟨.int ns.sum, H, I.kept (t' := tk) hk, ⟨t', ?_⟩, q⟩
  rw [preSum_eq, List.take_of_length_le (by simp), hn]
/-- sorted(xs), of data that can be ordered -/
theorem cr_sortedD (hu : X.A.units + 64 < cLine) : CallR X (.builtin "sorted") (fun vs H Q => ∃ (a : Addr) (xs : List V) (ds : List PyData), vs = [V.ref a] ∧ SqL X.K H a xs ∧ DpAll X.K H xs ds ∧ Eng.sortOk ds ∧
    ∀ (zs : List (V × PyData)) p, zs.Perm (xs.zip ds) → zs.map (·.2) = ds.mergeSort (PySem.W.dataLe false id) → H p = none → Q (.ref p) (upd H p (.lst (zs.map (·.1))))) := by
  intro pins s σ H vs us Q I r h
  obtain ⟨a, xs, ds, rfl, hs, hd, hok, q⟩ := h
  obtain ⟨its, rv, hl, hz⟩ := I.list hs
  rw [Vals.ref1 r]
  have lz : its.length = xs.length := rv.length.symm
  have ld : xs.length = ds.length := DpAll.len hd
  rcases hok with ⟨h2, _⟩ | ⟨hal, hso, hdp⟩
  · refine Srt.sorted_any hl.isList (by rw [← rv.length]; exact hz) (fun h => by omega) fun out hp => ?_
    have eo : out = its := by
      match its, out, hp, (show its.length < 2 by omega) with
      | [], out, hp, _ => exact hp.eq_nil
      | [x], out, hp, _ => exact List.perm_singleton.mp hp
      | _ :: _ :: _, _, _, h => exact absurd h (by simp)
    subst eo
    have em : ds.mergeSort (PySem.W.dataLe false id) = ds := by
      match ds, h2 with
      | [], _ => simp
      | [x], _ => simp
      | _ :: _ :: _, h => exact absurd h (by simp)
    obtain ⟨n, hn⟩ := sortedAll_at s.heap out out.toArray
    have e1 : (xs.zip ds).map (·.1) = xs := List.map_fst_zip (by omega)
    have e2 : (xs.zip ds).map (·.2) = ds := List.map_snd_zip (by omega)
    refine ⟨.ref _, upd H (s.heap.objs.size + 1) (.lst xs), I.laid (t' := s.toks) (fun b o e => sortedAll_old e) (Nat.le_succ _) ⟨hz, out, n, rv, hn⟩, rfl, ?_⟩
    have := q (xs.zip ds) (s.heap.objs.size + 1) (List.Perm.refl _) (by rw [e2, em]) (I.hok.fresh (Nat.le_succ _))
    rw [e1] at this
    exact this
  · have hR : ∀ {ds : List PyData} {xs : List V} {its : List Value}, DpAll X.K H xs ds → Vals xs its → PySem.W.EachIs (fun u (p : V × PyData) => RelV p.1 u ∧ ∃ as, Reads s.heap u p.2 as) its (xs.zip ds) := by
      intro ds
      induction ds with
      | nil => intro xs its h r; cases h; cases r; exact .nil
      | cons d ds ih =>
        intro xs its h r
        cases h with
        | cons h1 h2 =>
          cases r with
          | cons r1 r2 => exact .cons ⟨r1, Dp.reads I _ _ _ h1 r1⟩ (ih h2 r2)
    have e2 : (xs.zip ds).map (·.2) = ds := List.map_snd_zip (by omega)
    have each := hR hd rv
    refine PySem.W.sorted_data (enc := fun p : V × PyData => p.2) (R := fun u (p : V × PyData) => RelV p.1 u) (bs := xs.zip ds) hl.isList (each.mono fun _ _ h => h.1) (each.mono fun _ _ h => h.2) (by rw [e2]; exact hal) (by rw [e2]; exact hso) (by rw [List.length_zip]; omega) (fun b hb => ?_) fun out ho ho2 => ?_
    · have := hdp b.2 (by rw [← e2]; exact List.mem_map_of_mem hb)
      omega
    · have hvs : ∀ {zs : List (V × PyData)} {out : List Value}, PySem.W.EachIs (fun u (p : V × PyData) => RelV p.1 u) out zs → Vals (zs.map (·.1)) out := by
        intro zs
        induction zs with
        | nil => intro out h; cases h; exact .nil
        | cons z zs ih => intro out h; cases h with | cons h1 h2 => exact .cons h1 (ih h2)
      obtain ⟨n, hn⟩ := sortedAll_at s.heap its out.toArray
      have hm : ((xs.zip ds).mergeSort (PySem.W.dataLe false fun p : V × PyData => p.2)).map (·.2) = ds.mergeSort (PySem.W.dataLe false id) := by
        refine (PySem.W.sort_maps (s := PySem.W.dataLe false id) (fun p : V × PyData => p.2) (fun _ _ _ _ => rfl)).trans ?_
        rw [e2]
      have hv := hvs ho2
      refine ⟨.ref _, upd H (s.heap.objs.size + 1) (.lst (((xs.zip ds).mergeSort (PySem.W.dataLe false fun p : V × PyData => p.2)).map (·.1))), I.laid (t' := s.toks) (fun b o e => sortedAll_old e) (Nat.le_succ _) ⟨?_, out, n, hv, hn⟩, rfl, ?_⟩
      · rw [List.length_map, List.length_mergeSort, List.length_zip]; omega
      · exact q _ _ (List.mergeSort_perm _ _) hm (I.hok.fresh (Nat.le_succ _))
end
end L2

set_option Elab.async false
set_option linter.all false
set_option maxRecDepth 100000
/-! sorted(d), d.get(k, x): dicts of ours. -/
namespace L2
open PySem PySem.Spec PyProof.Rows PySem.Calls Eng PySem.W
section
variable {X : Cx} {pins : List (Addr × Obj)} {σ : St} {H : Hp} {s : Shared}
mutual
theorem nk_reads (I : Inv X pins σ H s) : ∀ (d : PyData) (v : V) (u : Value) (k : NestedKey), Dp X.K H v d → RelV v u → nk d = some k → Reads s.heap u d []
  | .none, _, _, k, h, r, e => by
    cases h
    cases r
    exact .none
  | .int i, _, _, k, h, r, e => by
    cases h
    obtain ⟨t, rfl⟩ := r
    exact .int i t
  | .tuple ds, _, _, k, h, r, e => by
    simp only [nk, Option.map_eq_some_iff] at e
    obtain ⟨ks, e, rfl⟩ := e
    cases h with
    | tup hs ha =>
      cases r
      obtain ⟨its, rv, ⟨o, ho, hc, n, hd⟩, _⟩ := I.tuple hs
      exact .tuple ho hc hd (nkAll_reads I ds _ its ks ha rv e)
  | .bool b, _, _, k, h, r, e => by simp [nk] at e
  | .str b, _, _, k, h, r, e => by simp [nk] at e
  | .list b, _, _, k, h, r, e => by simp [nk] at e
  | .dict b, _, _, k, h, r, e => by simp [nk] at e
theorem nkAll_reads (I : Inv X pins σ H s) : ∀ (ds : List PyData) (vs : List V) (us : List Value) (ks : List NestedKey), DpAll X.K H vs ds → Vals vs us → nkAll ds = some ks → ReadsAll s.heap us ds []
  | [], _, _, ks, h, r, e => by
    cases h
    cases r
    exact .nil
  | d :: ds, _, _, ks, h, r, e => by
    simp only [nkAll, Option.bind_eq_some_iff, Option.map_eq_some_iff] at e
    obtain ⟨k, e1, ks', e2, rfl⟩ := e
    cases h with
    | cons h1 h2 =>
      cases r with
      | cons r1 r2 =>
        have := ReadsAll.cons (nk_reads I d _ _ k h1 r1 e1) (nkAll_reads I ds _ _ ks' h2 r2 e2)
        exact this
end
end
/-- sorted(d) -/
def rSortE (K : PySem.W.Frag) : List V → Hp → VK → Prop := fun vs H Q => ∃ (a : Addr) (es : List (NestedKey × Addr × Value)) (kvs : List (NestedKey × PyData)) (Hf : Hp), Sub Hf H ∧ vs = [V.ref a] ∧ (a == sysModules) = false ∧ H a = some (.ext (DicPhi a es)) ∧ DicAt K Hf es kvs ∧ (es.map (·.1)).Nodup ∧ kvs.length ≤ sizeLine ∧
  AllAlike (kvs.map (·.1.data)) ∧ Sortable (kvs.map (·.1.data)) ∧ (∀ d ∈ kvs.map (·.1.data), d.depth ≤ 60) ∧
  ∀ (vs : List V) p, DpAll K Hf vs ((kvs.map (·.1.data)).mergeSort (PySem.W.dataLe false id)) → H p = none → Q (.ref p) (upd H p (.lst vs))
section
variable {X : Cx}
end
/-! ### d.get(k, x) -/
def IsDic (H : Hp) (x : V) : Prop := ∃ a es, x = .ref a ∧ H a = some (.ext (DicPhi a es))
def rGetE (K : PySem.W.Frag) : V → List V → Hp → VK → Prop := fun x xs H Q => ∃ a es kvs kd k Hf y z, Sub Hf H ∧ x = .ref a ∧ (a == sysModules) = false ∧ H a = some (.ext (DicPhi a es)) ∧ DicAt K Hf es kvs ∧ (es.map (·.1)).Nodup ∧ xs = [y, z] ∧ Dp K H y kd ∧ keyOfD kd = some k ∧ (∀ d, valN kvs k = some d → ∀ v, Dp K Hf v d → Q v H) ∧ (valN kvs k = none → Q z H)
section
variable {X : Cx}
def tDGetE (K : PySem.W.Frag) (to : TE) (t : TA) : TE := fun σ H Q => to σ H fun x H1 => IsDic H1 x ∧ t σ H1 fun xs H2 => rGetE K x xs H2 Q
end
end L2

set_option Elab.async false
set_option linter.all false
set_option maxRecDepth 100000
set_option maxHeartbeats 1000000
/-! A tuple backwards, list(d), {k: v}, x in a list or a tuple of data. -/
namespace HT
open PySem PySem.Spec PyProof.Rows
section
variable {prog : Program} {w : World} {A : Around} {E : Value → Shared → Prop} {s : Shared}
end
end HT
namespace L2
open PySem PySem.Spec PyProof.Rows PySem.Calls Eng PySem.W
section
variable {X : Cx}
/-- t[::-1], t a tuple; l[::-1], l a list -/
def tRevA (K : PySem.W.Frag) (te : TE) : TE := fun σ H Q => te σ H fun x H1 => ∃ a xs, x = .ref a ∧ ((SqL K H1 a xs ∧ ∀ p, H1 p = none → Q (.ref p) (upd H1 p (.lst xs.reverse))) ∨ (SqT K H1 a xs ∧ ∀ p, H1 p = none → Q (.ref p) (upd H1 p (.tup xs.reverse))))
/-- list(d) -/
def rListE (K : PySem.W.Frag) : List V → Hp → VK → Prop := fun vs H Q => ∃ (a : Addr) (es : List (NestedKey × Addr × Value)) (kvs : List (NestedKey × PyData)) (Hf : Hp), Sub Hf H ∧ vs = [V.ref a] ∧ (a == sysModules) = false ∧ H a = some (.ext (DicPhi a es)) ∧ DicAt K Hf es kvs ∧ (es.map (·.1)).Nodup ∧ kvs.length ≤ sizeLine ∧
  ∀ (vs : List V) p, DpAll K Hf vs (kvs.map (·.1.data)) → H p = none → Q (.ref p) (upd H p (.lst vs))
/-- {k: v} -/
def tDNew1E (K : PySem.W.Frag) (tk tv : TE) : TE := fun σ H Q => ∀ p, H p = none → (p == sysModules) = false → tk σ (upd H p (.ext (DicPhi p []))) fun x H1 => tv σ H1 fun y H2 =>
  ∃ kd k d Hf, Sub Hf H2 ∧ Hf p = none ∧ H2 p = some (.ext (DicPhi p [])) ∧ Dp K Hf x kd ∧ keyOfD kd = some k ∧ Dp K Hf y d ∧ ∀ es', DicAt K Hf es' [(k, d)] → (es'.map (·.1)).Nodup → Q (.ref p) (upd H2 p (.ext (DicPhi p es')))
/-- x in c, c a list or a tuple of data -/
theorem room_in {A : Nat} {xs : List PyData} {d : PyData} (h : d.depth ≤ 60) (hu : A + 64 < cLine) : A + 1 + min (PyData.depthAll xs) d.depth < cLine := by
  have := Nat.min_le_right (PyData.depthAll xs) d.depth
  omega
theorem op_inA (hu : X.A.units + 64 < cLine) : OpR X (compareOp .In) (fun x y H Q => ∃ d c ds, Dp X.K H x d ∧ Dp X.K H y c ∧ (c = .list ds ∨ c = .tuple ds) ∧ d.canLay0 = true ∧ PyData.canLayAll0 ds = true ∧ d.depth ≤ 60 ∧ Q (.bl (ds.any fun z => PyData.eqv z d)) H) := by
  intro pins s σ H x y v u Q I rx ry h
  obtain ⟨d, c, ds, hd, he, hc, sd, se, hz, q⟩ := h
  obtain ⟨as, r1⟩ := Dp.reads I d x v hd rx
  obtain ⟨bs, r2⟩ := Dp.reads I c y u he ry
  rcases hc with rfl | rfl
  · exact SeqAt.in_list_reads r2 r1 se sd (room_in hz hu) ⟨.bl _, H, I, rfl, q⟩
  · exact SeqAt.in_tuple_reads r2 r1 se sd (room_in hz hu) ⟨.bl _, H, I, rfl, q⟩
theorem op_notInA (hu : X.A.units + 64 < cLine) : OpR X (compareOp .NotIn) (fun x y H Q => ∃ d c ds, Dp X.K H x d ∧ Dp X.K H y c ∧ (c = .list ds ∨ c = .tuple ds) ∧ d.canLay0 = true ∧ PyData.canLayAll0 ds = true ∧ d.depth ≤ 60 ∧ Q (.bl (!ds.any fun z => PyData.eqv z d)) H) := by
  intro pins s σ H x y v u Q I rx ry h
  obtain ⟨d, c, ds, hd, he, hc, sd, se, hz, q⟩ := h
  obtain ⟨as, r1⟩ := Dp.reads I d x v hd rx
  obtain ⟨bs, r2⟩ := Dp.reads I c y u he ry
  rcases hc with rfl | rfl
  · exact SeqAt.notIn_list_reads r2 r1 se sd (room_in hz hu) ⟨.bl _, H, I, rfl, q⟩
  · exact SeqAt.notIn_tuple_reads r2 r1 se sd (room_in hz hu) ⟨.bl _, H, I, rfl, q⟩
end
end L2

set_option Elab.async false
set_option linter.all false
set_option maxRecDepth 100000
set_option maxHeartbeats 1000000
/-! Operators, comparisons, subscripts, built-ins: by values. -/
namespace Eng
open PySem PySem.Spec PyProof.Rows L2
section
variable {X : Cx} {XR : XRel} {W : WX}
theorem op_catL : OpR X (binaryOp .Add) (fun x y H Q => ∃ l b xs zs, x = .ref l ∧ y = .ref b ∧ SqL X.K H l xs ∧ SqL X.K H b zs ∧ xs.length + zs.length ≤ sizeLine ∧ ∀ p, H p = none → Q (.ref p) (upd H p (.lst (xs ++ zs)))) := by
  intro pins s σ H x y v u Q I rx ry h
  obtain ⟨l, b, xs, zs, rfl, rfl, hH, hB, hz, q⟩ := h
  cases rx
  cases ry
  obtain ⟨its, r, ⟨⟨cls, dd, data, sl⟩, n, e, hc, hd', hd⟩, hl⟩ := I.list hH
  obtain ⟨its2, r2, ⟨⟨cls2, dd2, data2, sl2⟩, n2, e2, hc2, hd2', hd2⟩, hl2⟩ := I.list hB
  simp only at hc hd hc2 hd2
  subst hc hd hc2 hd2
  have ea : its.toArray ++ its2.toArray = (its ++ its2).toArray := by simp
  have l1 := r.length
  have l2 := r2.length
  refine concat_meets ⟨_, e, rfl⟩ ⟨_, e2, rfl⟩ noFill_list_add seq_list_add PySem.F.slot_list_add PySem.F.entry_list_add (PySem.F.args_list_add_2 _ _) (list_addW l b its.toArray its2.toArray n n2 dd dd2 sl sl2 (by rw [List.size_toArray, List.size_toArray]; omega)) ⟨e, e2, ?_⟩
  rw [ea]
  exact ⟨.ref _, _, I.lnew (t' := s.toks) (r.append r2) (by rw [List.length_append]; omega), rfl, q _ I.fresh⟩

abbrev Here (X : Cx) (H : Hp) (x y : V) (d e : PyData) (z : PyData) (Q : VK) : Prop := ∃ Hf ρ ω σ env m, At X.K H σ Hf ρ ω env m ∧ RepB X.K H Hf ρ x (.dat d) ∧ RepB X.K H Hf ρ y (.dat e) ∧
    ∀ v H' Hf' ρ', Pres H Hf ρ H' Hf' ρ' → Fine X.K H' Hf' ρ' m → RepU X.K Hf' ρ' v (.dat z) → Q v H'
theorem sz_app {xs ys : List PyData} (h : szAll xs = true) (h' : szAll ys = true) : szAll (xs ++ ys) = true := by
  rw [szAll_iff] at *
  intro d hd
  rcases List.mem_append.mp hd with q | q
  · exact h d q
  · exact h' d q
theorem op_bin (o : BinO) (op : Operator) (hb : binB o op = true) : OpR X (binaryOp op) (opD X.K (binVal o)) := by
  refine op_cases fun d e z hz => ?_
  cases o <;> cases op <;> simp only [binB, Bool.false_eq_true] at hb
  · -- add
    cases d <;> cases e <;> simp only [binVal, reduceCtorEq, Option.some.injEq] at hz
    · subst hz
      refine OpR.imp op_add fun x y H Q ⟨Hf, ρ, ω, σ, env, m, a, r1, r2, q⟩ => ?_
      rw [r1.int, r2.int]
      exact ⟨_, _, rfl, rfl, q _ H Hf ρ (Pres.refl _ _ _) a.fine ⟨.int _, rfl⟩⟩
    · split at hz
      · rename_i hs
        cases hz
        refine OpR.imp op_add_str fun x y H Q ⟨Hf, ρ, ω, σ, env, m, a, r1, r2, q⟩ => ?_
        obtain ⟨e1, z1⟩ := r1.str
        obtain ⟨e2, z2⟩ := r2.str
        rw [e1, e2]
        refine ⟨_, _, rfl, rfl, hs, q _ H Hf ρ (Pres.refl _ _ _) a.fine ⟨.str _, ?_⟩⟩
        simp only [szOk, decide_eq_true_eq] at z1 z2 ⊢
        refine Nat.le_trans (Nat.le_of_eq ?_) hs
        exact Array.size_append
      · cases hz
    · split at hz
      · rename_i xs ys hs
        cases hz
        refine OpR.imp op_catL fun x y H Q ⟨Hf, ρ, ω, σ, env, m, a, r1, r2, q⟩ => ?_
        obtain ⟨p, vs, rfl, h1, h2, h3⟩ := r1.list a.fine.sub
        obtain ⟨p', vs', rfl, h1', h2', h3'⟩ := r2.list a.fine.sub
        refine ⟨p, p', vs, vs', rfl, rfl, h1, h1', by rw [h2.len, h2'.len]; exact hs, fun b hb => ?_⟩
        have hfb := a.free hb
        refine q _ _ _ ρ (Pres.new hb a.fine.sub) (a.fine.new hb) ⟨.lst (.inl (.inl upd_same)) (DpAll.mono (Sub.new hfb.1) _ _ (h2.app h2')), ?_⟩
        rw [sz_list] at *
        exact ⟨by rw [List.length_append]; exact hs, sz_app h3.2 h3'.2⟩
      · cases hz
    · split at hz
      · rename_i xs ys hs
        cases hz
        refine OpR.imp op_catA fun x y H Q ⟨Hf, ρ, ω, σ, env, m, a, r1, r2, q⟩ => ?_
        have r1' := r1
        have r2' := r2
        obtain ⟨p, vs, rfl, h1, h2, h3⟩ := r1.tup a.fine.sub
        obtain ⟨p', vs', rfl, h1', h2', h3'⟩ := r2.tup a.fine.sub
        have toU : ∀ {v : V} {ds : List PyData}, RepB X.K H Hf ρ v (.dat (.tuple ds)) → RepU X.K Hf ρ v (.dat (.tuple ds)) := fun {v ds} r => by
          rcases r with r | ⟨p, vs, ys, e, _⟩
          · exact r
          · cases e
        refine ⟨p, p', vs, vs', rfl, rfl, h1, h1', by rw [h2.len, h2'.len]; exact hs, fun e => ?_, fun _ e => ?_, fun _ _ b hb => ?_⟩
        · have : xs = [] := List.eq_nil_of_length_eq_zero (by rw [← h2.len, e]; rfl)
          subst this
          exact q _ H Hf ρ (Pres.refl _ _ _) a.fine (by rw [List.nil_append]; exact toU r2')
        · have : ys = [] := List.eq_nil_of_length_eq_zero (by rw [← h2'.len, e]; rfl)
          subst this
          exact q _ H Hf ρ (Pres.refl _ _ _) a.fine (by rw [List.append_nil]; exact toU r1')
        · have hfb := a.free hb
          refine q _ _ _ ρ (Pres.new hb a.fine.sub) (a.fine.new hb) ⟨.tup (.inl (.inl upd_same)) (DpAll.mono (Sub.new hfb.1) _ _ (h2.app h2')), ?_⟩
          rw [sz_tuple] at *
          exact ⟨by rw [List.length_append]; exact hs, sz_app h3.2 h3'.2⟩
      · cases hz
  · -- sub
    cases d <;> cases e <;> simp only [binVal, reduceCtorEq, Option.some.injEq] at hz
    subst hz
    refine OpR.imp op_sub fun x y H Q ⟨Hf, ρ, ω, σ, env, m, a, r1, r2, q⟩ => ?_
    rw [r1.int, r2.int]
    exact ⟨_, _, rfl, rfl, q _ H Hf ρ (Pres.refl _ _ _) a.fine ⟨.int _, rfl⟩⟩
  · -- mul
    cases d <;> cases e <;> simp only [binVal, reduceCtorEq, Option.some.injEq] at hz
    · split at hz
      · rename_i hs
        cases hz
        refine OpR.imp op_mul fun x y H Q ⟨Hf, ρ, ω, σ, env, m, a, r1, r2, q⟩ => ?_
        rw [r1.int, r2.int]
        exact ⟨_, _, rfl, rfl, hs, q _ H Hf ρ (Pres.refl _ _ _) a.fine ⟨.int _, rfl⟩⟩
      · cases hz
    · split at hz
      · rename_i xs k hs
        cases hz
        refine OpR.imp (OpR.or op_repT0 (OpR.or op_repT1 op_repT)) fun x y H Q ⟨Hf, ρ, ω, σ, env, m, a, r1, r2, q⟩ => ?_
        have r1' := r1
        obtain ⟨p, vs, rfl, h1, h2, h3⟩ := r1.tup a.fine.sub
        rw [r2.int]
        have hvn : vs ≠ [] := fun e => hs.1 (List.eq_nil_of_length_eq_zero (by rw [← h2.len, e]; rfl))
        by_cases hk0 : k = 0
        · subst hk0
          refine .inl ⟨p, vs, rfl, rfl, h1, hvn, fun b hb => ?_⟩
          exact q _ _ _ ρ (Pres.new hb a.fine.sub) (a.fine.new hb) ⟨.tup (.inl (.inl upd_same)) .nil, by show szOk (.tuple []) = true; rfl⟩
        by_cases hk1 : k = 1
        · subst hk1
          refine .inr (.inl ⟨p, vs, rfl, rfl, h1, q _ H Hf ρ (Pres.refl _ _ _) a.fine ?_⟩)
          have e1 : (List.replicate (1 : Int).toNat xs).flatten = xs := by
            show (List.replicate 1 xs).flatten = xs
            simp
          rw [e1]
          rcases r1' with r | ⟨_, _, _, e, _⟩
          · exact r
          · cases e
        have hk2 : 2 ≤ k := by have := hs.2.2.1; omega
        refine .inr <| .inr ⟨p, _, vs, rfl, rfl, h1, fun e => hs.1 (List.eq_nil_of_length_eq_zero (by rw [← h2.len, e]; rfl)), hk2, hs.2.2.2, by rw [h2.len]; exact hs.2.1, fun b hb => ?_⟩
        have hfb := a.free hb
        have rep : ∀ n : Nat, DpAll X.K Hf (List.replicate n vs).flatten (List.replicate n xs).flatten := fun n => by
          induction n with
          | zero => exact .nil
          | succ n ih => rw [List.replicate_succ, List.replicate_succ, List.flatten_cons, List.flatten_cons]; exact h2.app ih
        have sz : ∀ n : Nat, szAll (List.replicate n xs).flatten = true ∧ (List.replicate n xs).flatten.length = n * xs.length := fun n => by
          induction n with
          | zero => exact ⟨rfl, by simp⟩
          | succ n ih => rw [List.replicate_succ, List.flatten_cons]; exact ⟨sz_app (sz_tuple.mp h3).2 ih.1, by rw [List.length_append, ih.2, Nat.succ_mul]; omega⟩
        refine q _ _ _ ρ (Pres.new hb a.fine.sub) (a.fine.new hb) ⟨.tup (.inl (.inl upd_same)) (DpAll.mono (Sub.new hfb.1) _ _ (rep _)), ?_⟩
        rw [sz_tuple]
        refine ⟨?_, (sz _).1⟩
        rw [(sz _).2, sizeLine_eq]
        have : k.toNat * xs.length ≤ 1000 * 1000 := Nat.mul_le_mul (by omega) hs.2.1
        omega
      · cases hz
  · -- mod
    cases d <;> cases e <;> simp only [binVal, reduceCtorEq, Option.some.injEq] at hz
    split at hz
    · rename_i hs
      cases hz
      refine OpR.imp op_mod fun x y H Q ⟨Hf, ρ, ω, σ, env, m, a, r1, r2, q⟩ => ?_
      rw [r1.int, r2.int]
      exact ⟨_, _, rfl, rfl, hs, q _ H Hf ρ (Pres.refl _ _ _) a.fine ⟨.int _, rfl⟩⟩
    · cases hz
  · -- fdiv
    cases d <;> cases e <;> simp only [binVal, reduceCtorEq, Option.some.injEq] at hz
    split at hz
    · rename_i hs
      cases hz
      refine OpR.imp op_fdivW fun x y H Q ⟨Hf, ρ, ω, σ, env, m, a, r1, r2, q⟩ => ?_
      rw [r1.int, r2.int]
      exact ⟨_, _, rfl, rfl, hs, q _ H Hf ρ (Pres.refl _ _ _) a.fine ⟨.int _, rfl⟩⟩
    · cases hz
  · -- pow
    cases d <;> cases e <;> simp only [binVal, reduceCtorEq, Option.some.injEq] at hz
    split at hz
    · rename_i hs
      cases hz
      refine OpR.imp op_pow fun x y H Q ⟨Hf, ρ, ω, σ, env, m, a, r1, r2, q⟩ => ?_
      rw [r1.int, r2.int]
      exact ⟨_, _, rfl, rfl, hs, q _ H Hf ρ (Pres.refl _ _ _) a.fine ⟨.int _, rfl⟩⟩
    · cases hz
end
end Eng

set_option Elab.async false
set_option linter.all false
set_option maxRecDepth 100000
set_option maxHeartbeats 1000000
/-! Operators, comparisons, subscripts, built-ins: by values. -/
namespace Eng
open PySem PySem.Spec PyProof.Rows L2
section
variable {X : Cx} {XR : XRel} {W : WX}
theorem RepB.isNon {K : PySem.W.Frag} {H Hf : Hp} {ρ : List Addr} {v : V} {d : PyData} (r : RepB K H Hf ρ v (.dat d)) : decide (v = .non) = isNoneD d := by
  rcases r with ⟨d', hz⟩ | ⟨p, vs, ys, e, rfl, h, _, _, ha, hz⟩
  · cases d' <;> rfl
  · cases e; rfl
theorem op_isD {d e z : PyData} (hz : cmpVal .is d e = some z) : OpR X (compareOp .Is) (fun x y H Q => ∃ Hf ρ ω σ env m, At X.K H σ Hf ρ ω env m ∧ RepB X.K H Hf ρ x (.dat d) ∧ RepB X.K H Hf ρ y (.dat e) ∧
    ∀ v H' Hf' ρ', Pres H Hf ρ H' Hf' ρ' → Fine X.K H' Hf' ρ' m → RepU X.K Hf' ρ' v (.dat z) → Q v H') := by
  cases e with
  | none =>
    have hz' : z = .bool (isNoneD d) := by cases d <;> exact (Option.some.inj hz).symm
    subst hz'
    refine OpR.imp op_isN fun x y H Q ⟨Hf, ρ, ω, σ, env, m, a, r1, r2, q⟩ => ?_
    refine ⟨r2.none, q _ H Hf ρ (Pres.refl _ _ _) a.fine ?_⟩
    rw [r1.isNon]
    exact ⟨.bl _, rfl⟩
  | bool b =>
    cases d <;> simp only [cmpVal, reduceCtorEq, Option.some.injEq] at hz
    subst hz
    refine OpR.imp op_isBl fun x y H Q ⟨Hf, ρ, ω, σ, env, m, a, r1, r2, q⟩ => ?_
    rw [r1.bool, r2.bool]
    exact ⟨_, _, rfl, rfl, q _ H Hf ρ (Pres.refl _ _ _) a.fine ⟨.bl _, rfl⟩⟩
  | _ => cases d <;> simp only [cmpVal, reduceCtorEq] at hz
theorem op_isnotD {d e z : PyData} (hz : cmpVal .isnot d e = some z) : OpR X (compareOp .IsNot) (fun x y H Q => ∃ Hf ρ ω σ env m, At X.K H σ Hf ρ ω env m ∧ RepB X.K H Hf ρ x (.dat d) ∧ RepB X.K H Hf ρ y (.dat e) ∧
    ∀ v H' Hf' ρ', Pres H Hf ρ H' Hf' ρ' → Fine X.K H' Hf' ρ' m → RepU X.K Hf' ρ' v (.dat z) → Q v H') := by
  cases e with
  | none =>
    have hz' : z = .bool (!isNoneD d) := by cases d <;> exact (Option.some.inj hz).symm
    subst hz'
    refine OpR.imp op_notN fun x y H Q ⟨Hf, ρ, ω, σ, env, m, a, r1, r2, q⟩ => ?_
    refine ⟨r2.none, q _ H Hf ρ (Pres.refl _ _ _) a.fine ?_⟩
    rw [r1.isNon]
    exact ⟨.bl _, rfl⟩
  | bool b =>
    cases d <;> simp only [cmpVal, reduceCtorEq, Option.some.injEq] at hz
    subst hz
    refine OpR.imp op_notBl fun x y H Q ⟨Hf, ρ, ω, σ, env, m, a, r1, r2, q⟩ => ?_
    rw [r1.bool, r2.bool]
    exact ⟨_, _, rfl, rfl, q _ H Hf ρ (Pres.refl _ _ _) a.fine ⟨.bl _, rfl⟩⟩
  | _ => cases d <;> simp only [cmpVal, reduceCtorEq] at hz
theorem op_eqq {d e z : PyData} (hu : X.A.units + 64 < cLine) (hz : cmpVal .eq d e = some z) : OpR X (compareOp .Eq) (fun x y H Q => ∃ Hf ρ ω σ env m, At X.K H σ Hf ρ ω env m ∧ RepB X.K H Hf ρ x (.dat d) ∧ RepB X.K H Hf ρ y (.dat e) ∧
    ∀ v H' Hf' ρ', Pres H Hf ρ H' Hf' ρ' → Fine X.K H' Hf' ρ' m → RepU X.K Hf' ρ' v (.dat z) → Q v H') := by
  have gen : (if SeqAt.shaped d = true ∧ SeqAt.shaped e = true then some (PyData.bool (PyData.eqv d e)) else none) = some z → OpR X (compareOp .Eq) (fun x y H Q => ∃ Hf ρ ω σ env m, At X.K H σ Hf ρ ω env m ∧ RepB X.K H Hf ρ x (.dat d) ∧ RepB X.K H Hf ρ y (.dat e) ∧
    ∀ v H' Hf' ρ', Pres H Hf ρ H' Hf' ρ' → Fine X.K H' Hf' ρ' m → RepU X.K Hf' ρ' v (.dat z) → Q v H') := fun hz => by
    split at hz
    · rename_i hs
      cases hz
      refine OpR.imp (op_eqD hu) fun x y H Q ⟨Hf, ρ, ω, σ, env, m, a, r1, r2, q⟩ => ?_
      obtain ⟨d1, s1⟩ := r1.dp a.fine.sub
      obtain ⟨d2, s2⟩ := r2.dp a.fine.sub
      exact ⟨_, _, d1, d2, hs.1, hs.2, q _ H Hf ρ (Pres.refl _ _ _) a.fine ⟨.bl _, rfl⟩⟩
    · cases hz
  cases d with
  | int i =>
    cases e with
    | int j =>
      cases hz
      refine OpR.imp op_eq fun x y H Q ⟨Hf, ρ, ω, σ, env, m, a, r1, r2, q⟩ => ?_
      rw [r1.int, r2.int]
      refine ⟨rfl, q _ H Hf ρ (Pres.refl _ _ _) a.fine ⟨?_, rfl⟩⟩
      rw [show decide (V.int i = V.int j) = decide (i = j) from by rw [dec_int, Bool.beq_eq_decide_eq]]
      exact .bl _
    | _ => exact gen hz
  | str i =>
    cases e with
    | str j =>
      cases hz
      refine OpR.imp op_eq fun x y H Q ⟨Hf, ρ, ω, σ, env, m, a, r1, r2, q⟩ => ?_
      rw [r1.str.1, r2.str.1]
      refine ⟨rfl, q _ H Hf ρ (Pres.refl _ _ _) a.fine ⟨?_, rfl⟩⟩
      rw [show decide (V.str i = V.str j) = decide (i = j) from by rw [dec_str, Bool.beq_eq_decide_eq]]
      exact .bl _
    | _ => exact gen hz
  | _ => cases e <;> exact gen hz
theorem op_nee {d e z : PyData} (hu : X.A.units + 64 < cLine) (hz : cmpVal .ne d e = some z) : OpR X (compareOp .NotEq) (fun x y H Q => ∃ Hf ρ ω σ env m, At X.K H σ Hf ρ ω env m ∧ RepB X.K H Hf ρ x (.dat d) ∧ RepB X.K H Hf ρ y (.dat e) ∧
    ∀ v H' Hf' ρ', Pres H Hf ρ H' Hf' ρ' → Fine X.K H' Hf' ρ' m → RepU X.K Hf' ρ' v (.dat z) → Q v H') := by
  have gen : (if SeqAt.shaped d = true ∧ SeqAt.shaped e = true then some (PyData.bool (!PyData.eqv d e)) else none) = some z → OpR X (compareOp .NotEq) (fun x y H Q => ∃ Hf ρ ω σ env m, At X.K H σ Hf ρ ω env m ∧ RepB X.K H Hf ρ x (.dat d) ∧ RepB X.K H Hf ρ y (.dat e) ∧
    ∀ v H' Hf' ρ', Pres H Hf ρ H' Hf' ρ' → Fine X.K H' Hf' ρ' m → RepU X.K Hf' ρ' v (.dat z) → Q v H') := fun hz => by
    split at hz
    · rename_i hs
      cases hz
      refine OpR.imp (op_neD hu) fun x y H Q ⟨Hf, ρ, ω, σ, env, m, a, r1, r2, q⟩ => ?_
      obtain ⟨d1, s1⟩ := r1.dp a.fine.sub
      obtain ⟨d2, s2⟩ := r2.dp a.fine.sub
      exact ⟨_, _, d1, d2, hs.1, hs.2, q _ H Hf ρ (Pres.refl _ _ _) a.fine ⟨.bl _, rfl⟩⟩
    · cases hz
  cases d with
  | int i =>
    cases e with
    | int j =>
      cases hz
      refine OpR.imp op_ne fun x y H Q ⟨Hf, ρ, ω, σ, env, m, a, r1, r2, q⟩ => ?_
      rw [r1.int, r2.int]
      refine ⟨rfl, q _ H Hf ρ (Pres.refl _ _ _) a.fine ⟨?_, rfl⟩⟩
      rw [show decide (V.int i = V.int j) = decide (i = j) from by rw [dec_int, Bool.beq_eq_decide_eq]]
      exact .bl _
    | _ => exact gen hz
  | str i =>
    cases e with
    | str j =>
      cases hz
      refine OpR.imp op_ne fun x y H Q ⟨Hf, ρ, ω, σ, env, m, a, r1, r2, q⟩ => ?_
      rw [r1.str.1, r2.str.1]
      refine ⟨rfl, q _ H Hf ρ (Pres.refl _ _ _) a.fine ⟨?_, rfl⟩⟩
      rw [show decide (V.str i = V.str j) = decide (i = j) from by rw [dec_str, Bool.beq_eq_decide_eq]]
      exact .bl _
    | _ => exact gen hz
  | _ => cases e <;> exact gen hz
theorem op_inn {d e z : PyData} (hu : X.A.units + 64 < cLine) (hz : cmpVal .in_ d e = some z) : OpR X (compareOp .In) (fun x y H Q => ∃ Hf ρ ω σ env m, At X.K H σ Hf ρ ω env m ∧ RepB X.K H Hf ρ x (.dat d) ∧ RepB X.K H Hf ρ y (.dat e) ∧
    ∀ v H' Hf' ρ', Pres H Hf ρ H' Hf' ρ' → Fine X.K H' Hf' ρ' m → RepU X.K Hf' ρ' v (.dat z) → Q v H') := by
  cases e <;> simp only [cmpVal, reduceCtorEq] at hz
  all_goals
    split at hz
    · rename_i hs
      cases hz
      refine OpR.imp (op_inA hu) fun x y H Q ⟨Hf, ρ, ω, σ, env, m, a, r1, r2, q⟩ => ?_
      obtain ⟨d1, s1⟩ := r1.dp a.fine.sub
      obtain ⟨d2, s2⟩ := r2.dp a.fine.sub
      exact ⟨_, _, _, d1, d2, by first | exact .inl rfl | exact .inr rfl, hs.1, hs.2.1, hs.2.2, q _ H Hf ρ (Pres.refl _ _ _) a.fine ⟨.bl _, rfl⟩⟩
    · cases hz
theorem op_ninn {d e z : PyData} (hu : X.A.units + 64 < cLine) (hz : cmpVal .notin d e = some z) : OpR X (compareOp .NotIn) (fun x y H Q => ∃ Hf ρ ω σ env m, At X.K H σ Hf ρ ω env m ∧ RepB X.K H Hf ρ x (.dat d) ∧ RepB X.K H Hf ρ y (.dat e) ∧
    ∀ v H' Hf' ρ', Pres H Hf ρ H' Hf' ρ' → Fine X.K H' Hf' ρ' m → RepU X.K Hf' ρ' v (.dat z) → Q v H') := by
  cases e <;> simp only [cmpVal, reduceCtorEq] at hz
  all_goals
    split at hz
    · rename_i hs
      cases hz
      refine OpR.imp (op_notInA hu) fun x y H Q ⟨Hf, ρ, ω, σ, env, m, a, r1, r2, q⟩ => ?_
      obtain ⟨d1, s1⟩ := r1.dp a.fine.sub
      obtain ⟨d2, s2⟩ := r2.dp a.fine.sub
      exact ⟨_, _, _, d1, d2, by first | exact .inl rfl | exact .inr rfl, hs.1, hs.2.1, hs.2.2, q _ H Hf ρ (Pres.refl _ _ _) a.fine ⟨.bl _, rfl⟩⟩
    · cases hz
theorem op_cmp (hu : X.A.units + 64 < cLine) (o : CmpO) (op : CmpOp) (hb : cmpB o op = true) : OpR X (compareOp op) (opD X.K (cmpVal o)) := by
  refine op_cases fun d e z hz => ?_
  cases o <;> cases op <;> simp only [cmpB, Bool.false_eq_true] at hb
  · exact op_eqq hu hz
  · exact op_nee hu hz
  rotate_left 4
  · exact op_isD hz
  · exact op_isnotD hz
  · exact op_inn hu hz
  · exact op_ninn hu hz
  all_goals (cases d <;> cases e <;> simp only [cmpVal, reduceCtorEq, Option.some.injEq] at hz)
  · subst hz
    refine OpR.imp op_lt fun x y H Q ⟨Hf, ρ, ω, σ, env, m, a, r1, r2, q⟩ => ?_
    rw [r1.int, r2.int]
    exact ⟨_, _, rfl, rfl, q _ H Hf ρ (Pres.refl _ _ _) a.fine ⟨.bl _, rfl⟩⟩
  · subst hz
    refine OpR.imp op_le fun x y H Q ⟨Hf, ρ, ω, σ, env, m, a, r1, r2, q⟩ => ?_
    rw [r1.int, r2.int]
    exact ⟨_, _, rfl, rfl, q _ H Hf ρ (Pres.refl _ _ _) a.fine ⟨.bl _, rfl⟩⟩
  · subst hz
    refine OpR.imp op_gt fun x y H Q ⟨Hf, ρ, ω, σ, env, m, a, r1, r2, q⟩ => ?_
    rw [r1.int, r2.int]
    exact ⟨_, _, rfl, rfl, q _ H Hf ρ (Pres.refl _ _ _) a.fine ⟨.bl _, rfl⟩⟩
  · subst hz
    refine OpR.imp op_ge fun x y H Q ⟨Hf, ρ, ω, σ, env, m, a, r1, r2, q⟩ => ?_
    rw [r1.int, r2.int]
    exact ⟨_, _, rfl, rfl, q _ H Hf ρ (Pres.refl _ _ _) a.fine ⟨.bl _, rfl⟩⟩

/-! ### subscripts -/
def ixD (K : PySem.W.Frag) : R2 := fun x y H Q => (∃ Hf ρ ω σ env m d i z, At K H σ Hf ρ ω env m ∧ RepB K H Hf ρ x (.dat d) ∧ y = .int i ∧ ixVal d (.int i) = some z ∧
    ∀ v H' Hf' ρ', Pres H Hf ρ H' Hf' ρ' → Fine K H' Hf' ρ' m → RepU K Hf' ρ' v (.dat z) → Q v H') ∨
  (∃ Hf ρ ω σ env m k xs j z, At K H σ Hf ρ ω env m ∧ RepB K H Hf ρ x (.ref k) ∧ y = .int j ∧ m[k]? = some (.lst xs) ∧ L2.atI xs j = some z ∧
    ∀ v H' Hf' ρ', Pres H Hf ρ H' Hf' ρ' → Fine K H' Hf' ρ' m → RepU K Hf' ρ' v (.dat z) → Q v H')
theorem IxR.imp {r r' : R2} (h : IxR X r) (hi : ∀ x y H Q, r' x y H Q → r x y H Q) : IxR X r' := fun a b pins s σ H x y v u Q I rx ry q hs => h a b pins s σ H x y v u Q I rx ry (hi _ _ _ _ q) hs
theorem atI_rep {K : PySem.W.Frag} {H : Hp} {vs : List V} {ds : List PyData} (h : DpAll K H vs ds) {i : Int} {z : PyData} (e : atI ds i = some z) : ∃ v, atI vs i = some v ∧ Dp K H v z := by
  unfold atI at *
  rw [h.len]
  cases hj : ixN ds.length i with
  | none => rw [hj] at e; cases e
  | some j =>
    rw [hj] at e
    exact h.get (show ds[j]? = some z from e)
theorem atI_mem {ds : List PyData} {i : Int} {z : PyData} (e : atI ds i = some z) : z ∈ ds := by
  unfold atI at e
  cases hj : ixN ds.length i with
  | none => rw [hj] at e; cases e
  | some j => rw [hj] at e; exact List.mem_of_getElem? (show ds[j]? = some z from e)
theorem ix_D : IxR X (ixD X.K) := by
  refine IxR.imp ix_seq fun x y H Q h => ?_
  rcases h with ⟨Hf, ρ, ω, σ, env, m, d, i, z, a, r, rfl, hz, q⟩ | ⟨Hf, ρ, ω, σ, env, m, k, xs, j, z, a, r, rfl, hk, hz, q⟩
  · cases d <;> simp only [ixVal, reduceCtorEq] at hz
    · obtain ⟨p, vs, rfl, h1, h2, h3⟩ := r.list a.fine.sub
      obtain ⟨v, e1, e2⟩ := atI_rep h2 hz
      exact .inl ⟨p, vs, i, v, rfl, rfl, h1, e1, q _ H Hf ρ (Pres.refl _ _ _) a.fine ⟨e2, szAll_iff.mp (sz_list.mp h3).2 _ (atI_mem hz)⟩⟩
    · obtain ⟨p, vs, rfl, h1, h2, h3⟩ := r.tup a.fine.sub
      obtain ⟨v, e1, e2⟩ := atI_rep h2 hz
      exact .inr (.inl ⟨p, vs, i, v, rfl, rfl, h1, e1, q _ H Hf ρ (Pres.refl _ _ _) a.fine ⟨e2, szAll_iff.mp (sz_tuple.mp h3).2 _ (atI_mem hz)⟩⟩)
  · rcases r with ⟨p, e, rfl⟩ | ⟨p, vs, ys, e, _⟩
    · obtain ⟨vs, h1, h2, h3⟩ := a.fine.at_ k p _ e hk
      obtain ⟨v, e1, e2⟩ := atI_rep h2 hz
      exact .inl ⟨p, vs, j, v, rfl, rfl, .inl (.inl h1), e1, q _ H Hf ρ (Pres.refl _ _ _) a.fine ⟨e2, szAll_iff.mp (sz_list.mp h3).2 _ (atI_mem hz)⟩⟩
    · cases e
def slD (K : PySem.W.Frag) : V → Option Int → Option Int → Hp → VK → Prop := fun x lo hi H Q => ∃ Hf ρ ω σ env m d z, At K H σ Hf ρ ω env m ∧ RepB K H Hf ρ x (.dat d) ∧ slVal d lo hi = some z ∧
    ∀ v H' Hf' ρ', Pres H Hf ρ H' Hf' ρ' → Fine K H' Hf' ρ' m → RepU K Hf' ρ' v (.dat z) → Q v H'
theorem SlR.imp {r r' : V → Option Int → Option Int → Hp → VK → Prop} (h : SlR X r) (hi : ∀ x l u H Q, r' x l u H Q → r x l u H Q) : SlR X r' := fun pins s σ H x v vl vu lo hi' sl Q I rx hs pl pu q => h pins s σ H x v vl vu lo hi' sl Q I rx hs pl pu (hi _ _ _ _ _ q)
theorem cut_rep {K : PySem.W.Frag} {H : Hp} {vs : List V} {ds : List PyData} (h : DpAll K H vs ds) (lo hi : Option Int) : DpAll K H (cutV vs lo hi) (cutD ds lo hi) := by
  unfold cutV cutD
  rw [h.len]
  exact (h.drop _).take _
theorem cut_sz {ds : List PyData} (h : szAll ds = true) (lo hi : Option Int) : szAll (cutD ds lo hi) = true ∧ (cutD ds lo hi).length ≤ ds.length := by
  unfold cutD
  refine ⟨?_, ?_⟩
  · rw [szAll_iff] at *
    intro d hd
    exact h d (List.mem_of_mem_drop (List.mem_of_mem_take hd))
  · rw [List.length_take, List.length_drop]; omega
theorem sl_D : SlR X (slD X.K) := by
  refine SlR.imp (SlR.or sl_list sl_tupA) fun x lo hi H Q ⟨Hf, ρ, ω, σ, env, m, d, z, a, r, hz, q⟩ => ?_
  cases d with
  | list xs =>
    simp only [slVal, reduceCtorEq, Option.some.injEq] at hz
    subst hz
    obtain ⟨p, vs, rfl, h1, h2, h3⟩ := r.list a.fine.sub
    refine .inl ⟨p, vs, rfl, h1, fun b hb => ?_⟩
    have hfb := a.free hb
    rw [sz_list] at h3
    obtain ⟨s1, s2⟩ := cut_sz h3.2 lo hi
    exact q _ _ _ ρ (Pres.new hb a.fine.sub) (a.fine.new hb) ⟨.lst (.inl (.inl upd_same)) (DpAll.mono (Sub.new hfb.1) _ _ (cut_rep h2 lo hi)), sz_list.mpr ⟨by omega, s1⟩⟩
  | tuple xs =>
    simp only [slVal, reduceCtorEq, Option.some.injEq] at hz
    subst hz
    have r' := r
    obtain ⟨p, vs, rfl, h1, h2, h3⟩ := r.tup a.fine.sub
    refine .inr ⟨p, vs, rfl, h1, fun w => ?_, fun _ b hb => ?_⟩
    · have : cutD xs lo hi = xs := by
        unfold cutD
        rw [h2.len] at w
        rw [w.1, w.2]; simp
      rw [this] at q
      rcases r' with r' | ⟨_, _, _, e, _⟩
      · exact q _ H Hf ρ (Pres.refl _ _ _) a.fine r'
      · cases e
    · have hfb := a.free hb
      rw [sz_tuple] at h3
      obtain ⟨s1, s2⟩ := cut_sz h3.2 lo hi
      exact q _ _ _ ρ (Pres.new hb a.fine.sub) (a.fine.new hb) ⟨.tup (.inl (.inl upd_same)) (DpAll.mono (Sub.new hfb.1) _ _ (cut_rep h2 lo hi)), sz_tuple.mpr ⟨by omega, s1⟩⟩
  | _ => simp only [slVal, reduceCtorEq] at hz
end
end Eng

set_option Elab.async false
set_option linter.all false
set_option maxRecDepth 100000
set_option maxHeartbeats 1000000
/-! Built-ins by values. -/
namespace Eng
open PySem PySem.Spec PyProof.Rows L2
section
variable {X : Cx} {XR : XRel} {W : WX}
theorem CallR.imp {f : Value} {r r' : List V → Hp → VK → Prop} (h : CallR X f r) (hi : ∀ xs H Q, r' xs H Q → r xs H Q) : CallR X f r' := fun pins s σ H xs us Q I rx q => h pins s σ H xs us Q I rx (hi _ _ _ q)
def b1D (K : PySem.W.Frag) (f : B1) : List V → Hp → VK → Prop := fun xs H Q => ∃ Hf ρ ω σ env m x d z, xs = [x] ∧ At K H σ Hf ρ ω env m ∧ RepB K H Hf ρ x (.dat d) ∧ b1Val f d = some z ∧
  ∀ v H' Hf' ρ', Pres H Hf ρ H' Hf' ρ' → Fine K H' Hf' ρ' m → RepU K Hf' ρ' v (.dat z) → Q v H'
def b1C : B1 → Value
  | .len => .builtin "len" | .tuple => .type "tuple" | .list => .type "list" | .abs => .builtin "abs" | .int => .type "int" | .all => .builtin "all" | .any => .builtin "any" | .sum => .builtin "sum" | .max => .builtin "max" | .min => .builtin "min" | .repr => .builtin "repr" | .sorted => .builtin "sorted"
theorem b1boot (f : B1) : bootBuiltins (b1N f) = some (b1C f) := by cases f <;> decide +kernel
theorem maxL_mem : ∀ {ns : List Int}, ns ≠ [] → maxL ns ∈ ns ∧ ∀ y ∈ ns, y ≤ maxL ns
  | [], h => absurd rfl h
  | [x], _ => by simp [maxL]
  | x :: y :: r, _ => by
    obtain ⟨h1, h2⟩ := maxL_mem (ns := y :: r) (by simp)
    have e : maxL (x :: y :: r) = max x (maxL (y :: r)) := rfl
    rw [e]
    refine ⟨?_, fun z hz => ?_⟩
    · rcases Int.le_total x (maxL (y :: r)) with q | q
      · rw [Int.max_eq_right q]; exact List.mem_cons_of_mem _ h1
      · rw [Int.max_eq_left q]; exact List.mem_cons_self
    · rcases List.mem_cons.mp hz with rfl | hz
      · exact Int.le_max_left ..
      · exact Int.le_trans (h2 z hz) (Int.le_max_right ..)
theorem minL_mem : ∀ {ns : List Int}, ns ≠ [] → minL ns ∈ ns ∧ ∀ y ∈ ns, minL ns ≤ y
  | [], h => absurd rfl h
  | [x], _ => by simp [minL]
  | x :: y :: r, _ => by
    obtain ⟨h1, h2⟩ := minL_mem (ns := y :: r) (by simp)
    have e : minL (x :: y :: r) = min x (minL (y :: r)) := rfl
    rw [e]
    refine ⟨?_, fun z hz => ?_⟩
    · rcases Int.le_total x (minL (y :: r)) with q | q
      · rw [Int.min_eq_left q]; exact List.mem_cons_self
      · rw [Int.min_eq_right q]; exact List.mem_cons_of_mem _ h1
    · rcases List.mem_cons.mp hz with rfl | hz
      · exact Int.min_le_left ..
      · exact Int.le_trans (Int.min_le_right ..) (h2 z hz)
theorem cr_repr (hg : X.A.guards = some []) (hu : X.A.units + 64 < cLine) : CallR X (.builtin "repr") (fun xs H Q => ∃ x d, xs = [x] ∧ Dp X.K H x d ∧ szOk d = true ∧ d.showable = true ∧ d.shown.length ≤ sizeLine ∧ d.depth ≤ 60 ∧ Q (.str d.shown) H) := by
  intro pins s σ H xs us Q I r h
  obtain ⟨x, d, rfl, hd, hsz, hs, hl, hdp, q⟩ := h
  obtain ⟨u, rfl, ru⟩ := vals1 r
  cases d with
  | none =>
    cases hd; cases ru
    exact PySem.P.repr_of_none ⟨.str _, H, I.tok _, ⟨_, rfl⟩, q⟩
  | bool b =>
    cases hd; cases ru
    exact PySem.P.repr_of_bool ⟨.str _, H, I.tok _, ⟨_, rfl⟩, q⟩
  | int i =>
    cases hd; obtain ⟨t, rfl⟩ := ru
    exact PySem.P.repr_of_int (of_decide_eq_true hs) ⟨.str _, H, I.tok _, ⟨_, rfl⟩, q⟩
  | str z =>
    cases hd; obtain ⟨t, rfl⟩ := ru
    exact PySem.P.repr_of_str ⟨.str _, H, I.tok _, ⟨_, rfl⟩, q⟩ hl
  | list ds =>
    obtain ⟨as, rd⟩ := Dp.reads I _ x u hd ru
    cases hd
    cases ru
    refine repr_of_reads' rd hs (PyData.noDict_hsm (noDict_of_sz _ hsz)) hg (by omega) (fun _ _ e => e) (fun h' u tk hk => ?_) hl
    exact ⟨.str _, H, I.kept (t' := tk) hk, ⟨_, rfl⟩, q⟩
  | tuple ds =>
    obtain ⟨as, rd⟩ := Dp.reads I _ x u hd ru
    cases hd
    cases ru
    refine repr_of_reads' rd hs (PyData.noDict_hsm (noDict_of_sz _ hsz)) hg (by omega) (fun _ _ e => e) (fun h' u tk hk => ?_) hl
    exact ⟨.str _, H, I.kept (t' := tk) hk, ⟨_, rfl⟩, q⟩
  | dict _ => cases hd

theorem RepB.seq {K : PySem.W.Frag} {H Hf : Hp} {ρ : List Addr} {v : V} {xs : List PyData} (r : RepB K H Hf ρ v (.dat (.tuple xs))) : RepU K Hf ρ v (.dat (.tuple xs)) := by
  rcases r with r | ⟨p, vs, ys, e, _⟩
  · exact r
  · cases e
theorem op_b1 (hg : X.A.guards = some []) (hu : X.A.units + 64 < cLine) (hc : X.calm = true) (f : B1) : CallR X (b1C f) (b1D X.K f) := by
  cases f with
  | len =>
    refine CallR.imp (CallR.or call_len_seq call_len_str) fun xs H Q ⟨Hf, ρ, ω, σ, env, m, x, d, z, e, a, r, hz, q⟩ => ?_
    subst e
    cases d <;> simp only [b1Val, reduceCtorEq, Option.some.injEq] at hz
    · subst hz
      obtain ⟨e1, z1⟩ := r.str
      simp only [szOk, decide_eq_true_eq] at z1
      exact .inr ⟨_, by rw [e1], z1, q _ H Hf ρ (Pres.refl _ _ _) a.fine ⟨.int _, rfl⟩⟩
    · subst hz
      obtain ⟨p, vs, rfl, h1, h2, h3⟩ := r.list a.fine.sub
      exact .inl ⟨p, vs, rfl, .inl h1, q _ H Hf ρ (Pres.refl _ _ _) a.fine ⟨by rw [h2.len]; exact .int _, rfl⟩⟩
    · subst hz
      obtain ⟨p, vs, rfl, h1, h2, h3⟩ := r.tup a.fine.sub
      exact .inl ⟨p, vs, rfl, .inr h1, q _ H Hf ρ (Pres.refl _ _ _) a.fine ⟨by rw [h2.len]; exact .int _, rfl⟩⟩
  | tuple =>
    refine CallR.imp call_tuple_of fun xs H Q ⟨Hf, ρ, ω, σ, env, m, x, d, z, e, a, r, hz, q⟩ => ?_
    subst e
    cases d <;> simp only [b1Val, reduceCtorEq, Option.some.injEq] at hz
    · subst hz
      obtain ⟨p, vs, rfl, h1, h2, h3⟩ := r.list a.fine.sub
      refine ⟨p, vs, rfl, .inl ⟨h1, fun b hb => ?_⟩⟩
      have hfb := a.free hb
      exact q _ _ _ ρ (Pres.new hb a.fine.sub) (a.fine.new hb) ⟨.tup (.inl (.inl upd_same)) (DpAll.mono (Sub.new hfb.1) _ _ h2), sz_tuple.mpr (sz_list.mp h3)⟩
    · subst hz
      have r' := r
      obtain ⟨p, vs, rfl, h1, h2, h3⟩ := r.tup a.fine.sub
      exact ⟨p, vs, rfl, .inr ⟨h1, q _ H Hf ρ (Pres.refl _ _ _) a.fine r'.seq⟩⟩
  | list =>
    refine CallR.imp call_list_of fun xs H Q ⟨Hf, ρ, ω, σ, env, m, x, d, z, e, a, r, hz, q⟩ => ?_
    subst e
    cases d <;> simp only [b1Val, reduceCtorEq, Option.some.injEq] at hz
    · subst hz
      obtain ⟨p, vs, rfl, h1, h2, h3⟩ := r.list a.fine.sub
      refine ⟨p, vs, rfl, .inl h1, fun b hb => ?_⟩
      have hfb := a.free hb
      exact q _ _ _ ρ (Pres.new hb a.fine.sub) (a.fine.new hb) ⟨.lst (.inl (.inl upd_same)) (DpAll.mono (Sub.new hfb.1) _ _ h2), h3⟩
    · subst hz
      obtain ⟨p, vs, rfl, h1, h2, h3⟩ := r.tup a.fine.sub
      refine ⟨p, vs, rfl, .inr h1, fun b hb => ?_⟩
      have hfb := a.free hb
      exact q _ _ _ ρ (Pres.new hb a.fine.sub) (a.fine.new hb) ⟨.lst (.inl (.inl upd_same)) (DpAll.mono (Sub.new hfb.1) _ _ h2), sz_list.mpr (sz_tuple.mp h3)⟩
  | abs =>
    refine CallR.imp call_abs fun xs H Q ⟨Hf, ρ, ω, σ, env, m, x, d, z, e, a, r, hz, q⟩ => ?_
    subst e
    cases d <;> simp only [b1Val, reduceCtorEq, Option.some.injEq] at hz
    subst hz
    rw [r.int]
    exact ⟨_, rfl, q _ H Hf ρ (Pres.refl _ _ _) a.fine ⟨.int _, rfl⟩⟩
  | int =>
    refine CallR.imp call_int1 fun xs H Q ⟨Hf, ρ, ω, σ, env, m, x, d, z, e, a, r, hz, q⟩ => ?_
    subst e
    cases d <;> simp only [b1Val, reduceCtorEq, Option.some.injEq] at hz
    · subst hz
      rw [r.bool]
      exact .inr ⟨_, rfl, q _ H Hf ρ (Pres.refl _ _ _) a.fine ⟨.int _, rfl⟩⟩
    · subst hz
      rw [r.int]
      exact .inl ⟨_, rfl, q _ H Hf ρ (Pres.refl _ _ _) a.fine ⟨.int _, rfl⟩⟩
  | all =>
    refine CallR.imp (cr_all hc) fun xs H Q ⟨Hf, ρ, ω, σ, env, m, x, d, z, e, a, r, hz, q⟩ => ?_
    subst e
    cases d <;> simp only [b1Val, reduceCtorEq, Option.map_eq_some_iff] at hz
    obtain ⟨bs, hb, rfl⟩ := hz
    obtain ⟨p, vs, rfl, h1, h2, h3⟩ := r.list a.fine.sub
    rw [h2.bools hb] at h1
    exact ⟨p, bs, rfl, h1, q _ H Hf ρ (Pres.refl _ _ _) a.fine ⟨.bl _, rfl⟩⟩
  | any =>
    refine CallR.imp (CallR.or (CallR.or (cr_any hc) (cr_anyI hc)) (cr_anyT hc)) fun xs H Q ⟨Hf, ρ, ω, σ, env, m, x, d, z, e, a, r, hz, q⟩ => ?_
    subst e
    cases d <;> simp only [b1Val, reduceCtorEq, Option.map_eq_some_iff] at hz
    · obtain ⟨p, vs, rfl, h1, h2, h3⟩ := r.list a.fine.sub
      split at hz
      · rename_i bs hb
        cases hz
        rw [h2.bools hb] at h1
        exact .inl (.inl ⟨p, bs, rfl, h1, q _ H Hf ρ (Pres.refl _ _ _) a.fine ⟨.bl _, rfl⟩⟩)
      · simp only [Option.map_eq_some_iff] at hz
        obtain ⟨bs, hb, rfl⟩ := hz
        rw [h2.ints hb] at h1
        exact .inl (.inr ⟨p, bs, rfl, h1, q _ H Hf ρ (Pres.refl _ _ _) a.fine ⟨.bl _, rfl⟩⟩)
    · obtain ⟨bs, hb, rfl⟩ := hz
      obtain ⟨p, vs, rfl, h1, h2, h3⟩ := r.tup a.fine.sub
      rw [h2.ints hb] at h1
      exact .inr ⟨p, bs, rfl, h1, q _ H Hf ρ (Pres.refl _ _ _) a.fine ⟨.bl _, rfl⟩⟩
  | sum =>
    refine CallR.imp (CallR.or (cr_sum hc) (cr_sumT hc)) fun xs H Q ⟨Hf, ρ, ω, σ, env, m, x, d, z, e, a, r, hz, q⟩ => ?_
    subst e
    cases d <;> simp only [b1Val, reduceCtorEq, Option.map_eq_some_iff] at hz
    · obtain ⟨bs, hb, rfl⟩ := hz
      obtain ⟨p, vs, rfl, h1, h2, h3⟩ := r.list a.fine.sub
      rw [h2.ints hb] at h1
      exact .inl ⟨p, bs, rfl, h1, q _ H Hf ρ (Pres.refl _ _ _) a.fine ⟨.int _, rfl⟩⟩
    · obtain ⟨bs, hb, rfl⟩ := hz
      obtain ⟨p, vs, rfl, h1, h2, h3⟩ := r.tup a.fine.sub
      rw [h2.ints hb] at h1
      exact .inr ⟨p, bs, rfl, h1, q _ H Hf ρ (Pres.refl _ _ _) a.fine ⟨.int _, rfl⟩⟩
  | sorted =>
    refine CallR.imp (cr_sortedD hu) fun xs H Q ⟨Hf, ρ, ω, σ, env, m, x, d, z, e, a, r, hz, q⟩ => ?_
    subst e
    cases d <;> simp only [b1Val, reduceCtorEq] at hz
    rename_i ds
    split at hz
    · rename_i hok
      cases hz
      obtain ⟨p, vs, rfl, h1, h2, h3⟩ := r.list a.fine.sub
      refine ⟨p, vs, ds, rfl, h1, DpAll.mono a.fine.sub _ _ h2, hok, fun zs b hp hs hb => ?_⟩
      have hfb := a.free hb
      have hall : ∀ {ds : List PyData} {vs : List V}, DpAll X.K Hf vs ds → ∀ z ∈ vs.zip ds, Dp X.K Hf z.1 z.2 := by
        intro ds
        induction ds with
        | nil => intro vs h z hz; cases h; simp at hz
        | cons d ds ih =>
          intro vs h z hz
          cases h with
          | cons k1 k2 =>
            rw [List.zip_cons_cons] at hz
            rcases List.mem_cons.mp hz with rfl | hz
            · exact k1
            · exact ih k2 z hz
      have back : ∀ {zs : List (V × PyData)}, (∀ z ∈ zs, Dp X.K Hf z.1 z.2) → DpAll X.K Hf (zs.map (·.1)) (zs.map (·.2)) := by
        intro zs
        induction zs with
        | nil => intro _; exact .nil
        | cons z zs ih => intro h; exact .cons (h z List.mem_cons_self) (ih fun y hy => h y (List.mem_cons_of_mem _ hy))
      have hd := back fun z hz => hall h2 z (hp.mem_iff.mp hz)
      rw [hs] at hd
      refine q _ _ _ ρ (Pres.new hb a.fine.sub) (a.fine.new hb) ⟨.lst (.inl (.inl upd_same)) (DpAll.mono (Sub.new hfb.1) _ _ hd), ?_⟩
      rw [sz_list] at h3 ⊢
      refine ⟨by rw [List.length_mergeSort]; exact h3.1, ?_⟩
      rw [szAll_iff] at h3 ⊢
      exact fun d hd => h3.2 d ((List.mergeSort_perm _ _).mem_iff.mp hd)
    · cases hz
  | max =>
    refine CallR.imp (cr_max hc) fun xs H Q ⟨Hf, ρ, ω, σ, env, m, x, d, z, e, a, r, hz, q⟩ => ?_
    subst e
    cases d <;> simp only [b1Val, reduceCtorEq, Option.bind_eq_some_iff] at hz
    obtain ⟨bs, hb, hz⟩ := hz
    split at hz
    · cases hz
    · rename_i hn
      cases hz
      obtain ⟨p, vs, rfl, h1, h2, h3⟩ := r.list a.fine.sub
      rw [h2.ints hb] at h1
      obtain ⟨g1, g2⟩ := maxL_mem hn
      refine ⟨p, bs, rfl, h1, List.length_pos_iff.mpr hn, fun k hk hy => ?_⟩
      rw [show k = maxL bs from Int.le_antisymm (g2 k hk) (hy _ g1)]
      exact q _ H Hf ρ (Pres.refl _ _ _) a.fine ⟨.int _, rfl⟩
  | min =>
    refine CallR.imp (cr_min hc) fun xs H Q ⟨Hf, ρ, ω, σ, env, m, x, d, z, e, a, r, hz, q⟩ => ?_
    subst e
    cases d <;> simp only [b1Val, reduceCtorEq, Option.bind_eq_some_iff] at hz
    obtain ⟨bs, hb, hz⟩ := hz
    split at hz
    · cases hz
    · rename_i hn
      cases hz
      obtain ⟨p, vs, rfl, h1, h2, h3⟩ := r.list a.fine.sub
      rw [h2.ints hb] at h1
      obtain ⟨g1, g2⟩ := minL_mem hn
      refine ⟨p, bs, rfl, h1, List.length_pos_iff.mpr hn, fun k hk hy => ?_⟩
      rw [show k = minL bs from Int.le_antisymm (hy _ g1) (g2 k hk)]
      exact q _ H Hf ρ (Pres.refl _ _ _) a.fine ⟨.int _, rfl⟩
  | repr =>
    refine CallR.imp (cr_repr hg hu) fun xs H Q ⟨Hf, ρ, ω, σ, env, m, x, d, z, e, a, r, hz, q⟩ => ?_
    subst e
    have hz' : (if d.showable && decide (d.shown.length ≤ sizeLine) && decide (d.depth ≤ 60) then some (.str d.shown) else none) = some z := by
      rw [← hz]; cases d <;> rfl
    split at hz'
    · rename_i hh
      simp only [Bool.and_eq_true, decide_eq_true_eq] at hh
      cases hz'
      obtain ⟨h1, h2⟩ := r.dp a.fine.sub
      refine ⟨x, d, rfl, h1, h2, hh.1.1, hh.1.2, hh.2, q _ H Hf ρ (Pres.refl _ _ _) a.fine ⟨.str _, ?_⟩⟩
      simp only [szOk, decide_eq_true_eq]
      exact hh.1.2
    · cases hz'
/-- list(..), a list of its own -/
theorem op_listF : CallR X (.type "list") (fun xs H Q => ∃ Hf ρ ω σ env m x d ds, xs = [x] ∧ At X.K H σ Hf ρ ω env m ∧ RepB X.K H Hf ρ x (.dat d) ∧ b1Val .list d = some (.list ds) ∧
    ∀ p vs, H p = none → DpAll X.K Hf vs ds → szOk (.list ds) = true → Q (.ref p) (upd H p (.lst vs))) := by
  refine CallR.imp call_list_of fun xs H Q ⟨Hf, ρ, ω, σ, env, m, x, d, z, e, a, r, hz, q⟩ => ?_
  subst e
  cases d <;> simp only [b1Val, reduceCtorEq, Option.some.injEq, PyData.list.injEq] at hz
  · subst hz
    obtain ⟨p, vs, rfl, h1, h2, h3⟩ := r.list a.fine.sub
    exact ⟨p, vs, rfl, .inl h1, fun b hb => q b vs hb h2 h3⟩
  · subst hz
    obtain ⟨p, vs, rfl, h1, h2, h3⟩ := r.tup a.fine.sub
    exact ⟨p, vs, rfl, .inr h1, fun b hb => q b vs hb h2 (sz_list.mpr (sz_tuple.mp h3))⟩
end
end Eng

set_option Elab.async false
set_option linter.all false
set_option maxRecDepth 100000
set_option maxHeartbeats 1000000
/-! Expressions: what a checked text evaluates to. -/
namespace Eng
open PySem PySem.Spec PyProof.Rows L2

/-- a def's promise: the evaluator's outcome -/
def spC (K : PySem.W.Frag) (XR : XRel) (g : List U → Mem → R U) : Sp := fun vs H Q E => ∃ Hf ρ m us, Fine K H Hf ρ m ∧ RUs K Hf ρ vs us ∧ OutE K XR (fun cls d _ H => E cls d H) [] H Hf ρ (RU K) (g us m) Q
/-- the own errors: their classes' texts, which clause takes which, isinstance -/
structure XTab (P : Program) (K : PySem.W.Frag) (mg : Str → Option Value) (cl : List (Str × Str)) (ci : List (Nat × Str × Bool)) : Prop where
  cls : ∀ (k : Nat) (p : Str × Str), cl[k]? = some p → ∃ C fI, EngX.OwnTxt P K mg p.1 p.2 C fI
  exm : ∀ (k k' : Nat) (p p' : Str × Str) (Ca Cb : Addr), cl[k]? = some p → cl[k']? = some p' → mg p.1 = some (.ref Ca) → mg p'.1 = some (.ref Cb) → PySem.W.exmOne K (.ref Ca) (.ref Cb) = some (decide (k = k'))
  isx : ∀ (k : Nat) (D : Str) (b : Bool) (p : Str × Str) (Ca : Addr), (k, D, b) ∈ ci → cl[k]? = some p → mg p.1 = some (.ref Ca) → ∃ Cd, mg D = some (.ref Cd) ∧ PySem.W.kitOne K (.ref Ca) (.ref Cd) = some b ∧ IsxC K Ca
theorem XTab.nil {P : Program} {K : PySem.W.Frag} {mg : Str → Option Value} : XTab P K mg [] [] :=
  ⟨fun k p h => by simp at h, fun k k' p p' Ca Cb h => by simp at h, fun k D b p Ca h => by simp at h⟩
/-- an own error that is on its way -/
def xrG (K : PySem.W.Frag) (mg : Str → Option Value) (cl : List (Str × Str)) : XRel := fun _ Hf ρ k u cls d =>
  ∃ (p : Str × Str) (Ca dd : Addr) (v : V), cl[k]? = some p ∧ mg p.1 = some (.ref Ca) ∧ cls = .ref Ca ∧ d = some dd ∧ Hf dd = some (.xd [(p.2, v)]) ∧ RepU K Hf ρ v u
structure GX (G : Cfg) (N : List Str) (C : Calls) (XR : XRel) (X : Cx) (W : WX) (c : Sc) : Prop where
  hN : X.N = N
  sc : X.env.scope = c.sc
  fn : X.fn = c.fn
  nd : X.N.Nodup
  calm : X.calm = true
  gd : X.A.guards = some []
  takes : Takes X W
  un : X.A.units + 65 < cLine
  bn : ∀ x ∈ bnames, X.mg x = none
  fns : ∀ f x, G.nm f = some x → ∃ a fd ps k, X.mg x = some (.ref a) ∧ PySem.W.keepIn X.K (.ref a) = true ∧ Binds X.K fd ps [] ∧ Room k X.A ∧ FnG X.prog X.w X.K X.mg X.base k a fd ps (spC X.K XR (C f)) ∧
    ∀ na ks perm, (f, na, ks, perm) ∈ G.kb → KB fd ps na ks perm
  gl : ∀ x d, (x, d) ∈ G.gl → ∃ u, X.mg x = some u ∧ (∀ v, sEq d v = true → ∃ z, RelV z u ∧ (∀ H, Dp X.K H z v) ∧ szOk v = true)
  gdt : ∀ x kvs nks, (x, kvs, nks) ∈ G.gd → ∃ a es n, X.mg x = some (.ref a) ∧ KDict X.K X.w a es n ∧ (∀ k i, (k, i) ∈ kvs → ∃ t, PySem.W.nsIn X.K a k = some (some (.int i t))) ∧ ∀ k ∈ nks, PySem.W.nsIn X.K a k = some none
  rm : ∃ k, Room k X.A
  xr : XR = xrG X.K X.mg G.cl
  xt : XTab X.prog X.K X.mg G.cl G.ci
theorem takes00 {X : Cx} : Takes X (fun _ _ _ _ => False) := fun _ _ x => by
  obtain ⟨_, _, _, _, _, _, _, _, _, _, _, _, _, _, _, _, w⟩ := x
  exact w.elim
section
variable {G : Cfg} {N : List Str} {C : Calls} {XR : XRel} {X : Cx} {W : WX} {c : Sc}
theorem GX.blk (g : GX G N C XR X W c) (s : Shared) (H : Hp) (scope : Scope) (cl : List (Str × Addr)) (D : Addr) (fp : List Addr) : GX G N C XR (X.blk s H scope (compEnvC scope cl D X.env) fp) (fun _ _ _ _ => False) (c.blk scope) :=
  ⟨g.hN, by show relS scope X.env.scope = _; rw [g.sc]; rfl, rfl, g.nd, g.calm, g.gd, takes00, g.un, g.bn, g.fns, g.gl, g.gdt, g.rm, g.xr, g.xt⟩
theorem GX.vis (g : GX G N C XR X W c) {x : Str} (h : visB c x = true) : Vis X.env.scope x ∧ (x == ("__debug__" : Str)) = false ∧ (x == ("__classdict__" : Str)) = false := by
  unfold visB at h
  simp only [Bool.and_eq_true, Bool.or_eq_true, decide_eq_true_eq, Bool.not_eq_true'] at h
  obtain ⟨⟨h1, h2⟩, h3⟩ := h
  refine ⟨?_, h2, h3⟩
  unfold Vis
  rw [g.sc]
  rcases h1 with (h1 | h1) | h1
  · exact .inl h1
  · exact .inr (.inl h1)
  · exact .inr (.inr h1)
theorem GX.glo (g : GX G N C XR X W c) {x : Str} (h : glB c x = true) : Gl X x ∧ (x == ("__debug__" : Str)) = false := by
  unfold glB at h
  simp only [Bool.and_eq_true, decide_eq_true_eq, Bool.not_eq_true'] at h
  refine ⟨?_, h.2⟩
  show X.env.scope.names.lookup x = _
  rw [g.sc]; exact h.1
theorem cst_pe {d : PyData} {k : Const} {n : Nat} {p : Pos} (h : cstB d k = true) : ∃ v, PE X (.Constant k n p) (tC v) ∧ (∀ H, Dp X.K H v d) ∧ szOk d = true := by
  cases d <;> cases k <;> simp only [cstB, Bool.false_eq_true] at h
  · exact ⟨_, pe_non, fun _ => .non, rfl⟩
  · rw [beq_iff_eq.mp h]; exact ⟨_, pe_bl, fun _ => .bl _, rfl⟩
  · rw [beq_iff_eq.mp h]; exact ⟨_, pe_int, fun _ => .int _, rfl⟩
  · simp only [Bool.and_eq_true, decide_eq_true_eq] at h
    rw [h.1] at *
    exact ⟨_, pe_str, fun _ => .str _, h.2⟩
theorem pe_sc {e : Expr} {v : V} {d : PyData} {f : Env → Mem → R U} (h : PE X e (tC v)) (hd : ∀ H, Dp X.K H v d) (hz : szOk d = true) (hf : ∀ σ m, f σ m = .ok (.dat d) m) : PE X e (tU X.K XR W f) :=
  PE.imp h fun σ H Q ⟨Hf, ρ, ω, env, m, a, o⟩ => by
    rw [hf] at o
    exact a.ok o ⟨hd _, hz⟩
/-- a name -/
theorem pe_nameB (g : GX G N C XR X W c) {i : Nat} {x : Str} {p : Pos} (h1 : N[i]? = some x) (h2 : visB c x = true) (f : Env → Mem → R U)
    (hf : ∀ σ m, f σ m = getB σ i m) : PE X (.Name x p) (tB X.K XR W f) := by
  obtain ⟨v1, v2, v3⟩ := g.vis h2
  refine PE.imp (pe_var (i := i) (by rw [g.hN]; exact h1) v1 v2 v3) fun σ H Q ⟨Hf, ρ, ω, env, m, a, o⟩ => ?_
  rw [hf] at o
  unfold getB at o
  cases e : env[i]? with
  | none => rw [e] at o; exact o.elim
  | some sl =>
    rw [e] at o
    cases sl with
    | no => exact o.elim
    | v u =>
      obtain ⟨v, e1, r⟩ := a.slots.val i u e
      exact ⟨v, e1, a.ok o (.inl r)⟩
    | own xs =>
      obtain ⟨e1, e2, e3, ⟨vs, e4, e5⟩, e6⟩ := a.slots.own i xs e
      exact ⟨_, e1, a.ok o (.inr ⟨_, vs, xs, rfl, rfl, e4, e2, e3, e5, e6⟩)⟩
theorem pe_nameU (g : GX G N C XR X W c) {i : Nat} {x : Str} {p : Pos} (h1 : N[i]? = some x) (h2 : visB c x = true) : PE X (.Name x p) (tU X.K XR W (evE C (.var i))) := by
  obtain ⟨v1, v2, v3⟩ := g.vis h2
  refine PE.imp (pe_var (i := i) (by rw [g.hN]; exact h1) v1 v2 v3) fun σ H Q ⟨Hf, ρ, ω, env, m, a, o⟩ => ?_
  simp only [evE, getV] at o
  cases e : env[i]? with
  | none => rw [e] at o; exact o.elim
  | some sl =>
    rw [e] at o
    cases sl with
    | no => exact o.elim
    | v u =>
      obtain ⟨v, e1, r⟩ := a.slots.val i u e
      exact ⟨v, e1, a.ok o r⟩
    | own xs => exact o.elim
/-- a built-in of one argument -/
theorem pe_b1X (g : GX G N C XR X W c) {f : B1} {x : Str} {e : Expr} {p pos : Pos} {r : List V → Hp → VK → Prop} {t : TE} (hx : x = b1N f) (hg : glB c x = true) (he : PE X e t) (hp : pl e = true) (hr : CallR X (b1C f) r) :
    PE X (.Call (.Name x p) [e] [] pos) (tCB r (tCons t tNil)) := by
  obtain ⟨q1, q2⟩ := g.glo hg
  have hm : X.mg x = none := g.bn x (by rw [hx]; cases f <;> decide)
  have hv := b1boot f
  rw [← hx] at hv
  have hn : x ≠ "__name__" := by rw [hx]; cases f <;> decide
  have ha : PA X [e] (tCons t tNil) := pa_cons he pa_nil (star_pl hp)
  cases f <;> first
    | exact pe_callB hr q1 hm hv ha hn q2 (star_pl hp)
    | exact pe_callTy hr q1 hm hv ha hn q2 (star_pl hp)
theorem op_b2 (hc : X.calm = true) (f : B2) : CallR X (.builtin (match f with | .max => "max" | .min => "min")) (fun xs H Q => ∃ d e z x y, xs = [x, y] ∧ (∃ H', Dp X.K H' x d) ∧ (∃ H', Dp X.K H' y e) ∧ b2Val f d e = some z ∧ ∀ v, (∀ H', Dp X.K H' v z) → szOk z = true → Q v H) := by
  cases f with
  | max =>
    refine CallR.imp (call_max2 hc) fun xs H Q ⟨d, e, z, x, y, e1, ⟨_, h1⟩, ⟨_, h2⟩, hz, q⟩ => ?_
    subst e1
    cases d <;> cases e <;> simp only [b2Val, reduceCtorEq, Option.some.injEq] at hz
    subst hz
    cases h1; cases h2
    exact ⟨_, _, rfl, q _ (fun _ => .int _) rfl⟩
  | min =>
    refine CallR.imp (call_min2 hc) fun xs H Q ⟨d, e, z, x, y, e1, ⟨_, h1⟩, ⟨_, h2⟩, hz, q⟩ => ?_
    subst e1
    cases d <;> cases e <;> simp only [b2Val, reduceCtorEq, Option.some.injEq] at hz
    subst hz
    cases h1; cases h2
    exact ⟨_, _, rfl, q _ (fun _ => .int _) rfl⟩
/-- a value's class -/
def tyD : PyData → String
  | .none => "NoneType" | .bool _ => "bool" | .int _ => "int" | .str _ => "str" | .list _ => "list" | .tuple _ => "tuple" | .dict _ => "dict"
theorem ty_of {H : Hp} {v : V} {d : PyData} (h : Dp X.K H v d) : TyX X.K H v (.type (tyD d)) := by
  cases h with
  | non => exact .base .non
  | bl b => exact .base (.bl b)
  | int i => exact .base (.int i)
  | str x => exact .base (.str x)
  | lst hs ha =>
    rcases hs with (h | ⟨o, h⟩) | ⟨o, its, n, h, hc, _⟩
    · exact .base (.lst h)
    · exact .base (.frz h)
    · exact .kList h hc
  | tup hs ha =>
    rcases hs with (h | ⟨o, h⟩) | ⟨o, its, n, h, hc, _⟩
    · exact .base (.tup h)
    · exact .fTuple h
    · exact .kTuple h hc
def clsS : ClsT → String
  | .int => "int" | .bool => "bool" | .str => "str" | .list => "list" | .tuple => "tuple"
theorem cls_kit (k : ClsT) (d : PyData) (hd : szOk d = true) : PySem.W.kitOne X.K (.type (tyD d)) (.type (clsS k)) = some (clsVal k d) := by
  cases k <;> cases d <;> first | (simp only [tyD, clsVal, clsS]; exact kit_ty (by decide +kernel)) | (simp [szOk] at hd)
end
end Eng

set_option Elab.async false
set_option linter.all false
set_option maxRecDepth 100000
set_option maxHeartbeats 1000000
/-! Expressions: the cases. -/
namespace Eng
open PySem PySem.Spec PyProof.Rows L2

abbrev RBl : Hp → Hp → List Addr → Bool → Bool → Prop := fun _ _ _ b b' => b = b'
abbrev tT (K : PySem.W.Frag) (XR : XRel) (W : WX) (f : Env → Mem → R U) : TT := tR K XR W RBl (fun σ m => (f σ m).bind asB)
section
variable {G : Cfg} {N : List Str} {C : Calls} {XR : XRel} {X : Cx} {W : WX} {c : Sc} {f : Env → Mem → R U} {e : Expr}
/-- a value that is a truth value, as a test -/
theorem pt_of (h : PE X e (tU X.K XR W f)) (he : ∀ whole, isTrue e X.env whole = (do let v ← whole; standAt e.pos; holding [v] (truthy v))) : PT X e (tT X.K XR W f) :=
  PT.imp (pt_val h he) fun σ H Q ⟨Hf, ρ, ω, env, m, a, o⟩ => by
    refine ⟨Hf, ρ, ω, env, m, a, (OutE.bind (Rp' := RU X.K) o).mono fun v H1 ⟨u, Hf1, ρ1, m1, p, f1, r, o1⟩ => ?_⟩
    cases u with
    | ref i => exact o1.elim
    | dat d =>
      cases d with
      | bool b =>
        cases r.1
        exact ⟨b, rfl, (a.pres p f1).ok o1 rfl⟩
      | _ => exact o1.elim
end
end Eng

set_option Elab.async false
set_option linter.all false
set_option maxRecDepth 100000
set_option maxHeartbeats 1000000
/-! Expressions: a rule for each. -/
namespace Eng
open PySem PySem.Spec PyProof.Rows L2
section
variable {G : Cfg} {N : List Str} {C : Calls} {XR : XRel} {X : Cx} {W : WX} {c : Sc} {e e' l r : Expr} {pos : Pos} {f fa fb fc : Env → Mem → R U}
theorem RepB_d2 {F : PyData → PyData → Option PyData} {H Hf : Hp} {ρ : List Addr} {ω : Nat → Addr} {σ : L2.St} {env : Env} {m : Mem} {x y : V} {u u' : U} {Q : VK} (a : At X.K H σ Hf ρ ω env m) (r1 : RepB X.K H Hf ρ x u) (r2 : RepB X.K H Hf ρ y u')
    (o : OutE X.K XR W σ H Hf ρ (RU X.K) (d2 F u u' m) Q) : opD X.K F x y H Q := by
  cases u with
  | ref i => exact o.elim
  | dat d =>
    cases u' with
    | ref i => exact o.elim
    | dat e =>
      simp only [d2_dat] at o
      cases hz : F d e with
      | none => rw [hz] at o; exact o.elim
      | some z =>
        rw [hz] at o
        exact ⟨Hf, ρ, ω, σ, env, m, d, e, z, a, r1, r2, hz, o⟩
theorem rl_op {F : PyData → PyData → Option PyData} {o : Operator} (ha : PE X l (tB X.K XR W fa)) (hb : PE X r (tB X.K XR W fb)) (ho : OpR X (binaryOp o) (opD X.K F)) :
    PE X (.BinOp l o r pos) (tU X.K XR W fun σ m => (fa σ m).bind fun x m1 => (fb σ m1).bind fun y m2 => d2 F x y m2) :=
  PE.imp (pe_op ho ha hb) fun σ H Q ⟨Hf, ρ, ω, env, m, a, o⟩ => by
    obtain ⟨A, B, D, E, F', a1, o1⟩ := a.bind (Rp' := RB X.K) o
    refine ⟨A, B, D, E, F', a1, o1.mono fun x H1 ⟨u, Hf1, ρ1, m1, p, a1, r1, o1⟩ => ?_⟩
    obtain ⟨A, B, D, E, F', a2, o2⟩ := a1.bind (Rp' := RB X.K) o1
    refine ⟨A, B, D, E, F', a2, o2.mono fun y H2 ⟨u2, Hf2, ρ2, m2, p2, a2, r2, o2⟩ => ?_⟩
    exact RepB_d2 a2 (r1.pres p2) r2 o2
theorem rl_cmp {F : PyData → PyData → Option PyData} {o : CmpOp} (ha : PE X l (tB X.K XR W fa)) (hb : PE X r (tB X.K XR W fb)) (ho : OpR X (compareOp o) (opD X.K F)) (hp : pl r = true) :
    PE X (.Compare l [o] [r] pos) (tU X.K XR W fun σ m => (fa σ m).bind fun x m1 => (fb σ m1).bind fun y m2 => d2 F x y m2) :=
  PE.imp (pe_cmpR ho ha hb (mark_pl hp)) fun σ H Q ⟨Hf, ρ, ω, env, m, a, o⟩ => by
    obtain ⟨A, B, D, E, F', a1, o1⟩ := a.bind (Rp' := RB X.K) o
    refine ⟨A, B, D, E, F', a1, o1.mono fun x H1 ⟨u, Hf1, ρ1, m1, p, a1, r1, o1⟩ => ?_⟩
    obtain ⟨A, B, D, E, F', a2, o2⟩ := a1.bind (Rp' := RB X.K) o1
    refine ⟨A, B, D, E, F', a2, o2.mono fun y H2 ⟨u2, Hf2, ρ2, m2, p2, a2, r2, o2⟩ => ?_⟩
    exact RepB_d2 a2 (r1.pres p2) r2 o2
/-- a truth value, behind which a test goes on -/
theorem bl_of {H Hf : Hp} {ρ : List Addr} {ω : Nat → Addr} {σ : L2.St} {env : Env} {m : Mem} {Q : Bool → Hp → Prop} {x : V} {u : U} (a : At X.K H σ Hf ρ ω env m) (r : RepU X.K Hf ρ x u) (o : OutE X.K XR W σ H Hf ρ RBl (asB u m) Q) : ∃ k, x = .bl k ∧ Q k H := by
  cases u with
  | ref i => exact o.elim
  | dat d =>
    cases d with
    | bool b => cases r.1; exact ⟨b, rfl, a.ok o rfl⟩
    | _ => exact o.elim
theorem rt_cmp {F : PyData → PyData → Option PyData} {o : CmpOp} (ha : PE X l (tB X.K XR W fa)) (hb : PE X r (tB X.K XR W fb)) (ho : OpR X (compareOp o) (opD X.K F)) (hp : pl r = true) :
    PT X (.Compare l [o] [r] pos) (tT X.K XR W fun σ m => (fa σ m).bind fun x m1 => (fb σ m1).bind fun y m2 => d2 F x y m2) := by
  have h := pt_cmpR (pos := pos) ho ha hb (mark_pl hp)
  refine PT.imp h fun σ H Q ⟨Hf, ρ, ω, env, m, a, o⟩ => ?_
  dsimp only at o
  rw [R.bind_bind] at o
  obtain ⟨A, B, D, E, F', a1, o1⟩ := a.bind (Rp' := RB X.K) o
  refine ⟨A, B, D, E, F', a1, o1.mono fun x H1 ⟨u, Hf1, ρ1, m1, p, a1, r1, o1⟩ => ?_⟩
  rw [R.bind_bind] at o1
  obtain ⟨A, B, D, E, F', a2, o2⟩ := a1.bind (Rp' := RB X.K) o1
  refine ⟨A, B, D, E, F', a2, o2.mono fun y H2 ⟨u2, Hf2, ρ2, m2, p2, a2, r2, o2⟩ => ?_⟩
  refine RepB_d2 (XR := XR) (W := W) a2 (r1.pres p2) r2 ?_
  exact (OutE.bind (Rp' := RU X.K) o2).mono fun v H3 ⟨u3, Hf3, ρ3, m3, p3, f3, r3, o3⟩ => bl_of (a2.pres p3 f3) r3 o3
theorem tU_of_tT {σ : L2.St} {H : Hp} {Q : Bool → Hp → Prop} (h : tT X.K XR W f σ H Q) : tU X.K XR W f σ H (fun x H' => ∃ k, x = .bl k ∧ Q k H') := by
  obtain ⟨Hf, ρ, ω, env, m, a, o⟩ := h
  exact ⟨Hf, ρ, ω, env, m, a, (OutE.bind (Rp' := RU X.K) o).mono fun v H1 ⟨u, Hf1, ρ1, m1, p, f1, r, o1⟩ => bl_of (a.pres p f1) r o1⟩
theorem im_chain {F F' : PyData → PyData → Option PyData} {σ : L2.St} {H : Hp} {Q : VK} (h : tU X.K XR W (fun σ m => (fa σ m).bind fun x m1 => (fb σ m1).bind fun y m2 => (c2 F x y m2).bind fun k m3 => if k = true then (fc σ m3).bind fun z m4 => d2 F' y z m4 else .ok (.dat (.bool false)) m3) σ H Q) :
    tChain (opD X.K F) (opD X.K F') (tB X.K XR W fa) (tB X.K XR W fb) (tB X.K XR W fc) σ H Q := by
    obtain ⟨Hf, ρ, ω, env, m, a, o⟩ := h
    obtain ⟨A, B, D, E, F0, a1, o1⟩ := a.bind (Rp' := RB X.K) o
    refine ⟨A, B, D, E, F0, a1, o1.mono fun x H1 ⟨u, Hf1, ρ1, m1, p, a1, r1, o1⟩ => ?_⟩
    obtain ⟨A, B, D, E, F0, a2, o2⟩ := a1.bind (Rp' := RB X.K) o1
    refine ⟨A, B, D, E, F0, a2, o2.mono fun y H2 ⟨u2, Hf2, ρ2, m2, p2, a2, r2, o2⟩ => ?_⟩
    have r1 := r1.pres p2
    cases u with
    | ref i => exact o2.elim
    | dat d =>
      cases u2 with
      | ref i => exact o2.elim
      | dat e =>
        simp only [c2_dat] at o2
        cases hz : F d e with
        | none => rw [hz] at o2; exact o2.elim
        | some z =>
          rw [hz] at o2
          cases z with
          | bool k =>
            rw [boolOf_some, R.bind_ok] at o2
            refine ⟨_, _, _, _, _, _, d, e, _, a2, r1, r2, hz, fun v H3 Hf3 ρ3 p3 f3 r3 => ?_⟩
            cases r3.1
            refine ⟨k, rfl, ?_⟩
            have a3 := a2.pres p3 f3
            cases k with
            | true =>
              have o3 := OutE.pres p3 o2
              rw [if_pos rfl] at o3
              obtain ⟨A, B, D, E, F0, a4, o4⟩ := a3.bind (Rp' := RB X.K) o3
              refine ⟨A, B, D, E, F0, a4, o4.mono fun y H4 ⟨u4, Hf4, ρ4, m4, p4, a4, r4, o4⟩ => ?_⟩
              exact RepB_d2 a4 ((r2.pres p3).pres p4) r4 o4
            | false => exact a3.ok (OutE.pres p3 o2) ⟨.bl _, rfl⟩
          | _ => exact o2.elim
theorem rl_chain {F F' : PyData → PyData → Option PyData} {o o' : CmpOp} {b : Expr} (ha : PE X l (tB X.K XR W fa)) (hb : PE X b (tB X.K XR W fb)) (hc : PE X r (tB X.K XR W fc)) (ho : OpR X (compareOp o) (opD X.K F)) (ho' : OpR X (compareOp o') (opD X.K F')) (hp' : pl r = true) :
    PE X (.Compare l [o, o'] [b, r] pos) (tU X.K XR W fun σ m => (fa σ m).bind fun x m1 => (fb σ m1).bind fun y m2 => (c2 F x y m2).bind fun k m3 => if k = true then (fc σ m3).bind fun z m4 => d2 F' y z m4 else .ok (.dat (.bool false)) m3) :=
  PE.imp (pe_chain ho ho' ha hb hc (mark_pl hp')) fun σ H Q h => im_chain h
theorem rt_chain {F F' : PyData → PyData → Option PyData} {o o' : CmpOp} {b : Expr} (ha : PE X l (tB X.K XR W fa)) (hb : PE X b (tB X.K XR W fb)) (hc : PE X r (tB X.K XR W fc)) (ho : OpR X (compareOp o) (opD X.K F)) (ho' : OpR X (compareOp o') (opD X.K F')) (hp' : pl r = true) :
    PT X (.Compare l [o, o'] [b, r] pos) (tT X.K XR W fun σ m => (fa σ m).bind fun x m1 => (fb σ m1).bind fun y m2 => (c2 F x y m2).bind fun k m3 => if k = true then (fc σ m3).bind fun z m4 => d2 F' y z m4 else .ok (.dat (.bool false)) m3) :=
  PT.imp (pt_chain ho ho' ha hb hc (mark_pl hp')) fun σ H Q h => im_chain (tU_of_tT h)
theorem rl_not (ht : PT X e (tT X.K XR W f)) (hv : PE X e (tU X.K XR W f)) : PE X (.UnaryOp .Not e pos) (tU X.K XR W fun σ m => ((f σ m).bind asB).bind fun b m1 => .ok (.dat (.bool (!b))) m1) :=
  PE.imp (pe_not hv) fun σ H Q ⟨Hf, ρ, ω, env, m, a, o⟩ => by
    dsimp only at o
    rw [R.bind_bind] at o
    obtain ⟨A, B, D, E, F', a1, o1⟩ := a.bind (Rp' := RU X.K) o
    refine ⟨A, B, D, E, F', a1, o1.mono fun x H1 ⟨u, Hf1, ρ1, m1, p, a1, r1, o1⟩ => ?_⟩
    cases u with
    | ref i => exact o1.elim
    | dat d =>
      cases d with
      | bool b => cases r1.1; exact ⟨b, rfl, a1.ok o1 ⟨.bl _, rfl⟩⟩
      | _ => exact o1.elim
theorem rt_not (ht : PT X e (tT X.K XR W f)) : PT X (.UnaryOp .Not e pos) (tT X.K XR W fun σ m => ((f σ m).bind asB).bind fun b m1 => .ok (.dat (.bool (!b))) m1) :=
  PT.imp (pt_not ht) fun σ H Q ⟨Hf, ρ, ω, env, m, a, o⟩ => by
    dsimp only at o
    rw [R.bind_bind] at o
    obtain ⟨A, B, D, E, F', a1, o1⟩ := a.bind (f := fun σ m => (f σ m).bind asB) (Rp' := RBl) o
    refine ⟨A, B, D, E, F', a1, o1.mono fun x H1 ⟨u, Hf1, ρ1, m1, p, a1, r1, o1⟩ => ?_⟩
    cases r1
    exact a1.ok o1 rfl
/-- and, or: as a value, as a test; h: the rest (one value, or a further and) -/
theorem rl_and {rest : List Expr} {b : Expr} (ha : PE X l (tU X.K XR W fa)) (hb : PE X (.BoolOp .And (b :: rest) pos) (tU X.K XR W fb)) : PE X (.BoolOp .And (l :: b :: rest) pos) (tU X.K XR W fun σ m => ((fa σ m).bind asB).bind fun c m1 => if c = true then fb σ m1 else .ok (.dat (.bool false)) m1) :=
  PE.imp (pe_and ha hb) fun σ H Q ⟨Hf, ρ, ω, env, m, a, o⟩ => by
    dsimp only at o
    rw [R.bind_bind] at o
    obtain ⟨A, B, D, E, F', a1, o1⟩ := a.bind (Rp' := RU X.K) o
    refine ⟨A, B, D, E, F', a1, o1.mono fun x H1 ⟨u, Hf1, ρ1, m1, p, a1, r1, o1⟩ => ?_⟩
    cases u with
    | ref i => exact o1.elim
    | dat d =>
      cases d with
      | bool k =>
        cases r1.1
        refine ⟨k, rfl, ?_⟩
        cases k with
        | true => exact ⟨_, _, _, _, _, a1, o1⟩
        | false => exact a1.ok o1 ⟨.bl _, rfl⟩
      | _ => exact o1.elim
theorem rl_or {rest : List Expr} {b : Expr} (ha : PE X l (tU X.K XR W fa)) (hb : PE X (.BoolOp .Or (b :: rest) pos) (tU X.K XR W fb)) : PE X (.BoolOp .Or (l :: b :: rest) pos) (tU X.K XR W fun σ m => ((fa σ m).bind asB).bind fun c m1 => if c = true then .ok (.dat (.bool true)) m1 else fb σ m1) :=
  PE.imp (pe_or ha hb) fun σ H Q ⟨Hf, ρ, ω, env, m, a, o⟩ => by
    dsimp only at o
    rw [R.bind_bind] at o
    obtain ⟨A, B, D, E, F', a1, o1⟩ := a.bind (Rp' := RU X.K) o
    refine ⟨A, B, D, E, F', a1, o1.mono fun x H1 ⟨u, Hf1, ρ1, m1, p, a1, r1, o1⟩ => ?_⟩
    cases u with
    | ref i => exact o1.elim
    | dat d =>
      cases d with
      | bool k =>
        cases r1.1
        refine ⟨k, rfl, ?_⟩
        cases k with
        | true => exact a1.ok o1 ⟨.bl _, rfl⟩
        | false => exact ⟨_, _, _, _, _, a1, o1⟩
      | _ => exact o1.elim
theorem rt_and {rest : List Expr} {b : Expr} (ha : PT X l (tT X.K XR W fa)) (hb : PW X (.BoolOp .And (b :: rest) pos) (tT X.K XR W fb)) : PW X (.BoolOp .And (l :: b :: rest) pos) (tT X.K XR W fun σ m => ((fa σ m).bind asB).bind fun c m1 => if c = true then fb σ m1 else .ok (.dat (.bool false)) m1) :=
  PW.imp (pw_and ha hb) fun σ H Q ⟨Hf, ρ, ω, env, m, a, o⟩ => by
    dsimp only at o
    rw [R.bind_bind] at o
    obtain ⟨A, B, D, E, F', a1, o1⟩ := a.bind (f := fun σ m => (fa σ m).bind asB) (Rp' := RBl) o
    refine ⟨A, B, D, E, F', a1, o1.mono fun x H1 ⟨u, Hf1, ρ1, m1, p, a1, r1, o1⟩ => ?_⟩
    cases r1
    cases x with
    | true => exact ⟨_, _, _, _, _, a1, o1⟩
    | false => exact a1.ok o1 rfl
theorem rt_or {rest : List Expr} {b : Expr} (ha : PT X l (tT X.K XR W fa)) (hb : PW X (.BoolOp .Or (b :: rest) pos) (tT X.K XR W fb)) : PW X (.BoolOp .Or (l :: b :: rest) pos) (tT X.K XR W fun σ m => ((fa σ m).bind asB).bind fun c m1 => if c = true then .ok (.dat (.bool true)) m1 else fb σ m1) :=
  PW.imp (pw_or ha hb) fun σ H Q ⟨Hf, ρ, ω, env, m, a, o⟩ => by
    dsimp only at o
    rw [R.bind_bind] at o
    obtain ⟨A, B, D, E, F', a1, o1⟩ := a.bind (f := fun σ m => (fa σ m).bind asB) (Rp' := RBl) o
    refine ⟨A, B, D, E, F', a1, o1.mono fun x H1 ⟨u, Hf1, ρ1, m1, p, a1, r1, o1⟩ => ?_⟩
    cases r1
    cases x with
    | true => exact a1.ok o1 rfl
    | false => exact ⟨_, _, _, _, _, a1, o1⟩
theorem rl_ite {t : Expr} (ht : PT X t (tT X.K XR W f)) (ha : PE X l (tU X.K XR W fa)) (hb : PE X r (tU X.K XR W fb)) : PE X (.IfExp t l r pos) (tU X.K XR W fun σ m => ((f σ m).bind asB).bind fun c m1 => if c = true then fa σ m1 else fb σ m1) :=
  PE.imp (pe_ifExp ht ha hb) fun σ H Q ⟨Hf, ρ, ω, env, m, a, o⟩ => by
    obtain ⟨A, B, D, E, F', a1, o1⟩ := a.bind (f := fun σ m => (f σ m).bind asB) (Rp' := RBl) o
    refine ⟨A, B, D, E, F', a1, o1.mono fun x H1 ⟨u, Hf1, ρ1, m1, p, a1, r1, o1⟩ => ?_⟩
    cases r1
    cases x with
    | true => exact ⟨_, _, _, _, _, a1, o1⟩
    | false => exact ⟨_, _, _, _, _, a1, o1⟩
theorem rl_b1 (g : GX G N C XR X W c) {b : B1} {x : Str} {p : Pos} (hx : x = b1N b) (hg : glB c x = true) (he : PE X e (tB X.K XR W f)) (hp : pl e = true) :
    PE X (.Call (.Name x p) [e] [] pos) (tU X.K XR W fun σ m => (f σ m).bind (d1 (b1Val b))) :=
  PE.imp (pe_b1X g hx hg he hp (op_b1 g.gd (by have := g.un; omega) g.calm b)) fun σ H Q ⟨Hf, ρ, ω, env, m, a, o⟩ => by
    obtain ⟨A, B, D, E, F', a1, o1⟩ := a.bind (Rp' := RB X.K) o
    refine ⟨A, B, D, E, F', a1, o1.mono fun x H1 ⟨u, Hf1, ρ1, m1, p, a1, r1, o1⟩ => ?_⟩
    cases u with
    | ref i => exact o1.elim
    | dat d =>
      simp only [d1_dat] at o1
      cases hz : b1Val b d with
      | none => rw [hz] at o1; exact o1.elim
      | some z => rw [hz] at o1; exact ⟨_, _, _, _, _, _, x, d, z, rfl, a1, r1, hz, o1⟩
theorem valN_sz {kvs : List (NestedKey × PyData)} {k : NestedKey} {d : PyData} (h : valN kvs k = some d) (hs : ∀ p ∈ kvs, szOk p.2 = true ∧ szOk p.1.data = true) : szOk d = true := by
  unfold valN at h
  obtain ⟨p, h1, rfl⟩ := Option.map_eq_some_iff.mp h
  exact (hs p (List.mem_of_find?_eq_some h1)).1
theorem rl_ix (hu : X.A.units + 64 < cLine) (ha : PE X l (tB X.K XR W fa)) (hb : PE X r (tU X.K XR W fb)) (hp : pl r = true) : PE X (.Subscript l r pos) (tU X.K XR W fun σ m => (fa σ m).bind fun x m1 => (fb σ m1).bind fun y m2 => ixU x y m2) :=
  PE.imp (pe_ix (ix_D.or (ix_dic hu)) ha hb (ix_pl hp)) fun σ H Q ⟨Hf, ρ, ω, env, m, a, o⟩ => by
    obtain ⟨A, B, D, E, F', a1, o1⟩ := a.bind (Rp' := RB X.K) o
    refine ⟨A, B, D, E, F', a1, o1.mono fun x H1 ⟨u, Hf1, ρ1, m1, p, a1, r1, o1⟩ => ?_⟩
    obtain ⟨A, B, D, E, F', a2, o2⟩ := a1.bind (Rp' := RU X.K) o1
    refine ⟨A, B, D, E, F', a2, o2.mono fun y H2 ⟨u2, Hf2, ρ2, m2, p2, a2, r2, o2⟩ => ?_⟩
    have r1 := r1.pres p2
    cases u2 with
    | ref i => cases u <;> exact o2.elim
    | dat i =>
      cases u with
      | dat d =>
        simp only [ixU_dat] at o2
        cases hz : ixVal d i with
        | none => rw [hz] at o2; exact o2.elim
        | some z =>
          rw [hz] at o2
          cases i <;> first
            | (cases d <;> simp [ixVal] at hz; done)
            | (cases r2.1; exact .inl (.inl ⟨_, _, _, _, _, _, d, _, z, a2, r1, rfl, hz, o2⟩))
      | ref k =>
        simp only [ixU] at o2
        cases hk : m2[k]? with
        | none => rw [hk] at o2; exact o2.elim
        | some ob =>
          rw [hk] at o2
          cases ob with
          | inst c fs => exact o2.elim
          | lst xs =>
            cases i with
            | int j =>
              simp only at o2
              cases r2.1
              cases hz : atI xs j with
              | none => rw [hz] at o2; exact o2.elim
              | some z => rw [hz] at o2; exact .inl (.inr ⟨_, _, _, _, _, _, k, xs, j, z, a2, r1, rfl, hk, hz, o2⟩)
            | _ => exact (o2 : False).elim
          | dct kvs =>
            simp only at o2
            cases hq : (keyOfD i).bind (valN kvs) with
            | none => rw [hq] at o2; exact o2.elim
            | some z =>
              rw [hq] at o2
              obtain ⟨kk, e1, e2⟩ := Option.bind_eq_some_iff.mp hq
              rcases r1 with ⟨q, e, rfl⟩ | ⟨q, vs, ys, e, _⟩
              · obtain ⟨es, h1, h2, h3, h4, h5, h6⟩ := a2.fine.at_ k q _ e hk
                exact .inr ⟨q, es, kvs, i, kk, z, Hf2, a2.fine.sub, rfl, h1, h2, h3, Dp.mono a2.fine.sub _ _ r2.1, e1, e2, fun v hv => a2.ok (u := U.dat z) o2 ⟨hv, valN_sz e2 h5⟩⟩
              · cases e
/-- sorted(set(xs)) -/
theorem asInts_map : ∀ ns : List Int, asInts (ns.map .int) = some ns
  | [] => rfl
  | n :: ns => by simp only [List.map_cons, asInts, asInts_map ns, Option.map_some]
theorem nodup_eraseDups : ∀ (n : Nat) (l : List Int), l.length ≤ n → l.eraseDups.Nodup
  | _, [], _ => by simp
  | 0, x :: l, h => by simp at h
  | n + 1, x :: l, h => by
    rw [List.eraseDups_cons, List.nodup_cons]
    refine ⟨fun hx => ?_, nodup_eraseDups n _ ?_⟩
    · have := List.mem_eraseDups.mp hx
      rw [List.mem_filter] at this
      simp at this
    · have := List.length_filter_le (fun b => !b == x) l
      simp only [List.length_cons] at h
      omega
theorem sortD_lt (ns : List Int) : (sortD ns).Pairwise (· < ·) := by
  have h1 : (sortD ns).Pairwise (· ≤ ·) := by
    have := List.pairwise_mergeSort (le := fun a b : Int => decide (a ≤ b)) (fun a b c h1 h2 => by simp only [decide_eq_true_eq] at *; omega) (fun a b => by simp only [Bool.or_eq_true, decide_eq_true_eq]; omega) ns.eraseDups
    exact this.imp fun h => of_decide_eq_true h
  have h2 : (sortD ns).Nodup := (List.mergeSort_perm _ _).nodup_iff.mpr (nodup_eraseDups _ ns (Nat.le_refl _))
  exact (List.Pairwise.and h1 h2).imp fun {a b} ⟨h1, h2⟩ => by
    have : a ≠ b := h2
    omega
theorem mem_sortD {ns : List Int} {k : Int} : k ∈ sortD ns ↔ k ∈ ns := by
  unfold sortD
  rw [(List.mergeSort_perm _ _).mem_iff, List.mem_eraseDups]
theorem lt_unique : ∀ {l l' : List Int}, l.Pairwise (· < ·) → l'.Pairwise (· < ·) → (∀ k, k ∈ l ↔ k ∈ l') → l = l'
  | [], [], _, _, _ => rfl
  | [], y :: l', _, _, h => absurd ((h y).mpr List.mem_cons_self) (by simp)
  | x :: l, [], _, _, h => absurd ((h x).mp List.mem_cons_self) (by simp)
  | x :: l, y :: l', h1, h2, h => by
    obtain ⟨a1, a2⟩ := List.pairwise_cons.mp h1
    obtain ⟨b1, b2⟩ := List.pairwise_cons.mp h2
    have exy : x = y := by
      have e1 : y ≤ x := by
        rcases List.mem_cons.mp ((h x).mp List.mem_cons_self) with e | e
        · omega
        · have := b1 x e; omega
      have e2 : x ≤ y := by
        rcases List.mem_cons.mp ((h y).mpr List.mem_cons_self) with e | e
        · omega
        · have := a1 y e; omega
      omega
    subst exy
    rw [lt_unique a2 b2 fun k => ⟨fun hk => ?_, fun hk => ?_⟩]
    · rcases List.mem_cons.mp ((h k).mp (List.mem_cons_of_mem _ hk)) with e | e
      · have := a1 k hk; omega
      · exact e
    · rcases List.mem_cons.mp ((h k).mpr (List.mem_cons_of_mem _ hk)) with e | e
      · have := b1 k hk; omega
      · exact e
theorem dp_intsQ {K : PySem.W.Frag} {H : Hp} : ∀ ns : List Int, DpAll K H (ns.map V.int) (ns.map .int)
  | [] => .nil
  | n :: ns => .cons (.int n) (dp_intsQ ns)
theorem sz_intsQ : ∀ ns : List Int, szAll (ns.map .int) = true
  | [] => rfl
  | n :: ns => by simp only [List.map_cons, szAll, szOk, Bool.true_and]; exact sz_intsQ ns
theorem rl_sset (g : GX G N C XR X W c) {x y : Str} {p p2 q : Pos} (hx : x = "sorted") (hg : glB c x = true) (hy : y = "set") (hg2 : glB c y = true) (he : PE X e (tU X.K XR W f)) (hp : pl e = true) :
    PE X (.Call (.Name x p) [.Call (.Name y p2) [e] [] q] [] pos) (tU X.K XR W fun σ m => (f σ m).bind (d1 ssetV)) := by
  obtain ⟨a1, a2⟩ := g.glo hg
  obtain ⟨b1, b2⟩ := g.glo hg2
  subst hx; subst hy
  refine PE.imp (pe_callB (cr_sortedSet g.calm) a1 (g.bn _ (by decide)) (by decide +kernel) (pa_cons (pe_callTy (EngQ.cr_setL g.calm) b1 (g.bn _ (by decide)) (by decide +kernel) (pa_cons he pa_nil (star_pl hp)) (by decide) b2 (star_pl hp)) pa_nil rfl) (by decide) a2 rfl) fun σ H Q ⟨Hf, ρ, ω, env, m, a, o⟩ => ?_
  obtain ⟨A, B, D, E, F', a1, o1⟩ := a.bind (Rp' := RU X.K) o
  refine ⟨A, B, D, E, F', a1, o1.mono fun x H1 ⟨u, Hf1, ρ1, m1, p, a1, r1, o1⟩ => ?_⟩
  cases u with
  | ref k => exact (o1 : False).elim
  | dat d =>
    simp only [d1_dat] at o1
    cases hv : ssetV d with
    | none => rw [hv] at o1; exact (o1 : False).elim
    | some z =>
      rw [hv] at o1
      cases d with
      | list xs =>
        simp only [ssetV, Option.bind_eq_some_iff] at hv
        obtain ⟨ns, e1, hv⟩ := hv
        split at hv
        case isFalse => cases hv
        rename_i hc
        cases hv
        obtain ⟨rd, rz⟩ := r1
        cases rd with
        | lst hs ha =>
        have ev := DpAll.ints ha e1
        subst ev
        refine ⟨_, ns, rfl, SqL.mono a1.fine.sub hs, hc.1, fun pp cc hn hcl => ?_⟩
        have hnf := a1.free hn
        have hcl := hcl (sortD ns) fun k hk => mem_sortD.mpr hk
        refine ⟨pp, _, cc, rfl, upd_same, by omega, fun ns' b h1 h2 _ hb => ?_⟩
        have ens : ns' = sortD ns := lt_unique h1 (sortD_lt ns) fun k => by rw [h2 k, mem_sortD]; simp
        subst ens
        have a2 := a1.pres (Pres.fresh (o := SetO X.w pp (fun j => decide (j ∈ ns)) cc) hn) (a1.fine.fresh hn)
        have hfb := a2.free hb
        refine a2.okN (OutE.pres (Pres.fresh (o := SetO X.w pp (fun j => decide (j ∈ ns)) cc) hn) o1) hb ⟨.lst (.inl (.inl upd_same)) (dp_intsQ _), sz_list.mpr ⟨?_, sz_intsQ _⟩⟩
        rw [List.length_map]
        have := hc.2
        have : (64 : Nat) ≤ sizeLine := by rw [sizeLine_eq]; decide
        omega
      | _ => simp [ssetV] at hv
end
end Eng

set_option Elab.async false
set_option linter.all false
set_option maxRecDepth 100000
set_option maxHeartbeats 1000000
/-! Expressions: displays, calls, slices. -/
namespace Eng
open PySem PySem.Spec PyProof.Rows L2
section
variable {α α' β β' : Type} {K : PySem.W.Frag} {XR : XRel} {W : WX} {σ : L2.St} {H Hf : Hp} {ρ : List Addr} {ω : Nat → Addr} {env : Env} {m : Mem} {Rp : Hp → Hp → List Addr → β → α → Prop} {Rp' : Hp → Hp → List Addr → β' → α' → Prop} {Q : β → Hp → Prop}
theorem OutE.bindE {r : R α'} {k : α' → Mem → R α} (h : OutE K XR W σ H Hf ρ Rp (r.bind k) Q) :
    OutE K XR W σ H Hf ρ Rp' r fun v H1 => ∃ u Hf1 ρ1 m1, Pres H Hf ρ H1 Hf1 ρ1 ∧ Fine K H1 Hf1 ρ1 m1 ∧ Rp' H1 Hf1 ρ1 v u ∧ OutE K XR W σ H1 Hf1 ρ1 Rp (k u m1) Q ∧ r = .ok u m1 := by
  cases r with
  | ok u m' => exact fun v H' Hf' ρ' p f r => ⟨u, Hf', ρ', m', p, f, r, OutE.pres p h, rfl⟩
  | exc c x m' => exact h
  | bad => exact h
theorem At.bindE {Rp' : Hp → Hp → List Addr → β' → α' → Prop} (a : At K H σ Hf ρ ω env m) {f : Env → Mem → R α'} {k : α' → Mem → R α} (h : OutE K XR W σ H Hf ρ Rp ((f env m).bind k) Q) :
    tR K XR W Rp' f σ H (fun v H1 => ∃ u Hf1 ρ1 m1, Pres H Hf ρ H1 Hf1 ρ1 ∧ At K H1 σ Hf1 ρ1 ω env m1 ∧ Rp' H1 Hf1 ρ1 v u ∧ OutE K XR W σ H1 Hf1 ρ1 Rp (k u m1) Q ∧ f env m = .ok u m1) :=
  ⟨Hf, ρ, ω, env, m, a, (OutE.bindE h).mono fun v H' ⟨u, Hf1, ρ1, m1, p, f1, r, o, e⟩ => ⟨u, Hf1, ρ1, m1, p, a.pres p f1, r, o, e⟩⟩
end
def Es.len : Es → Nat
  | .nil => 0
  | .cons _ es => es.len + 1
theorem evEs_len {C : Calls} : ∀ (es : Es) {σ : Env} {m m' : Mem} {us : List U}, evEs C es σ m = .ok us m' → us.length = es.len
  | .nil, σ, m, m', us, h => by simp only [evEs, R.ok.injEq] at h; rw [← h.1]; rfl
  | .cons e es, σ, m, m', us, h => by
    simp only [evEs] at h
    cases h1 : evE C e σ m with
    | ok u m1 =>
      rw [h1, R.bind_ok] at h
      cases h2 : evEs C es σ m1 with
      | ok us2 m2 =>
        rw [h2, R.bind_ok] at h
        simp only [R.ok.injEq] at h
        rw [← h.1, List.length_cons, evEs_len es h2]; rfl
      | exc c x m => rw [h2] at h; simp at h
      | bad => rw [h2] at h; simp at h
    | exc c x m => rw [h1] at h; simp at h
    | bad => rw [h1] at h; simp at h
theorem okEs_len {G : Cfg} {N : List Str} : ∀ (es : Es) {c : Sc} {xs : List Expr}, okEs G N es c xs = true → es.len = xs.length
  | .nil, c, xs, h => by
    cases xs with
    | nil => rfl
    | cons _ _ => simp [okEs] at h
  | .cons e es, c, xs, h => by
    cases xs with
    | nil => simp [okEs] at h
    | cons x xs =>
      simp only [okEs, Bool.and_eq_true] at h
      rw [List.length_cons, ← okEs_len es h.2]; rfl
theorem small1001 {n : Nat} (h : n ≤ 1000) : n ≤ sizeLine := by rw [sizeLine_eq]; omega
section
variable {G : Cfg} {N : List Str} {C : Calls} {XR : XRel} {X : Cx} {W : WX} {c : Sc} {e e' l r : Expr} {es : List Expr} {pos : Pos} {f fa fb fc : Env → Mem → R U} {fs : Env → Mem → R (List U)}
abbrev tL (K : PySem.W.Frag) (XR : XRel) (W : WX) (f : Env → Mem → R (List U)) : TA := tR K XR W (RL K) f
theorem ra_nil : PA X [] (tL X.K XR W fun _ m => .ok [] m) := PA.imp pa_nil fun σ H Q ⟨Hf, ρ, ω, env, m, a, o⟩ => a.ok o trivial
theorem ra_cons (he : PE X e (tU X.K XR W f)) (hr : PA X es (tL X.K XR W fs)) (hp : pl e = true) : PA X (e :: es) (tL X.K XR W fun σ m => (f σ m).bind fun u m1 => (fs σ m1).bind fun us m2 => .ok (u :: us) m2) :=
  PA.imp (pa_cons he hr (star_pl hp)) fun σ H Q ⟨Hf, ρ, ω, env, m, a, o⟩ => by
    obtain ⟨A, B, D, E, F', a1, o1⟩ := a.bind (Rp' := RU X.K) o
    refine ⟨A, B, D, E, F', a1, o1.mono fun x H1 ⟨u, Hf1, ρ1, m1, p, a1, r1, o1⟩ => ?_⟩
    obtain ⟨A, B, D, E, F', a2, o2⟩ := a1.bind (Rp' := RL X.K) o1
    refine ⟨A, B, D, E, F', a2, o2.mono fun y H2 ⟨u2, Hf2, ρ2, m2, p2, a2, r2, o2⟩ => ?_⟩
    exact a2.ok o2 ⟨r1.pres p2, r2⟩
theorem rl_tup {k : Nat} (h : PA X es (tL X.K XR W fs)) (hl : ∀ σ m us m', fs σ m = .ok us m' → us.length ≤ 1000) : PE X (.Tuple es k pos) (tU X.K XR W fun σ m => (fs σ m).bind asTup) :=
  PE.imp (pe_tup h) fun σ H Q ⟨Hf, ρ, ω, env, m, a, o⟩ => by
    obtain ⟨A, B, D, E, F', a1, o1⟩ := a.bindE (Rp' := RL X.K) o
    refine ⟨A, B, D, E, F', a1, o1.mono fun x H1 ⟨u, Hf1, ρ1, m1, p, a1, r1, o1, eq⟩ => ?_⟩
    have hlen := small1001 (hl _ _ _ _ eq)
    have hl1 := r1.len
    refine ⟨by omega, fun b hb => ?_⟩
    unfold asTup at o1
    cases hz : datL u with
    | none => rw [hz] at o1; exact o1.elim
    | some ds =>
      rw [hz] at o1
      obtain ⟨h1, h2⟩ := r1.dats hz
      have hfb := a1.free hb
      refine a1.okN o1 hb ⟨.tup (.inl (.inl upd_same)) (DpAll.mono (Sub.new hfb.1) _ _ h1), sz_tuple.mpr ⟨?_, h2⟩⟩
      rw [← h1.len]; omega
theorem rl_lst (h : PA X es (tL X.K XR W fs)) (hl : ∀ σ m us m', fs σ m = .ok us m' → us.length ≤ 1000) : PE X (.List es pos) (tF X.K XR W fun σ m => (fs σ m).bind asLst) :=
  PE.imp (pe_lst h) fun σ H Q ⟨Hf, ρ, ω, env, m, a, o⟩ => by
    obtain ⟨A, B, D, E, F', a1, o1⟩ := a.bindE (Rp' := RL X.K) o
    refine ⟨A, B, D, E, F', a1, o1.mono fun x H1 ⟨u, Hf1, ρ1, m1, p, a1, r1, o1, eq⟩ => ?_⟩
    have hlen := small1001 (hl _ _ _ _ eq)
    have hl1 := r1.len
    refine ⟨by omega, fun b hb => ?_⟩
    unfold asLst at o1
    cases hz : datL u with
    | none => rw [hz] at o1; exact o1.elim
    | some ds =>
      rw [hz] at o1
      obtain ⟨h1, h2⟩ := r1.dats hz
      have hfb := a1.free hb
      refine o1 _ _ _ _ (Pres.fresh hb) (a1.fine.fresh hb) ⟨b, _, ds, rfl, rfl, p.none a.fine a1.fine hb, upd_same, hfb.1, hfb.2, h1, sz_list.mpr ⟨?_, h2⟩⟩
      rw [← h1.len]; omega
/-- [..] * k -/
theorem rl_lmul (ha : PE X l (tF X.K XR W fa)) (hb : PE X r (tU X.K XR W fb)) : PE X (.BinOp l .Mult r pos) (tF X.K XR W fun σ m => (fa σ m).bind fun x m1 => (fb σ m1).bind fun y m2 => d2 lmulV x y m2) :=
  PE.imp (pe_op op_rep ha hb) fun σ H Q ⟨Hf, ρ, ω, env, m, a, o⟩ => by
    obtain ⟨A, B, D, E, F', a1, o1⟩ := a.bind (Rp' := RF X.K H) o
    refine ⟨A, B, D, E, F', a1, o1.mono fun x H1 ⟨u, Hf1, ρ1, m1, p, a1, r1, o1⟩ => ?_⟩
    obtain ⟨A, B, D, E, F', a2, o2⟩ := a1.bind (Rp' := RU X.K) o1
    refine ⟨A, B, D, E, F', a2, o2.mono fun y H2 ⟨u2, Hf2, ρ2, m2, p2, a2, r2, o2⟩ => ?_⟩
    obtain ⟨q, vs, xs, rfl, rfl, h0, h1, h2, h3, h4, h5⟩ := r1
    obtain ⟨k1, k2, k3⟩ := p2.kp q _ h1 h2 h3
    cases u2 with
    | ref i => exact (o2 : False).elim
    | dat d =>
      cases d with
      | int k =>
        simp only [d2_dat, lmulV] at o2
        split at o2
        · rename_i hs
          have h4' := DpAll.mono p2.fz _ _ h4
          cases r2.1
          refine ⟨q, k, vs, rfl, rfl, k1, hs.1, hs.2.1, by rw [h4'.len]; exact hs.2.2, fun b hb => ?_⟩
          have hfb := a2.free hb
          have rep : ∀ n : Nat, DpAll X.K Hf2 (List.replicate n vs).flatten (List.replicate n xs).flatten := fun n => by
            induction n with
            | zero => exact .nil
            | succ n ih => rw [List.replicate_succ, List.replicate_succ, List.flatten_cons, List.flatten_cons]; exact h4'.app ih
          have sz : ∀ n : Nat, szAll (List.replicate n xs).flatten = true ∧ (List.replicate n xs).flatten.length = n * xs.length := fun n => by
            induction n with
            | zero => exact ⟨rfl, by simp⟩
            | succ n ih => rw [List.replicate_succ, List.flatten_cons]; exact ⟨sz_app (sz_list.mp h5).2 ih.1, by rw [List.length_append, ih.2, Nat.succ_mul]; omega⟩
          refine o2 _ _ _ _ (Pres.fresh hb) (a2.fine.fresh hb) ⟨b, _, _, rfl, rfl, (p.trans p2).none a.fine a2.fine hb, upd_same, hfb.1, hfb.2, rep _, sz_list.mpr ⟨?_, (sz _).1⟩⟩
          rw [(sz _).2, Nat.mul_comm]; exact hs.2.2
        · exact o2.elim
      | _ => exact (o2 : False).elim
/-- xs + ys, a list of its own -/
theorem rl_ladd (ha : PE X l (tB X.K XR W fa)) (hb : PE X r (tB X.K XR W fb)) : PE X (.BinOp l .Add r pos) (tF X.K XR W fun σ m => (fa σ m).bind fun x m1 => (fb σ m1).bind fun y m2 => d2 laddV x y m2) :=
  PE.imp (pe_op op_catL ha hb) fun σ H Q ⟨Hf, ρ, ω, env, m, a, o⟩ => by
    obtain ⟨A, B, D, E, F', a1, o1⟩ := a.bind (Rp' := RB X.K) o
    refine ⟨A, B, D, E, F', a1, o1.mono fun x H1 ⟨u, Hf1, ρ1, m1, p, a1, r1, o1⟩ => ?_⟩
    obtain ⟨A, B, D, E, F', a2, o2⟩ := a1.bind (Rp' := RB X.K) o1
    refine ⟨A, B, D, E, F', a2, o2.mono fun y H2 ⟨u2, Hf2, ρ2, m2, p2, a2, r2, o2⟩ => ?_⟩
    have r1' := r1.pres p2
    cases u with
    | ref i => exact (o2 : False).elim
    | dat d =>
      cases u2 with
      | ref i => cases d <;> exact (o2 : False).elim
      | dat e =>
        simp only [d2_dat] at o2
        cases d <;> first | (exact (o2 : False).elim) | skip
        rename_i xs
        cases e <;> first | (exact (o2 : False).elim) | skip
        rename_i ys
        simp only [laddV] at o2
        split at o2
        · rename_i hs
          obtain ⟨q, vs, rfl, h1, h2, h3⟩ := r1'.list a2.fine.sub
          obtain ⟨q', vs', rfl, h1', h2', h3'⟩ := r2.list a2.fine.sub
          refine ⟨q, q', vs, vs', rfl, rfl, h1, h1', by rw [h2.len, h2'.len]; exact hs, fun b hb => ?_⟩
          have hfb := a2.free hb
          refine o2 _ _ _ _ (Pres.fresh hb) (a2.fine.fresh hb) ⟨b, _, _, rfl, rfl, (p.trans p2).none a.fine a2.fine hb, upd_same, hfb.1, hfb.2, h2.app h2', ?_⟩
          rw [sz_list] at *
          exact ⟨by rw [List.length_append]; exact hs, sz_app h3.2 h3'.2⟩
        · exact o2.elim
theorem rl_newl (h : PA X es (tL X.K XR W fs)) (hl : ∀ σ m us m', fs σ m = .ok us m' → us.length ≤ 1000) : PE X (.List es pos) (tU X.K XR W fun σ m => (fs σ m).bind asNew) :=
  PE.imp (pe_lst h) fun σ H Q ⟨Hf, ρ, ω, env, m, a, o⟩ => by
    obtain ⟨A, B, D, E, F', a1, o1⟩ := a.bindE (Rp' := RL X.K) o
    refine ⟨A, B, D, E, F', a1, o1.mono fun x H1 ⟨u, Hf1, ρ1, m1, p, a1, r1, o1, eq⟩ => ?_⟩
    have hlen := small1001 (hl _ _ _ _ eq)
    have hl1 := r1.len
    refine ⟨by omega, fun b hb => ?_⟩
    unfold asNew at o1
    cases hz : datL u with
    | none => rw [hz] at o1; exact o1.elim
    | some ds =>
      rw [hz] at o1
      obtain ⟨h1, h2⟩ := r1.dats hz
      have hfb := a1.free hb
      have hsz : szOk (.list ds) = true := sz_list.mpr ⟨by rw [← h1.len]; omega, h2⟩
      refine o1 _ (upd H1 b (.lst x)) Hf1 (ρ1 ++ [b]) ⟨Sub.refl _, ⟨[b], rfl⟩, fun q o e e1 e2 => ⟨Sub.new hb _ _ e, e1, fun hm => ?_⟩⟩ ⟨fun q o e => Sub.new hb _ _ (a1.fine.sub _ _ e), ?_, fun q hq => ?_, ?_, fun i q ob e1 e2 => ?_⟩ ⟨b, ?_, rfl⟩
      · rcases List.mem_append.mp hm with z | z
        · exact e2 z
        · have : q = b := by simpa using z
          rw [this, hb] at e; cases e
      · rw [List.nodup_append]
        refine ⟨a1.fine.nd, by simp, fun q hq q' hq' e => hfb.2 ?_⟩
        have : q' = b := by simpa using hq'
        rw [← this, ← e]; exact hq
      · rcases List.mem_append.mp hq with z | z
        · exact a1.fine.un q z
        · have : q = b := by simpa using z
          rw [this]; exact hfb.1
      · rw [List.length_append, List.length_append, a1.fine.len]; rfl
      · by_cases hi : i < ρ1.length
        · rw [List.getElem?_append_left hi] at e1
          rw [List.getElem?_append_left (by rw [← a1.fine.len]; exact hi)] at e2
          exact (a1.fine.at_ i q ob e1 e2).grow (fun x e => Sub.new hb _ _ e) (Sub.refl _)
        · rw [List.getElem?_append_right (by omega)] at e1
          rw [List.getElem?_append_right (by rw [← a1.fine.len]; omega)] at e2
          rw [a1.fine.len] at e1
          cases hk : i - m1.length with
          | zero =>
            rw [hk] at e1 e2
            simp at e1 e2
            subst e1 e2
            exact ⟨x, upd_same, h1, hsz⟩
          | succ k => rw [hk] at e1; simp at e1
      · rw [List.getElem?_append_right (by rw [a1.fine.len]; exact Nat.le_refl _), a1.fine.len, Nat.sub_self]; rfl
theorem OutE.conv {α β : Type} {K : PySem.W.Frag} {σ : L2.St} {H Hf : Hp} {ρ : List Addr} {Rp : Hp → Hp → List Addr → β → α → Prop} {Q : β → Hp → Prop} {q : R α} (h : OutE K XR W σ H Hf ρ Rp q Q) : OutE K XR (fun cls d _ H => WE W σ cls d H) [] H Hf ρ Rp q Q := by
  cases q with
  | ok u m => exact h
  | exc c x m => exact h
  | bad => exact h
theorem rl_call (g : GX G N C XR X W c) {i : Nat} {x : Str} {p : Pos} (hn : G.nm i = some x) (hg : glB c x = true) (ha : PA X es (tL X.K XR W fs)) (hes : es = [] → ∀ σ m, fs σ m = .ok [] m) (hpl : es.all pl = true) :
    PE X (.Call (.Name x p) es [] pos) (tU X.K XR W fun σ m => (fs σ m).bind fun us m1 => C i us m1) := by
  obtain ⟨q1, q2⟩ := g.glo hg
  obtain ⟨a, fd, ps, k, hm, hk, hb, hr, F, _⟩ := g.fns i x hn
  have him : ∀ σ H Q, tU X.K XR W (fun σ m => (fs σ m).bind fun us m1 => C i us m1) σ H Q → tL X.K XR W fs σ H fun vs H1 => spC X.K XR (C i) vs H1 Q (WE W σ) := fun σ H Q ⟨Hf, ρ, ω, env, m, a, o⟩ => by
    obtain ⟨A, B, D, E, F', a1, o1⟩ := a.bind (Rp' := RL X.K) o
    exact ⟨A, B, D, E, F', a1, o1.mono fun x H1 ⟨u, Hf1, ρ1, m1, p, a1, r1, o1⟩ => ⟨Hf1, ρ1, m1, u, a1.fine, r1, o1.conv⟩⟩
  have hst : ∀ l : List Expr, l.all pl = true → (starEach l X.env).any (·.1) = false := fun l => by
    induction l with
    | nil => intro _; rfl
    | cons x r ih => intro h; simp only [List.all_cons, Bool.and_eq_true] at h; rw [star_pl h.1, List.any_cons, ih h.2]; rfl
  cases es with
  | nil =>
    refine PE.imp (pe_callG0 F hr g.gd q1 hm hk hb g.takes q2) fun σ H Q h => ?_
    obtain ⟨Hf, ρ, ω, env, m, a, o⟩ := him σ H Q h
    rw [hes rfl] at o
    exact o _ H Hf ρ (Pres.refl _ _ _) a.fine trivial
  | cons e r =>
    simp only [List.all_cons, Bool.and_eq_true] at hpl
    exact PE.imp (pe_callG F hr g.gd q1 hm hk hb g.takes ha q2 (star_pl hpl.1) (hst r hpl.2)) him
end
end Eng

set_option Elab.async false
set_option linter.all false
set_option maxRecDepth 100000
set_option maxHeartbeats 1000000
/-! Expressions: keywords, isinstance, slices. -/
namespace Eng
open PySem PySem.Spec PyProof.Rows L2
section
variable {G : Cfg} {N : List Str} {C : Calls} {XR : XRel} {X : Cx} {W : WX} {c : Sc} {e e' l r : Expr} {es : List Expr} {pos : Pos} {f fa fb fc : Env → Mem → R U} {fs fk : Env → Mem → R (List U)} {kws : List Keyword}
theorem rk_nil : PK X [] (tL X.K XR W fun _ m => .ok [] m) := ⟨fun pos pins s σ H Q I ⟨Hf, ρ, ω, env, m, a, o⟩ => pk_nil.run pos pins s σ H Q I (a.ok (v := ([] : List V)) o trivial)⟩
theorem rk_cons {nm : Option Str} {kp : Pos} (he : PE X e (tU X.K XR W f)) (hr : PK X kws (tL X.K XR W fs)) : PK X (⟨nm, e, kp⟩ :: kws) (tL X.K XR W fun σ m => (f σ m).bind fun u m1 => (fs σ m1).bind fun us m2 => .ok (u :: us) m2) :=
  ⟨fun pos pins s σ H Q I ⟨Hf, ρ, ω, env, m, a, o⟩ => (pk_cons he hr).run pos pins s σ H Q I (by
    obtain ⟨A, B, D, E, F', a1, o1⟩ := a.bind (Rp' := RU X.K) o
    refine ⟨A, B, D, E, F', a1, o1.mono fun x H1 ⟨u, Hf1, ρ1, m1, p, a1, r1, o1⟩ => ?_⟩
    obtain ⟨A, B, D, E, F', a2, o2⟩ := a1.bind (Rp' := RL X.K) o1
    refine ⟨A, B, D, E, F', a2, o2.mono fun y H2 ⟨u2, Hf2, ρ2, m2, p2, a2, r2, o2⟩ => ?_⟩
    exact a2.ok (v := x :: y) o2 ⟨r1.pres p2, r2⟩)⟩
theorem permL_cons (us : List U) (i : Nat) (r : List Nat) : permL us (i :: r) = (us[i]?).bind fun u => (permL us r).bind fun w => some (u :: w) := by
  unfold permL
  rw [List.mapM_cons]
  rfl
theorem RUs.get {K : PySem.W.Frag} {Hf : Hp} {ρ : List Addr} : ∀ {vs : List V} {us : List U} {i : Nat} {u : U}, RUs K Hf ρ vs us → us[i]? = some u → ∃ v, vs[i]? = some v ∧ RepU K Hf ρ v u
  | v :: vs, u :: us, 0, w, h, e => by simp at e; subst e; exact ⟨v, rfl, h.1⟩
  | v :: vs, u :: us, i + 1, w, h, e => by simp at e; obtain ⟨v', e', r⟩ := RUs.get h.2 e; exact ⟨v', by simpa using e', r⟩
  | [], [], i, w, h, e => by simp at e
  | [], _ :: _, _, _, h, _ => h.elim
  | _ :: _, [], _, _, h, _ => h.elim
theorem RUs.app {K : PySem.W.Frag} {Hf : Hp} {ρ : List Addr} : ∀ {vs ws : List V} {us zs : List U}, RUs K Hf ρ vs us → RUs K Hf ρ ws zs → RUs K Hf ρ (vs ++ ws) (us ++ zs)
  | [], _, [], _, _, h => h
  | _ :: _, _, _ :: _, _, h, h' => ⟨h.1, RUs.app h.2 h'⟩
  | [], _, _ :: _, _, h, _ => h.elim
  | _ :: _, _, [], _, h, _ => h.elim
theorem RUs.perm {K : PySem.W.Frag} {Hf : Hp} {ρ : List Addr} {vs : List V} {us : List U} (h : RUs K Hf ρ vs us) : ∀ {p : List Nat} {ws : List U}, permL us p = some ws → ∃ zs, p.mapM (fun i => vs[i]?) = some zs ∧ RUs K Hf ρ zs ws
  | [], ws, e => by simp [permL] at e; subst e; exact ⟨[], rfl, trivial⟩
  | i :: p, ws, e => by
    rw [permL_cons] at e
    simp only [Option.bind_eq_some_iff, Option.some.injEq] at e
    obtain ⟨u, e1, w, e2, rfl⟩ := e
    obtain ⟨v, e3, r⟩ := h.get e1
    obtain ⟨zs, e4, r'⟩ := h.perm e2
    refine ⟨v :: zs, ?_, r, r'⟩
    rw [List.mapM_cons, e3, e4]; rfl
theorem rl_callk (g : GX G N C XR X W c) {i : Nat} {x : Str} {p : Pos} {ks : List Str} {perm : List Nat} (hn : G.nm i = some x) (hg : glB c x = true) (ha : PA X es (tL X.K XR W fs)) (hes : es = [] → ∀ σ m, fs σ m = .ok [] m) (hpl : es.all pl = true)
    (hk : PK X kws (tL X.K XR W fk)) (hks : kws.map (·.arg) = ks.map some) (hkb : (i, es.length, ks, perm) ∈ G.kb) (hl : ∀ σ m us m', fs σ m = .ok us m' → us.length = es.length) (hl' : ∀ σ m us m', fk σ m = .ok us m' → us.length = ks.length) :
    PE X (.Call (.Name x p) es kws pos) (tU X.K XR W fun σ m => (fs σ m).bind fun us m1 => (fk σ m1).bind fun zs m2 => (R.ofO (permL (us ++ zs) perm) m2).bind fun ws m3 => C i ws m3) := by
  obtain ⟨q1, q2⟩ := g.glo hg
  obtain ⟨a, fd, ps, k, hm, hkp, hb, hr, F, hKB⟩ := g.fns i x hn
  have hst : ∀ l : List Expr, l.all pl = true → (starEach l X.env).any (·.1) = false := fun l => by
    induction l with
    | nil => intro _; rfl
    | cons x r ih => intro h; simp only [List.all_cons, Bool.and_eq_true] at h; rw [star_pl h.1, List.any_cons, ih h.2]; rfl
  have fin : ∀ {σ : L2.St} {H : Hp} {Q : VK} {Hf ρ ω env m} {us : List U} {vs : List V}, At X.K H σ Hf ρ ω env m → RUs X.K Hf ρ vs us → vs.length = es.length →
      OutE X.K XR W σ H Hf ρ (RU X.K) ((fk env m).bind fun zs m2 => (R.ofO (permL (us ++ zs) perm) m2).bind fun ws m3 => C i ws m3) Q →
      tL X.K XR W fk σ H fun zs H2 => vs.length = es.length ∧ zs.length = ks.length ∧ ∃ vs', perm.mapM (fun i => (vs ++ zs)[i]?) = some vs' ∧ spC X.K XR (C i) vs' H2 Q (WE W σ) := fun {σ H Q Hf ρ ω env m us vs} a1 r1 hv o1 => by
    obtain ⟨A, B, D, E, F', a2, o2⟩ := a1.bindE (Rp' := RL X.K) o1
    refine ⟨A, B, D, E, F', a2, o2.mono fun y H2 ⟨u2, Hf2, ρ2, m2, p2, a2, r2, o2, eq2⟩ => ?_⟩
    cases hz : permL (us ++ u2) perm with
    | none => rw [hz] at o2; exact o2.elim
    | some ws =>
      rw [hz, R.ofO_some, R.bind_ok] at o2
      obtain ⟨zs, e4, r4⟩ := ((r1.pres p2).app r2).perm hz
      exact ⟨hv, by rw [r2.len]; exact hl' _ _ _ _ eq2, zs, e4, Hf2, ρ2, m2, ws, a2.fine, r4, o2.conv⟩
  cases es with
  | nil =>
    refine PE.imp (pe_callGK F hr g.gd q1 hm hkp (hKB _ _ _ hkb) g.takes pa_nil hk hks q2 (fun _ => rfl) (fun _ _ h => by cases h) (hst [] rfl)) fun σ H Q ⟨Hf, ρ, ω, env, m, a, o⟩ => ?_
    dsimp only at o
    rw [hes rfl, R.bind_ok] at o
    exact fin (us := []) (vs := []) a trivial rfl o
  | cons e r =>
    refine PE.imp (pe_callGK F hr g.gd q1 hm hkp (hKB _ _ _ hkb) g.takes ha hk hks q2 (fun h => by cases h) (fun e' r' h => by cases h; simp only [List.all_cons, Bool.and_eq_true] at hpl; exact star_pl hpl.1) (hst _ hpl)) fun σ H Q ⟨Hf, ρ, ω, env, m, a, o⟩ => ?_
    obtain ⟨A, B, D, E, F', a1, o1⟩ := a.bindE (Rp' := RL X.K) o
    refine ⟨A, B, D, E, F', a1, o1.mono fun x H1 ⟨u, Hf1, ρ1, m1, p, a1, r1, o1, eq⟩ => ?_⟩
    exact fin a1 r1 (by rw [r1.len]; exact hl _ _ _ _ eq) o1
theorem rl_b2 (g : GX G N C XR X W c) {b : B2} {x : Str} {p : Pos} (hx : x = b2N b) (hg : glB c x = true) (ha : PE X e (tU X.K XR W fa)) (hb : PE X e' (tU X.K XR W fb)) (hp : pl e = true) (hp' : pl e' = true) :
    PE X (.Call (.Name x p) [e, e'] [] pos) (tU X.K XR W fun σ m => (fa σ m).bind fun x m1 => (fb σ m1).bind fun y m2 => d2 (b2Val b) x y m2) := by
  obtain ⟨q1, q2⟩ := g.glo hg
  have hm : X.mg x = none := g.bn x (by rw [hx]; cases b <;> decide)
  have hn : x ≠ "__name__" := by rw [hx]; cases b <;> decide
  have hargs : PA X [e, e'] (tCons (tU X.K XR W fa) (tCons (tU X.K XR W fb) tNil)) := pa_cons ha (pa_cons hb pa_nil (star_pl hp')) (star_pl hp)
  have him : ∀ σ H Q, tU X.K XR W (fun σ m => (fa σ m).bind fun x m1 => (fb σ m1).bind fun y m2 => d2 (b2Val b) x y m2) σ H Q → tCB (fun xs H Q => ∃ d e z x y, xs = [x, y] ∧ (∃ H', Dp X.K H' x d) ∧ (∃ H', Dp X.K H' y e) ∧ b2Val b d e = some z ∧ ∀ v, (∀ H', Dp X.K H' v z) → szOk z = true → Q v H) (tCons (tU X.K XR W fa) (tCons (tU X.K XR W fb) tNil)) σ H Q := fun σ H Q ⟨Hf, ρ, ω, env, m, a, o⟩ => by
    obtain ⟨A, B, D, E, F', a1, o1⟩ := a.bind (Rp' := RU X.K) o
    refine ⟨A, B, D, E, F', a1, o1.mono fun x H1 ⟨u, Hf1, ρ1, m1, p, a1, r1, o1⟩ => ?_⟩
    obtain ⟨A, B, D, E, F', a2, o2⟩ := a1.bind (Rp' := RU X.K) o1
    refine ⟨A, B, D, E, F', a2, o2.mono fun y H2 ⟨u2, Hf2, ρ2, m2, p2, a2, r2, o2⟩ => ?_⟩
    cases u with
    | ref i => exact o2.elim
    | dat d =>
      cases u2 with
      | ref i => exact o2.elim
      | dat d' =>
        simp only [d2_dat] at o2
        cases hz : b2Val b d d' with
        | none => rw [hz] at o2; exact o2.elim
        | some z => rw [hz] at o2; exact ⟨d, d', z, x, y, rfl, ⟨_, r1.1⟩, ⟨_, r2.1⟩, hz, fun v hv hs => a2.ok o2 ⟨hv _, hs⟩⟩
  have hst2 : (backTo pos (starEach [e'] X.env)).any (·.1) = false := by rw [star_pl hp']; rfl
  cases b with
  | max => exact PE.imp (pe_callB (op_b2 g.calm .max) q1 hm (by rw [hx]; decide +kernel) hargs hn q2 (star_pl hp) hst2) him
  | min => exact PE.imp (pe_callB (op_b2 g.calm .min) q1 hm (by rw [hx]; decide +kernel) hargs hn q2 (star_pl hp) hst2) him
/-- a built-in class as a value -/
theorem cls_pe (g : GX G N C XR X W c) {k : ClsT} {t : Expr} (h : isName c (clsN k) t = true) : ∃ n : String, PE X t (tC (.ty n)) ∧ n = clsS k ∧ pl t = true := by
  cases t <;> simp only [isName, Bool.false_eq_true] at h
  simp only [Bool.and_eq_true, decide_eq_true_eq] at h
  obtain ⟨rfl, h2⟩ := h
  obtain ⟨q1, q2⟩ := g.glo h2
  have hm : X.mg (clsN k) = none := g.bn _ (by cases k <;> decide)
  refine ⟨_, pe_bltn (v := .ty _) q1 hm (u := .type (clsS k)) (by cases k <;> decide +kernel) rfl (by cases k <;> decide) q2, rfl, rfl⟩
theorem rl_isi (g : GX G N C XR X W c) {k : ClsT} {t : Expr} {p : Pos} (hg : glB c "isinstance" = true) (he : PE X e (tU X.K XR W f)) (hp : pl e = true) (ht : isName c (clsN k) t = true) :
    PE X (.Call (.Name "isinstance" p) [e, t] [] pos) (tU X.K XR W fun σ m => (f σ m).bind (d1 fun d => some (.bool (clsVal k d)))) := by
  obtain ⟨q1, q2⟩ := g.glo hg
  obtain ⟨n, h1, hn, hpt⟩ := cls_pe g ht
  have hm : X.mg "isinstance" = none := g.bn _ (by decide)
  refine PE.imp (pe_callB call_isi q1 hm (by decide +kernel) (pa_cons he (pa_cons h1 pa_nil (star_pl hpt)) (star_pl hp)) (by decide) q2 (star_pl hp) (by rw [star_pl hpt]; rfl)) fun σ H Q ⟨Hf, ρ, ω, env, m, a, o⟩ => ?_
  obtain ⟨A, B, D, E, F', a1, o1⟩ := a.bind (Rp' := RU X.K) o
  refine ⟨A, B, D, E, F', a1, o1.mono fun x H1 ⟨u, Hf1, ρ1, m1, p, a1, r1, o1⟩ => ?_⟩
  cases u with
  | ref i => exact o1.elim
  | dat d =>
    subst hn
    exact ⟨x, _, _, _, _, rfl, .ty _, ty_of (Dp.mono a1.fine.sub _ _ r1.1), cls_kit k d r1.2, a1.ok o1 ⟨.bl _, rfl⟩⟩
theorem rl_isi2 (g : GX G N C XR X W c) {k k' : ClsT} {t t' : Expr} {p p' : Pos} {kk : Nat} (hg : glB c "isinstance" = true) (he : PE X e (tU X.K XR W f)) (hp : pl e = true) (ht : isName c (clsN k) t = true) (ht' : isName c (clsN k') t' = true) :
    PE X (.Call (.Name "isinstance" p) [e, .Tuple [t, t'] kk p'] [] pos) (tU X.K XR W fun σ m => (f σ m).bind (d1 fun d => some (.bool (clsVal k d || clsVal k' d)))) := by
  obtain ⟨q1, q2⟩ := g.glo hg
  obtain ⟨n, h1, hn, hpt⟩ := cls_pe g ht
  obtain ⟨n', h1', hn', hpt'⟩ := cls_pe g ht'
  have hm : X.mg "isinstance" = none := g.bn _ (by decide)
  have hT : PE X (.Tuple [t, t'] kk p') (tTup (tCons (tC (.ty n)) (tCons (tC (.ty n')) tNil))) := pe_tup (pa_cons h1 (pa_cons h1' pa_nil (star_pl hpt')) (star_pl hpt))
  refine PE.imp (pe_callB call_isiT q1 hm (by decide +kernel) (pa_cons he (pa_cons hT pa_nil) (star_pl hp)) (by decide) q2 (star_pl hp) (by rfl)) fun σ H Q ⟨Hf, ρ, ω, env, m, a, o⟩ => ?_
  obtain ⟨A, B, D, E, F', a1, o1⟩ := a.bind (Rp' := RU X.K) o
  refine ⟨A, B, D, E, F', a1, o1.mono fun x H1 ⟨u, Hf1, ρ1, m1, p, a1, r1, o1⟩ => ⟨by show 2 ≤ sizeLine; decide, fun b hb => ?_⟩⟩
  cases u with
  | ref i => exact o1.elim
  | dat d =>
    subst hn hn'
    refine ⟨x, b, _, _, _, (clsVal k d || clsVal k' d), rfl, upd_same, .cons (.ty _) (.cons (.ty _) .nil), ty_of (Dp.mono (a1.fine.sub.trans (Sub.new hb)) _ _ r1.1), ?_, ?_⟩
    · refine kitAny_cons (cls_kit k d r1.2) (fun hb => ?_) fun hb => by rw [hb]; rfl
      refine kitAny_cons (cls_kit k' d r1.2) (fun hb' => ?_) fun hb' => by rw [hb']; exact Bool.or_true _
      rw [hb, hb']; exact kitAny_nil
    · exact o1 _ _ _ _ (Pres.fresh hb) (a1.fine.fresh hb) ⟨.bl _, rfl⟩
/-- a slice's parts -/
theorem ro_no : PO X none (tR X.K XR W (fun _ _ _ (a b : Option Int) => a = b) fun _ m => .ok none m) := ⟨fun pins s σ H Q I ⟨Hf, ρ, ω, env, m, a, o⟩ => po_none.run pins s σ H Q I (a.ok (v := (none : Option Int)) o rfl)⟩
abbrev tO (K : PySem.W.Frag) (XR : XRel) (W : WX) (f : Env → Mem → R (Option Int)) : TO := tR K XR W (fun _ _ _ (a b : Option Int) => a = b) f
theorem ro_some (h : PE X e (tU X.K XR W f)) : PO X (some e) (tO X.K XR W fun σ m => ((f σ m).bind asInt).bind fun i m1 => .ok (some i) m1) := ⟨fun pins s σ H Q I ⟨Hf, ρ, ω, env, m, a, o⟩ => (po_some h).run pins s σ H Q I (by
  dsimp only at o
  rw [R.bind_bind] at o
  obtain ⟨A, B, D, E, F', a1, o1⟩ := a.bind (Rp' := RU X.K) o
  refine ⟨A, B, D, E, F', a1, o1.mono fun x H1 ⟨u, Hf1, ρ1, m1, p, a1, r1, o1⟩ => ?_⟩
  cases u with
  | ref i => exact o1.elim
  | dat d =>
    cases d with
    | int i => cases r1.1; exact ⟨i, rfl, a1.ok o1 rfl⟩
    | _ => exact o1.elim)⟩
theorem rl_sl {lo hi : Option Expr} {p2 : Pos} {fl fh : Env → Mem → R (Option Int)} (he : PE X e (tB X.K XR W f)) (hl : PO X lo (tO X.K XR W fl)) (hh : PO X hi (tO X.K XR W fh)) :
    PE X (.Subscript e (.Slice lo hi none p2) pos) (tU X.K XR W fun σ m => (f σ m).bind fun x m1 => (fl σ m1).bind fun l m2 => (fh σ m2).bind fun h m3 => d1 (fun d => slVal d l h) x m3) :=
  PE.imp (pe_slice sl_D he hl hh) fun σ H Q ⟨Hf, ρ, ω, env, m, a, o⟩ => by
    obtain ⟨A, B, D, E, F', a1, o1⟩ := a.bind (Rp' := RB X.K) o
    refine ⟨A, B, D, E, F', a1, o1.mono fun x H1 ⟨u, Hf1, ρ1, m1, p, a1, r1, o1⟩ => ?_⟩
    obtain ⟨A, B, D, E, F', a2, o2⟩ := a1.bind (Rp' := fun _ _ _ (a b : Option Int) => a = b) o1
    refine ⟨A, B, D, E, F', a2, o2.mono fun y H2 ⟨u2, Hf2, ρ2, m2, p2, a2, r2, o2⟩ => ?_⟩
    obtain ⟨A, B, D, E, F', a3, o3⟩ := a2.bind (Rp' := fun _ _ _ (a b : Option Int) => a = b) o2
    refine ⟨A, B, D, E, F', a3, o3.mono fun z H3 ⟨u3, Hf3, ρ3, m3, p3, a3, r3, o3⟩ => ?_⟩
    subst r2 r3
    have r1 := (r1.pres p2).pres p3
    cases u with
    | ref i => exact o3.elim
    | dat d =>
      simp only [d1_dat] at o3
      cases hz : slVal d y z with
      | none => rw [hz] at o3; exact o3.elim
      | some w => rw [hz] at o3; exact ⟨_, _, _, _, _, _, d, w, a3, r1, hz, o3⟩
/-- list(..), a list of its own -/
theorem rl_listF (g : GX G N C XR X W c) {p : Pos} (hg : glB c "list" = true) (he : PE X e (tB X.K XR W f)) (hp : pl e = true) :
    PE X (.Call (.Name "list" p) [e] [] pos) (tF X.K XR W fun σ m => (f σ m).bind (d1 (b1Val .list))) :=
  PE.imp (pe_b1X g (f := .list) rfl hg he hp op_listF) fun σ H Q ⟨Hf, ρ, ω, env, m, a, o⟩ => by
    obtain ⟨A, B, D, E, F', a1, o1⟩ := a.bind (Rp' := RB X.K) o
    refine ⟨A, B, D, E, F', a1, o1.mono fun x H1 ⟨u, Hf1, ρ1, m1, p, a1, r1, o1⟩ => ?_⟩
    cases u with
    | ref i => exact o1.elim
    | dat d =>
      simp only [d1_dat] at o1
      cases hz : b1Val .list d with
      | none => rw [hz] at o1; exact o1.elim
      | some w =>
        rw [hz] at o1
        obtain ⟨ds, rfl⟩ : ∃ ds, w = .list ds := by
          cases d <;> simp only [b1Val, reduceCtorEq, Option.some.injEq] at hz
          · exact ⟨_, hz.symm⟩
          · exact ⟨_, hz.symm⟩
        refine ⟨_, _, _, _, _, _, x, d, ds, rfl, a1, r1, hz, fun b vs hb h1 h2 => ?_⟩
        have hfb := a1.free hb
        exact o1 _ _ _ _ (Pres.fresh hb) (a1.fine.fresh hb) ⟨b, vs, ds, rfl, rfl, p.none a.fine a1.fine hb, upd_same, hfb.1, hfb.2, h1, h2⟩
end
end Eng

set_option Elab.async false
set_option linter.all false
set_option maxRecDepth 100000
set_option maxHeartbeats 1000000
/-! enumerate of a tuple. -/
namespace PySem
open Sem (wp)
open AutoSeq1 (wpAny_loadPart')
theorem engMeets_enum1 {v : Value} {o : Obj} {H : Heap → Prop} (B : Begins v o H) :
    Meets (Builtin.«enumerate.__new__» ⟨[.type "enumerate", v], []⟩) (fun _ R s => H s.heap ∧
      R (.ok (.ret (.ref (s.heap.push o).objs.size))) { s with heap := (s.heap.push o).push { cls := .type "enumerate", data := .fields #[.none, .bool false, .ref s.heap.objs.size, rawInt 0, .none, .none] } }) :=
  .of_wp fun prog w A R s h => by
    obtain ⟨hp, g, d, tk, os⟩ := s; obtain ⟨h1, h⟩ := h
    have hsub := sub_enumerate
    have q1 : ∀ {A' : Around} {E : Value → Shared → Prop} {Q : Value → Shared → Prop}, Q (.ref hp.objs.size) ⟨hp.push o, g, d, tk, os⟩ → wpAny (model prog w) A' (pyIter v) Q E ⟨hp, g, d, tk, os⟩ :=
      fun q => B.iter prog w _ _ ⟨hp, g, d, tk, os⟩ _ h1 q
    wp_walk using q1
    refine wpAny_stack_any fun st => wpAny_pure ?_
    split
    · rename_i c _ _ _ _ _
      cases (c == Value.type "enumerate")
      · wp_walk using q1
        exact ⟨_, rfl, h⟩
      · wp_walk using q1
        exact ⟨_, rfl, h⟩
    · wp_walk using q1
      exact ⟨_, rfl, h⟩
section
variable {prog : Program} {w : World} {A : Around} {E : Value → Shared → Prop} {s : Shared}
theorem engEnum1 {v : Value} {o : Obj} {H : Heap → Prop} {Q : Value → Shared → Prop} (B : Begins v o H) (h1 : H s.heap)
    (h : ∀ h', IsEnum h' (s.heap.objs.size + 1) s.heap.objs.size 0 .none → h'.get? s.heap.objs.size = some o → h'.objs.size = s.heap.objs.size + 2 →
      (∀ b o, s.heap.get? b = some o → h'.get? b = some o) → Q (.ref (s.heap.objs.size + 1)) { s with heap := h' }) :
    wpAny (model prog w) A (call (.type "enumerate") [v]) Q E s := by
  refine callType_new F.called_enumerate (by decide) (F.typeCall_enumerate_1 _) (F.newCall_enumerate_1 _) (fun obj => F.args_object_init_2 obj _) F.entry_enumerate_new
    (engMeets_enum1 B) ⟨h1, ?_⟩
  have hz : (s.heap.push o).objs.size = s.heap.objs.size + 1 := Heap.size_push ..
  show _ ∧ _
  rw [hz]
  have he : IsEnum ((s.heap.push o).push { cls := .type "enumerate", data := .fields #[.none, .bool false, .ref s.heap.objs.size, rawInt 0, .none, .none] }) (s.heap.objs.size + 1) s.heap.objs.size 0 .none := by
    have := Heap.get?_push_size (s.heap.push o) (o := { cls := .type "enumerate", data := .fields #[.none, .bool false, .ref s.heap.objs.size, rawInt 0, .none, .none] }) rfl
    rw [hz] at this; exact this
  refine ⟨⟨_, he, rfl⟩, h _ he (Heap.get?_push_of_some _ (Heap.get?_push_size _ B.free)) (by rw [Heap.size_push, hz]) fun b o x => Heap.get?_push_of_some _ (Heap.get?_push_of_some _ x)⟩
end
end PySem
namespace Eng
open PySem PySem.Spec PyProof.Rows L2
def IteT (K : PySem.W.Frag) (a : Addr) : L2.It :=
  ⟨fun i H => ∃ (xs : List V) (x : V), SqT K H a xs ∧ xs[i]? = some x, fun i H v H' => ∃ T x, v = .ref T ∧ H T = none ∧ H' = upd H T (.tup [.int (i : Nat), x]) ∧ ∀ xs, SqT K H a xs → xs[i]? = some x, fun i H => ∃ xs : List V, SqT K H a xs ∧ xs.length = i⟩
theorem turn_enumT {P : Program} {w : World} {K : PySem.W.Frag} {elts : List Expr} {kk : Nat} {tpos : Pos} (a e it : Addr) (hae : e ≠ a) (hai : a ≠ it) :
    Turn P w K (.Tuple elts kk tpos) (IteT K a) [e, it] e (fun i h => (∃ old, IsEnum h e it ((i : Nat) : Int) old) ∧ h.IsTupleIter it a i ∧ e ≠ it) where
  mem := by simp
  obj := fun i h st b hb => by
    obtain ⟨⟨old, he⟩, ⟨o, ho, hc, hd⟩, _⟩ := st
    have e' : b = e ∨ b = it := by simpa using hb
    rcases e' with z | z
    · rw [z]; exact ⟨_, he, fun v q => nomatch q⟩
    · rw [z]; exact ⟨o, ho, fun v q => by rw [hd] at q; cases q⟩
  keep := fun i h h' st k => let ⟨⟨old, he⟩, hi, hne⟩ := st; ⟨⟨old, k e (by simp) _ he⟩, hi.at fun o q => k it (by simp) o q, hne⟩
  item := by
    intro X hP hw hK hc i pins s σ H E I hf st hg
    subst hP hw hK
    obtain ⟨⟨old, he⟩, hit, hne⟩ := st
    obtain ⟨xs, x, hq, hx⟩ := hg
    obtain ⟨its, rv, p, hz⟩ := I.tuple hq
    obtain ⟨u, hu, ru⟩ := rv.get hx
    have hel : e < s.heap.objs.size := Heap.lt_size he
    have hil : it < s.heap.objs.size := by obtain ⟨_, q, _⟩ := hit; exact Heap.lt_size q
    have hh : X.A.in1.handled = none := I.ok.hd hc
    have hil2 : i < its.toArray.size := by have := (List.getElem?_eq_some_iff.mp hu).1; simpa using this
    refine wpAny_pyNext_enum_itemD (Draws.tuple (prog := X.prog) (w := X.w) (A := X.A.in1) hh it a hai its.toArray) he ⟨hit, show s.heap.IsTuple a its.toArray from p⟩ hil2 hne (by
      intro z; rcases List.mem_cons.mp z with z | z
      · exact hne z
      · exact hae (by simpa using z)) fun y h' tk hy ho hst hT hsz hk => ?_
    have ey : y = u := by
      have h1 : its.toArray[i]? = some u := by simpa using hu
      rw [h1] at hy; exact (Option.some.inj hy).symm
    subst ey
    refine ⟨_, rfl, wpAny_letOwnedTupleGo_enum (s := { s with heap := h', toks := tk + 1 }) ho fun h'' he' sb => ?_⟩
    have hT2 : h''.get? s.heap.objs.size = some { cls := .type "tuple", data := .seq #[.int i tk, y] } := (sb.2 _ (Nat.ne_of_gt hel)).trans hT
    have new : ObjOk X.prog X.w (upd H s.heap.objs.size (.tup [.int (i : Nat), x])) h'' s.heap.objs.size (.tup [.int (i : Nat), x]) :=
      ⟨by show 2 ≤ sizeLine; decide, [.int i tk, y], .cons ⟨_, rfl⟩ (.cons ru .nil), ⟨_, hT2, rfl, _, rfl⟩⟩
    have I1 : L2.Inv X pins σ (upd H s.heap.objs.size (.tup [.int (i : Nat), x])) { s with heap := h'', toks := tk + 1 } :=
      I.turnedNew (ch := [e, it]) (fun b ob hb q => (sb.2 b (fun z => hb (by simp [z]))).trans (hk b ob (fun z => hb (by simp [z])) (fun z => hb (by simp [z])) q)) hf (Nat.le_refl _) new
    refine ⟨.ref s.heap.objs.size, _, I1, rfl, ⟨_, x, rfl, I.hok.fresh (Nat.le_refl _), rfl, fun ys hy => by rw [I.tuple_inj hy hq]; exact hx⟩, ⟨⟨y, ?_⟩, hst.1.at fun o q => (sb.2 it (Ne.symm hne)).trans q, hne⟩, fun b hb => ?_⟩
    · have e1 : ((i + 1 : Nat) : Int) = (i : Int) + 1 := by omega
      rw [e1]; exact he'
    · have hb' : b < s.heap.objs.size := by
        have e' : b = e ∨ b = it := by simpa using hb
        rcases e' with z | z
        · rw [z]; exact hel
        · rw [z]; exact hil
      rw [upd_ne (Nat.ne_of_lt hb')]
      exact (hf b hb).1
  done := by
    intro X hP hw hK hc i pins s σ H E I hf st hg
    subst hP hw hK
    obtain ⟨⟨old, he⟩, hit, hne⟩ := st
    obtain ⟨xs, hq, hx⟩ := hg
    obtain ⟨its, rv, p, hz⟩ := I.tuple hq
    obtain ⟨f0, f1, f2, f3, f4, f5⟩ := hf it (by simp)
    have hl := rv.length
    have hh : X.A.in1.handled = none := I.ok.hd hc
    have hsz : its.toArray.size = i := by rw [List.size_toArray]; omega
    exact wpAny_pyNext_enum_endD (Draws.tuple (prog := X.prog) (w := X.w) (A := X.A.in1) hh it a hai its.toArray) he ⟨by rw [hsz]; exact hit, show s.heap.IsTuple a its.toArray from p⟩ fun h' eb => ⟨rfl, I.turned (t' := s.toks) (fun b o hb q => eb b o hb q) f0 f1 f3 f4 f5⟩
  self := fun A i s Q E st h => let ⟨⟨_, he⟩, _⟩ := st; wpAny_pyIter_enum he h
def iEnumT (K : PySem.W.Frag) (ta : TA) : TI := fun σ H R => ta σ H fun vs H1 => ∃ a xs, vs = [.ref a] ∧ SqT K H1 a xs ∧ R (IteT K a) H1
theorem pi_enumT {X : Cx} {e : Expr} {ta : TA} {p pos tpos : Pos} {elts : List Expr} {kk : Nat} (hg : Gl X "enumerate") (hm : X.mg "enumerate" = none) (ha : PA X [e] ta) (hs : starEach [e] X.env = [(false, eval e X.env)]) :
    PI X (.Tuple elts kk tpos) (.Call (.Name "enumerate" p) [e] [] pos) (iEnumT X.K ta) := by
  refine ⟨fun pins s σ H R I h => ?_⟩
  refine Call_ (ld_blt I hg hm boot_enumerate (PyProof.Rows.callWith_type1 (thn (ha.run pos pins s σ H _ I h) fun us s1 ⟨vs, H1, I1, r1, q1⟩ => ?_) hs rfl))
  obtain ⟨a, xs, ex, hq, q⟩ := q1
  subst ex
  cases r1 with
  | cons r rr =>
    cases rr
    cases r
    obtain ⟨its, rv, p', hz⟩ := I1.tuple hq
    have hal : a < s1.heap.objs.size := by obtain ⟨o, e1, _⟩ := p'; exact Heap.lt_size e1
    refine engEnum1 (begins_tuple a its.toArray) (show s1.heap.IsTuple a its.toArray from p') fun h' he hit hsz hk => wpAny_pyIter_enum he ?_
    have I2 : L2.Inv X pins σ H1 { s1 with heap := h' } := I1.kept (t' := s1.toks) hk
    refine ⟨s1.heap.objs.size + 1, [s1.heap.objs.size + 1, s1.heap.objs.size], _, _, H1, rfl, I2, turn_enumT a (s1.heap.objs.size + 1) s1.heap.objs.size (Nat.ne_of_gt (Nat.lt_succ_of_lt hal)) (Nat.ne_of_lt hal), ⟨⟨.none, he⟩, ⟨_, hit, rfl, rfl⟩, Nat.succ_ne_self _⟩, fun b hb => ?_, q⟩
    have e' : b = s1.heap.objs.size + 1 ∨ b = s1.heap.objs.size := by simpa using hb
    have hle : s1.heap.objs.size ≤ b := by
      rcases e' with z | z
      · rw [z]; exact Nat.le_add_right _ _
      · rw [z]; exact Nat.le_refl _
    exact I1.fpOk hle (I1.hok.fresh hle)
end Eng

set_option Elab.async false
set_option linter.all false
set_option maxRecDepth 100000
set_option maxHeartbeats 1000000
/-! What is walked; targets. -/
namespace Eng
open PySem PySem.Spec PyProof.Rows L2

/-- an iterator that gives these data -/
def ItOk (K : PySem.W.Frag) (J : L2.It) (Hf : Hp) (ds : List PyData) : Prop := ∀ (H1 Hf1 : Hp), Sub Hf Hf1 → Sub Hf1 H1 → ∀ i : Nat,
  (∀ d, ds[i]? = some d → J.go i H1 ∧ ∀ x H2, J.yld i H1 x H2 → ∃ Hf2, Sub Hf1 Hf2 ∧ Sub H1 H2 ∧ Sub Hf2 H2 ∧ (∀ a, H1 a ≠ none → Hf1 a = none → Hf2 a = none) ∧ Dp K Hf2 x d) ∧ (ds.length = i → J.stop i H1)
abbrev RI (K : PySem.W.Frag) : Hp → Hp → List Addr → L2.It → List PyData → Prop := fun _ Hf _ J ds => ItOk K J Hf ds ∧ szAll ds = true
abbrev tI (K : PySem.W.Frag) (XR : XRel) (W : WX) (f : Env → Mem → R (List PyData)) : TI := tR K XR W (RI K) f
section
variable {G : Cfg} {N : List Str} {C : Calls} {XR : XRel} {X : Cx} {W : WX} {c : Sc} {e e' l r t : Expr} {pos : Pos} {f fa fb : Env → Mem → R U}
theorem itOk_list {K : PySem.W.Frag} {Hf : Hp} {a : Addr} {vs : List V} {ds : List PyData} (h : SqL K Hf a vs) (ha : DpAll K Hf vs ds) : ItOk K (Itl K a) Hf ds := by
  intro H1 Hf1 s1 s2 i
  have h1 : SqL K H1 a vs := SqL.mono (s1.trans s2) h
  refine ⟨fun d hd => ?_, fun e => ⟨vs, h1, by rw [ha.len]; omega⟩⟩
  obtain ⟨v, hv, hdp⟩ := ha.get hd
  refine ⟨⟨vs, v, h1, hv⟩, fun x H2 ⟨e1, e2⟩ => ?_⟩
  subst e1
  have := e2 vs h1
  rw [hv] at this; cases this
  exact ⟨Hf1, Sub.refl _, Sub.refl _, s2, fun _ _ h => h, Dp.mono s1 _ _ hdp⟩
theorem itOk_tup {K : PySem.W.Frag} {Hf : Hp} {a : Addr} {vs : List V} {ds : List PyData} (h : SqT K Hf a vs) (ha : DpAll K Hf vs ds) : ItOk K (Itt K a) Hf ds := by
  intro H1 Hf1 s1 s2 i
  have h1 : SqT K H1 a vs := SqT.mono (s1.trans s2) h
  refine ⟨fun d hd => ?_, fun e => ⟨vs, h1, by rw [ha.len]; omega⟩⟩
  obtain ⟨v, hv, hdp⟩ := ha.get hd
  refine ⟨⟨vs, v, h1, hv⟩, fun x H2 ⟨e1, e2⟩ => ?_⟩
  subst e1
  have := e2 vs h1
  rw [hv] at this; cases this
  exact ⟨Hf1, Sub.refl _, Sub.refl _, s2, fun _ _ h => h, Dp.mono s1 _ _ hdp⟩
theorem rng_get {lo : Int} {n i : Nat} {d : PyData} (h : (rngD lo n)[i]? = some d) : i < n ∧ d = .int (lo + i) := by
  unfold rngD at h
  rw [List.getElem?_map] at h
  by_cases hi : i < n
  · rw [List.getElem?_eq_getElem (by simpa using hi)] at h
    simp at h
    exact ⟨hi, h.symm⟩
  · rw [List.getElem?_eq_none (by simp; omega)] at h; cases h
theorem itOk_rng {K : PySem.W.Frag} {Hf : Hp} (lo : Int) (n : Nat) : ItOk K (Itr lo n) Hf (rngD lo n) := by
  intro H1 Hf1 s1 s2 i
  refine ⟨fun d hd => ?_, fun e => ?_⟩
  · obtain ⟨h1, rfl⟩ := rng_get hd
    refine ⟨h1, fun x H2 ⟨e1, e2⟩ => ?_⟩
    subst e1 e2
    exact ⟨Hf1, Sub.refl _, Sub.refl _, s2, fun _ _ h => h, .int _⟩
  · have : (rngD lo n).length = n := by unfold rngD; simp
    show n ≤ i
    omega
theorem rng_sz (lo : Int) (n : Nat) : szAll (rngD lo n) = true := by
  rw [szAll_iff]
  intro d hd
  unfold rngD at hd
  obtain ⟨i, _, rfl⟩ := List.mem_map.mp hd
  rfl
theorem enum_get : ∀ {ds : List PyData} {k i : Nat} {d : PyData}, (enumD k ds)[i]? = some d → ∃ x, ds[i]? = some x ∧ d = .tuple [.int ((k + i : Nat) : Int), x]
  | [], _, _, _, h => by simp [enumD] at h
  | x :: ds, k, 0, d, h => by simp [enumD] at h; exact ⟨x, rfl, by simp [h]⟩
  | x :: ds, k, i + 1, d, h => by
    simp only [enumD, List.getElem?_cons_succ] at h ⊢
    obtain ⟨y, h1, h2⟩ := enum_get h
    exact ⟨y, h1, by rw [h2]; congr 3; omega⟩
theorem enum_len : ∀ (ds : List PyData) (k : Nat), (enumD k ds).length = ds.length
  | [], _ => rfl
  | _ :: ds, k => by show (enumD (k + 1) ds).length + 1 = _; rw [enum_len ds (k + 1)]; rfl
theorem sz_two {x y : PyData} (h : szOk x = true) (h' : szOk y = true) : szOk (.tuple [x, y]) = true := by
  rw [sz_tuple]; refine ⟨by show 2 ≤ sizeLine; decide, ?_⟩
  simp [szAll, h, h']
theorem enum_sz {ds : List PyData} {k : Nat} (h : szAll ds = true) : szAll (enumD k ds) = true := by
  rw [szAll_iff] at *
  intro d hd
  obtain ⟨i, hi⟩ := List.mem_iff_getElem?.mp hd
  obtain ⟨x, h1, rfl⟩ := enum_get hi
  exact sz_two rfl (h x (List.mem_of_getElem? h1))
theorem new_pair {K : PySem.W.Frag} {H1 Hf1 : Hp} {T : Addr} {x y : V} {d d' : PyData} (hT : H1 T = none) (s2 : Sub Hf1 H1) (hx : Dp K Hf1 x d) (hy : Dp K Hf1 y d') :
    ∃ Hf2, Sub Hf1 Hf2 ∧ Sub H1 (upd H1 T (.tup [x, y])) ∧ Sub Hf2 (upd H1 T (.tup [x, y])) ∧ (∀ a, H1 a ≠ none → Hf1 a = none → Hf2 a = none) ∧ Dp K Hf2 (.ref T) (.tuple [d, d']) := by
  have hfT := s2.none hT
  refine ⟨upd Hf1 T (.tup [x, y]), Sub.new hfT, Sub.new hT, fun b o e => ?_, fun a h1 h2 => ?_, .tup (.inl (.inl upd_same)) (.cons (Dp.mono (Sub.new hfT) _ _ hx) (.cons (Dp.mono (Sub.new hfT) _ _ hy) .nil))⟩
  · by_cases hb : b = T
    · subst hb; rw [upd_same] at e ⊢; exact e
    · rw [upd_ne hb] at e ⊢; exact s2 _ _ e
  · have : a ≠ T := fun z => h1 (by rw [z]; exact hT)
    rw [upd_ne this]; exact h2
theorem itOk_enumL {K : PySem.W.Frag} {Hf : Hp} {a : Addr} {vs : List V} {ds : List PyData} (h : SqL K Hf a vs) (ha : DpAll K Hf vs ds) : ItOk K (Ite K a) Hf (enumD 0 ds) := by
  intro H1 Hf1 s1 s2 i
  have h1 : SqL K H1 a vs := SqL.mono (s1.trans s2) h
  refine ⟨fun d hd => ?_, fun e => ⟨vs, h1, by rw [enum_len] at e; rw [ha.len]; omega⟩⟩
  obtain ⟨y, hy, rfl⟩ := enum_get hd
  obtain ⟨v, hv, hdp⟩ := ha.get hy
  refine ⟨⟨vs, v, h1, hv⟩, fun x H2 ⟨T, x', e1, e2, e3, e4⟩ => ?_⟩
  subst e1 e3
  have := e4 vs h1
  rw [hv] at this; cases this
  rw [Nat.zero_add]
  exact new_pair e2 s2 (.int _) (Dp.mono s1 _ _ hdp)
theorem itOk_enumT {K : PySem.W.Frag} {Hf : Hp} {a : Addr} {vs : List V} {ds : List PyData} (h : SqT K Hf a vs) (ha : DpAll K Hf vs ds) : ItOk K (IteT K a) Hf (enumD 0 ds) := by
  intro H1 Hf1 s1 s2 i
  have h1 : SqT K H1 a vs := SqT.mono (s1.trans s2) h
  refine ⟨fun d hd => ?_, fun e => ⟨vs, h1, by rw [enum_len] at e; rw [ha.len]; omega⟩⟩
  obtain ⟨y, hy, rfl⟩ := enum_get hd
  obtain ⟨v, hv, hdp⟩ := ha.get hy
  refine ⟨⟨vs, v, h1, hv⟩, fun x H2 ⟨T, x', e1, e2, e3, e4⟩ => ?_⟩
  subst e1 e3
  have := e4 vs h1
  rw [hv] at this; cases this
  rw [Nat.zero_add]
  exact new_pair e2 s2 (.int _) (Dp.mono s1 _ _ hdp)
theorem zip_get : ∀ {ds es : List PyData} {i : Nat} {d : PyData}, (zipD ds es)[i]? = some d → ∃ x y, ds[i]? = some x ∧ es[i]? = some y ∧ d = .tuple [x, y]
  | [], _, _, _, h => by simp [zipD] at h
  | _ :: _, [], _, _, h => by simp [zipD] at h
  | x :: ds, y :: es, 0, d, h => by simp [zipD] at h; exact ⟨x, y, rfl, rfl, h.symm⟩
  | x :: ds, y :: es, i + 1, d, h => by
    simp only [zipD, List.getElem?_cons_succ] at h ⊢
    exact zip_get h
theorem zip_len : ∀ (ds es : List PyData), (zipD ds es).length = min ds.length es.length
  | [], es => by simp [zipD]
  | _ :: _, [] => by simp [zipD]
  | _ :: ds, _ :: es => by simp only [zipD, List.length_cons, zip_len ds es]; omega
theorem zip_sz {ds es : List PyData} (h : szAll ds = true) (h' : szAll es = true) : szAll (zipD ds es) = true := by
  rw [szAll_iff] at *
  intro d hd
  obtain ⟨i, hi⟩ := List.mem_iff_getElem?.mp hd
  obtain ⟨x, y, h1, h2, rfl⟩ := zip_get hi
  exact sz_two (h x (List.mem_of_getElem? h1)) (h' y (List.mem_of_getElem? h2))
theorem SqK.mono {K : PySem.W.Frag} {k : Bool} {H H' : Hp} (s : Sub H H') {a : Addr} {xs : List V} (h : SqK K k H a xs) : SqK K k H' a xs := by
  cases k
  · exact SqT.mono s h
  · exact SqL.mono s h
theorem itOk_zipK {K : PySem.W.Frag} (k1 k2 : Bool) {Hf : Hp} {a b : Addr} {vs ws : List V} {ds es : List PyData} (h : SqK K k1 Hf a vs) (ha : DpAll K Hf vs ds) (h' : SqK K k2 Hf b ws) (hb : DpAll K Hf ws es) : ItOk K (ItzK K k1 k2 a b) Hf (zipD ds es) := by
  intro H1 Hf1 s1 s2 i
  have h1 : SqK K k1 H1 a vs := SqK.mono (s1.trans s2) h
  have h2 : SqK K k2 H1 b ws := SqK.mono (s1.trans s2) h'
  refine ⟨fun d hd => ?_, fun e => ⟨vs, ws, h1, h2, by rw [zip_len] at e; rw [ha.len, hb.len]; omega⟩⟩
  obtain ⟨x, y, hx, hy, rfl⟩ := zip_get hd
  obtain ⟨v, hv, hdp⟩ := ha.get hx
  obtain ⟨w, hw, hdp'⟩ := hb.get hy
  refine ⟨⟨vs, ws, v, w, h1, h2, hv, hw⟩, fun x H2 ⟨T, x', y', e1, e2, e3, e4, e5⟩ => ?_⟩
  subst e1 e3
  have := e4 vs h1
  rw [hv] at this; cases this
  have := e5 ws h2
  rw [hw] at this; cases this
  exact new_pair e2 s2 (Dp.mono s1 _ _ hdp) (Dp.mono s1 _ _ hdp')
/-- of data: a list's, a tuple's address in the part that stays -/
theorem RepU.list {K : PySem.W.Frag} {Hf : Hp} {ρ : List Addr} {v : V} {xs : List PyData} (r : RepU K Hf ρ v (.dat (.list xs))) : ∃ p vs, v = .ref p ∧ SqL K Hf p vs ∧ DpAll K Hf vs xs ∧ szAll xs = true := by
  obtain ⟨d, hz⟩ := r
  cases d with
  | lst hs ha => exact ⟨_, _, rfl, hs, ha, (sz_list.mp hz).2⟩
theorem RepU.tup {K : PySem.W.Frag} {Hf : Hp} {ρ : List Addr} {v : V} {xs : List PyData} (r : RepU K Hf ρ v (.dat (.tuple xs))) : ∃ p vs, v = .ref p ∧ SqT K Hf p vs ∧ DpAll K Hf vs xs ∧ szAll xs = true := by
  obtain ⟨d, hz⟩ := r
  cases d with
  | tup hs ha => exact ⟨_, _, rfl, hs, ha, (sz_tuple.mp hz).2⟩
theorem ri_seq (he : PE X e (tU X.K XR W f)) : PI X t e (tI X.K XR W fun σ m => (f σ m).bind seqU) :=
  PI.imp (PI.or (pi_list he) (pi_tup he)) fun σ H Q ⟨Hf, ρ, ω, env, m, a, o⟩ => by
    cases hf : f env m with
    | bad => dsimp only at o; rw [hf] at o; exact o.elim
    | exc cc xx mm =>
      obtain ⟨A, B, D, E, F', a1, o1⟩ := a.bindE (Rp' := RU X.K) o
      exact .inl ⟨A, B, D, E, F', a1, o1.mono fun x H1 ⟨u, Hf1, ρ1, m1, p, a1, r1, o1, eq⟩ => by rw [hf] at eq; cases eq⟩
    | ok u0 m0 =>
      obtain ⟨A, B, D, E, F', a1, o1⟩ := a.bindE (Rp' := RU X.K) o
      cases u0 with
      | ref i => dsimp only at o; rw [hf] at o; exact (o : False).elim
      | dat d =>
        cases d with
        | list xs =>
          refine .inl ⟨A, B, D, E, F', a1, o1.mono fun x H1 ⟨u, Hf1, ρ1, m1, p, a1, r1, o1, eq⟩ => ?_⟩
          rw [hf] at eq; cases eq
          obtain ⟨q, vs, rfl, h1, h2, h3⟩ := r1.list
          exact ⟨q, rfl, ⟨vs, SqL.mono a1.fine.sub h1⟩, a1.ok o1 ⟨itOk_list h1 h2, h3⟩⟩
        | tuple xs =>
          refine .inr ⟨A, B, D, E, F', a1, o1.mono fun x H1 ⟨u, Hf1, ρ1, m1, p, a1, r1, o1, eq⟩ => ?_⟩
          rw [hf] at eq; cases eq
          obtain ⟨q, vs, rfl, h1, h2, h3⟩ := r1.tup
          exact ⟨q, rfl, ⟨vs, SqT.mono a1.fine.sub h1⟩, a1.ok o1 ⟨itOk_tup h1 h2, h3⟩⟩
        | _ => dsimp only at o; rw [hf] at o; exact (o : False).elim
theorem ri_rng1 (g : GX G N C XR X W c) {p : Pos} (hg : glB c "range" = true) (he : PE X e (tU X.K XR W f)) (hp : pl e = true) : PI X t (.Call (.Name "range" p) [e] [] pos) (tI X.K XR W fun σ m => ((f σ m).bind asInt).bind rng1U) := by
  obtain ⟨q1, q2⟩ := g.glo hg
  refine PI.imp (pi_range1 q1 (g.bn _ (by decide)) (pa_cons he pa_nil (star_pl hp)) (star_pl hp)) fun σ H Q ⟨Hf, ρ, ω, env, m, a, o⟩ => ?_
  dsimp only at o
  rw [R.bind_bind] at o
  obtain ⟨A, B, D, E, F', a1, o1⟩ := a.bind (Rp' := RU X.K) o
  refine ⟨A, B, D, E, F', a1, o1.mono fun x H1 ⟨u, Hf1, ρ1, m1, p, a1, r1, o1⟩ => ?_⟩
  cases u with
  | ref i => exact o1.elim
  | dat d =>
    cases d with
    | int j =>
      cases r1.1
      rw [asInt_int, R.bind_ok] at o1
      unfold rng1U at o1
      split at o1
      · rename_i hj
        exact ⟨j, rfl, hj.1, hj.2, a1.ok o1 ⟨itOk_rng _ _, rng_sz _ _⟩⟩
      · exact o1.elim
    | _ => exact (o1 : False).elim
theorem ri_rng2 (g : GX G N C XR X W c) {p : Pos} (hg : glB c "range" = true) (he : PE X e (tU X.K XR W fa)) (hp : pl e = true) (he' : PE X e' (tU X.K XR W fb)) (hp' : pl e' = true) : PI X t (.Call (.Name "range" p) [e, e'] [] pos) (tI X.K XR W fun σ m => ((fa σ m).bind asInt).bind fun i m1 => ((fb σ m1).bind asInt).bind fun j m2 => rng2U i j m2) := by
  obtain ⟨q1, q2⟩ := g.glo hg
  refine PI.imp (pi_range2 q1 (g.bn _ (by decide)) (pa_cons he (pa_cons he' pa_nil (star_pl hp')) (star_pl hp)) (by rw [star_pl hp, star_pl hp']; rfl) (star_pl hp')) fun σ H Q ⟨Hf, ρ, ω, env, m, a, o⟩ => ?_
  dsimp only at o
  rw [R.bind_bind] at o
  obtain ⟨A, B, D, E, F', a1, o1⟩ := a.bind (Rp' := RU X.K) o
  refine ⟨A, B, D, E, F', a1, o1.mono fun x H1 ⟨u, Hf1, ρ1, m1, p, a1, r1, o1⟩ => ?_⟩
  cases u with
  | ref i => exact o1.elim
  | dat d =>
    cases d with
    | int j =>
      cases r1.1
      rw [asInt_int, R.bind_ok, R.bind_bind] at o1
      obtain ⟨A, B, D, E, F', a2, o2⟩ := a1.bind (Rp' := RU X.K) o1
      refine ⟨A, B, D, E, F', a2, o2.mono fun y H2 ⟨u2, Hf2, ρ2, m2, p2, a2, r2, o2⟩ => ?_⟩
      cases u2 with
      | ref i => exact o2.elim
      | dat d2 =>
        cases d2 with
        | int k =>
          cases r2.1
          rw [asInt_int, R.bind_ok] at o2
          unfold rng2U at o2
          split at o2
          · rename_i hj
            exact ⟨j, k, rfl, hj, a2.ok o2 ⟨itOk_rng _ _, rng_sz _ _⟩⟩
          · exact o2.elim
        | _ => exact (o2 : False).elim
    | _ => exact (o1 : False).elim
theorem ri_enum (g : GX G N C XR X W c) {p : Pos} (hg : glB c "enumerate" = true) (he : PE X e (tU X.K XR W f)) (hp : pl e = true) (ht : isTp t = true) : PI X t (.Call (.Name "enumerate" p) [e] [] pos) (tI X.K XR W fun σ m => ((f σ m).bind seqU).bind enumU) := by
  obtain ⟨q1, q2⟩ := g.glo hg
  have hm := g.bn "enumerate" (by decide)
  cases t <;> simp only [isTp, Bool.false_eq_true] at ht
  refine PI.imp (PI.or (pi_enum q1 hm (pa_cons he pa_nil (star_pl hp)) (star_pl hp)) (pi_enumT q1 hm (pa_cons he pa_nil (star_pl hp)) (star_pl hp))) fun σ H Q ⟨Hf, ρ, ω, env, m, a, o⟩ => ?_
  dsimp only at o
  rw [R.bind_bind] at o
  cases hf : f env m with
  | bad => rw [hf] at o; exact o.elim
  | exc cc xx mm =>
    obtain ⟨A, B, D, E, F', a1, o1⟩ := a.bindE (Rp' := RU X.K) o
    exact .inl ⟨A, B, D, E, F', a1, o1.mono fun x H1 ⟨u, Hf1, ρ1, m1, p, a1, r1, o1, eq⟩ => by rw [hf] at eq; cases eq⟩
  | ok u0 m0 =>
    obtain ⟨A, B, D, E, F', a1, o1⟩ := a.bindE (Rp' := RU X.K) o
    cases u0 with
    | ref i => rw [hf] at o; exact (o : False).elim
    | dat d =>
      cases d with
      | list xs =>
        refine .inl ⟨A, B, D, E, F', a1, o1.mono fun x H1 ⟨u, Hf1, ρ1, m1, p, a1, r1, o1, eq⟩ => ?_⟩
        rw [hf] at eq; cases eq
        obtain ⟨q, vs, rfl, h1, h2, h3⟩ := r1.list
        exact ⟨q, vs, rfl, SqL.mono a1.fine.sub h1, a1.ok o1 ⟨itOk_enumL h1 h2, enum_sz h3⟩⟩
      | tuple xs =>
        refine .inr ⟨A, B, D, E, F', a1, o1.mono fun x H1 ⟨u, Hf1, ρ1, m1, p, a1, r1, o1, eq⟩ => ?_⟩
        rw [hf] at eq; cases eq
        obtain ⟨q, vs, rfl, h1, h2, h3⟩ := r1.tup
        exact ⟨q, vs, rfl, SqT.mono a1.fine.sub h1, a1.ok o1 ⟨itOk_enumT h1 h2, enum_sz h3⟩⟩
      | _ => rw [hf] at o; exact (o : False).elim
theorem ri_zip (g : GX G N C XR X W c) {p : Pos} (hg : glB c "zip" = true) (he : PE X e (tU X.K XR W fa)) (hp : pl e = true) (he' : PE X e' (tU X.K XR W fb)) (hp' : pl e' = true) (ht : isTp t = true) :
    PI X t (.Call (.Name "zip" p) [e, e'] [] pos) (tI X.K XR W fun σ m => (fa σ m).bind fun x m1 => (fb σ m1).bind fun y m2 => zipU x y m2) := by
  obtain ⟨q1, q2⟩ := g.glo hg
  have hm := g.bn "zip" (by decide)
  cases t <;> simp only [isTp, Bool.false_eq_true] at ht
  refine PI.imp (pi_zipK q1 hm (pa_cons he (pa_cons he' pa_nil (star_pl hp')) (star_pl hp)) (star_pl hp) (by rw [star_pl hp']; rfl)) fun σ H Q ⟨Hf, ρ, ω, env, m, a, o⟩ => ?_
  obtain ⟨A, B, D, E, F', a1, o1⟩ := a.bind (Rp' := RU X.K) o
  refine ⟨A, B, D, E, F', a1, o1.mono fun x H1 ⟨u, Hf1, ρ1, m1, p, a1, r1, o1⟩ => ?_⟩
  obtain ⟨A, B, D, E, F', a2, o2⟩ := a1.bind (Rp' := RU X.K) o1
  refine ⟨A, B, D, E, F', a2, o2.mono fun y H2 ⟨u2, Hf2, ρ2, m2, p2, a2, r2, o2⟩ => ?_⟩
  have r1 := r1.pres p2
  cases u with
  | ref i => exact (o2 : False).elim
  | dat d =>
    cases u2 with
    | ref i => cases d <;> exact (o2 : False).elim
    | dat d2 =>
      cases d <;> cases d2 <;> first
        | exact (o2 : False).elim
        | (rw [zipU_list] at o2
           obtain ⟨q, vs, rfl, h1, h2, h3⟩ := r1.list
           obtain ⟨q', vs', rfl, h1', h2', h3'⟩ := r2.list
           exact ⟨true, true, q, q', vs, vs', rfl, SqL.mono a2.fine.sub h1, SqL.mono a2.fine.sub h1', a2.ok o2 ⟨itOk_zipK true true h1 h2 h1' h2', zip_sz h3 h3'⟩⟩)
        | (rw [zipU_tuple] at o2
           obtain ⟨q, vs, rfl, h1, h2, h3⟩ := r1.tup
           obtain ⟨q', vs', rfl, h1', h2', h3'⟩ := r2.tup
           exact ⟨false, false, q, q', vs, vs', rfl, SqT.mono a2.fine.sub h1, SqT.mono a2.fine.sub h1', a2.ok o2 ⟨itOk_zipK false false h1 h2 h1' h2', zip_sz h3 h3'⟩⟩)
        | (rw [zipU_lt] at o2
           obtain ⟨q, vs, rfl, h1, h2, h3⟩ := r1.list
           obtain ⟨q', vs', rfl, h1', h2', h3'⟩ := r2.tup
           exact ⟨true, false, q, q', vs, vs', rfl, SqL.mono a2.fine.sub h1, SqT.mono a2.fine.sub h1', a2.ok o2 ⟨itOk_zipK true false h1 h2 h1' h2', zip_sz h3 h3'⟩⟩)
        | (rw [zipU_tl] at o2
           obtain ⟨q, vs, rfl, h1, h2, h3⟩ := r1.tup
           obtain ⟨q', vs', rfl, h1', h2', h3'⟩ := r2.list
           exact ⟨false, true, q, q', vs, vs', rfl, SqT.mono a2.fine.sub h1, SqL.mono a2.fine.sub h1', a2.ok o2 ⟨itOk_zipK false true h1 h2 h1' h2', zip_sz h3 h3'⟩⟩)
end
end Eng

set_option Elab.async false
set_option linter.all false
set_option maxRecDepth 100000
set_option maxHeartbeats 1000000
/-! Targets; list comprehensions. -/
namespace Eng
open PySem PySem.Spec PyProof.Rows L2

def Off (vs : List Nat) (σ σ' : L2.St) : Prop := ∀ j, j ∉ vs → σ'[j]? = σ[j]?
section
variable {K : PySem.W.Frag} {H Hf : Hp} {ρ : List Addr} {ω : Nat → Addr} {σ : L2.St} {env : Env}
theorem Slots.setV (s : Slots K H Hf ρ ω σ env) {i : Nat} {v : V} {u : U} (hi : i < env.length) (r : RepU K Hf ρ v u) : Slots K H Hf ρ ω (σ.set i (some v)) (env.set i (.v u)) := by
  have hl : i < σ.length := by rw [s.len]; exact hi
  refine ⟨by rw [List.length_set, List.length_set]; exact s.len, fun j w e => ?_, fun j xs e => ?_, fun j k xs ys e e' => ?_⟩
  · rw [List.getElem?_set] at e ⊢
    by_cases hj : i = j
    · subst hj
      rw [if_pos rfl, if_pos hi] at e
      cases e
      rw [if_pos rfl, if_pos hl]
      exact ⟨v, rfl, r⟩
    · rw [if_neg hj] at e ⊢
      exact s.val j w e
  · rw [List.getElem?_set] at e ⊢
    by_cases hj : i = j
    · subst hj
      rw [if_pos rfl, if_pos hi] at e
      cases e
    · rw [if_neg hj] at e ⊢
      exact s.own j xs e
  · rw [List.getElem?_set] at e e'
    by_cases hj : i = j
    · subst hj; rw [if_pos rfl, if_pos hi] at e; cases e
    · by_cases hk : i = k
      · subst hk; rw [if_pos rfl, if_pos hi] at e'; cases e'
      · rw [if_neg hj] at e; rw [if_neg hk] at e'
        exact s.inj j k xs ys e e'
theorem Slots.setNo (s : Slots K H Hf ρ ω σ env) {i : Nat} {o : Option V} : Slots K H Hf ρ ω (σ.set i o) (env.set i .no) := by
  refine ⟨by rw [List.length_set, List.length_set]; exact s.len, fun j w e => ?_, fun j xs e => ?_, fun j k xs ys e e' => ?_⟩
  · rw [List.getElem?_set] at e ⊢
    by_cases hj : i = j
    · subst hj
      rw [if_pos rfl] at e
      split at e <;> cases e
    · rw [if_neg hj] at e ⊢
      exact s.val j w e
  · rw [List.getElem?_set] at e ⊢
    by_cases hj : i = j
    · subst hj
      rw [if_pos rfl] at e
      split at e <;> cases e
    · rw [if_neg hj] at e ⊢
      exact s.own j xs e
  · rw [List.getElem?_set] at e e'
    by_cases hj : i = j
    · subst hj; rw [if_pos rfl] at e; split at e <;> cases e
    · by_cases hk : i = k
      · subst hk; rw [if_pos rfl] at e'; split at e' <;> cases e'
      · rw [if_neg hj] at e; rw [if_neg hk] at e'
        exact s.inj j k xs ys e e'
theorem Slots.wipe (s : Slots K H Hf ρ ω σ env) : ∀ vs : List Nat, Slots K H Hf ρ ω (L2.wipe σ vs) (wipeE env vs)
  | [] => s
  | v :: vs => (s.wipe vs).setNo
theorem wipe_get (σ : L2.St) (i : Nat) : ∀ vs : List Nat, (L2.wipe σ vs)[i]? = if i ∈ vs then σ[i]?.map (fun _ => none) else σ[i]?
  | [] => by rw [if_neg (by simp)]; rfl
  | v :: vs => by
    unfold L2.wipe
    rw [List.getElem?_set, wipe_length, wipe_get σ i vs]
    by_cases h : v = i
    · subst h
      rw [if_pos rfl, if_pos (show v ∈ v :: vs by simp)]
      by_cases hl : v < σ.length
      · rw [if_pos hl, List.getElem?_eq_getElem hl]; rfl
      · rw [if_neg hl, List.getElem?_eq_none (by omega)]; rfl
    · rw [if_neg h]
      by_cases hi : i ∈ vs
      · rw [if_pos hi, if_pos (by simp [hi])]
      · rw [if_neg hi, if_neg (by simp [hi, Ne.symm h])]
theorem wipe_off {σ σ' : L2.St} {vs ws : List Nat} (h : Off ws σ σ') (hl : σ'.length = σ.length) (hs : ∀ i ∈ ws, i ∈ vs) : L2.wipe σ' vs = L2.wipe σ vs := by
  apply List.ext_getElem?
  intro i
  rw [wipe_get, wipe_get]
  by_cases hi : i ∈ vs
  · rw [if_pos hi, if_pos hi]
    by_cases hb : i < σ.length
    · rw [List.getElem?_eq_getElem hb, List.getElem?_eq_getElem (by omega)]; rfl
    · rw [List.getElem?_eq_none (by omega), List.getElem?_eq_none (by omega)]
  · rw [if_neg hi, if_neg hi]
    exact h i fun z => hi (hs i z)
theorem wipe_wipe (σ : L2.St) (vs : List Nat) : L2.wipe (L2.wipe σ vs) vs = L2.wipe σ vs := wipe_off (ws := vs) (fun j hj => by rw [wipe_get, if_neg hj]) (wipe_length _ _) fun _ h => h
end

def gT (K : PySem.W.Frag) (tg : Tg) : TG := fun v σ H Q => ∃ Hf ρ ω env m d env', At K H σ Hf ρ ω env m ∧ Dp K Hf v d ∧ szOk d = true ∧ asgTg tg d env = some env' ∧ ∀ σ', At K H σ' Hf ρ ω env' m → Off (slotsTg tg) σ σ' → Q σ' H
def gTs (K : PySem.W.Frag) (tgs : List Tg) : TGs := fun vs σ H Q => ∃ Hf ρ ω env m ds env', At K H σ Hf ρ ω env m ∧ DpAll K Hf vs ds ∧ szAll ds = true ∧ asgTgs tgs ds env = some env' ∧ ∀ σ', At K H σ' Hf ρ ω env' m → Off (slotsTgs tgs) σ σ' → Q σ' H
theorem okTgs_len {N : List Str} {c : Sc} : ∀ {ts : List Tg} {es : List Expr}, okTgs N c ts es = true → ts.length = es.length
  | [], [], _ => rfl
  | t :: ts, e :: es, h => by
    simp only [okTgs, Bool.and_eq_true] at h
    rw [List.length_cons, List.length_cons, okTgs_len h.2]
  | [], _ :: _, h => by simp [okTgs] at h
  | _ :: _, [], h => by simp [okTgs] at h
theorem asgTgs_len : ∀ {ts : List Tg} {ds : List PyData} {σ σ' : Env}, asgTgs ts ds σ = some σ' → ts.length = ds.length
  | [], [], _, _, _ => rfl
  | t :: ts, d :: ds, σ, σ', h => by
    simp only [asgTgs, Option.bind_eq_some_iff] at h
    obtain ⟨s, _, h⟩ := h
    rw [List.length_cons, List.length_cons, asgTgs_len h]
  | [], _ :: _, _, _, h => by simp [asgTgs] at h
  | _ :: _, [], _, _, h => by simp [asgTgs] at h
mutual
theorem asgTg_len : ∀ {t : Tg} {d : PyData} {σ σ' : Env}, asgTg t d σ = some σ' → σ'.length = σ.length
  | .nm i, d, σ, σ', h => by
    simp only [asgTg] at h
    split at h
    · cases h; rw [List.length_set]
    · cases h
  | .tp ts, d, σ, σ', h => by
    cases d <;> simp only [asgTg, reduceCtorEq] at h
    exact asgTgs_lenE h
theorem asgTgs_lenE : ∀ {ts : List Tg} {ds : List PyData} {σ σ' : Env}, asgTgs ts ds σ = some σ' → σ'.length = σ.length
  | [], [], _, _, h => by simp only [asgTgs, Option.some.injEq] at h; rw [h]
  | t :: ts, d :: ds, σ, σ', h => by
    simp only [asgTgs, Option.bind_eq_some_iff] at h
    obtain ⟨s, h1, h⟩ := h
    rw [asgTgs_lenE h, asgTg_len h1]
  | [], _ :: _, _, _, h => by simp [asgTgs] at h
  | _ :: _, [], _, _, h => by simp [asgTgs] at h
end
theorem plTg {N : List Str} {c : Sc} {t : Tg} {e : Expr} (h : okTg N c t e = true) : isTp e = true ∨ ∃ x p, e = .Name x p := by
  cases t <;> cases e <;> simp [okTg] at h
  · exact .inr ⟨_, _, rfl⟩
  · exact .inl rfl
theorem tgs_each {N : List Str} {c : Sc} {env : PySem.Env} : ∀ {ts : List Tg} {es : List Expr}, okTgs N c ts es = true → assignEach es env = es.map fun e => (false, assign e env)
  | [], [], _ => rfl
  | t :: ts, e :: es, h => by
    simp only [okTgs, Bool.and_eq_true] at h
    have := tgs_each (env := env) h.2
    rw [List.map_cons, ← this]
    rcases plTg h.1 with q | ⟨x, p, rfl⟩
    · cases e <;> simp [isTp] at q
      rfl
    · rfl
  | [], _ :: _, h => by simp [okTgs] at h
  | _ :: _, [], h => by simp [okTgs] at h
section
variable {G : Cfg} {N : List Str} {C : Calls} {XR : XRel} {X : Cx} {W : WX} {c : Sc}
mutual
theorem pg_T (g : GX G N C XR X W c) : ∀ {tg : Tg} {e : Expr}, okTg N c tg e = true → PG X e (gT X.K tg)
  | .nm i, e, h => by
    cases e <;> simp only [okTg, Bool.false_eq_true, Bool.and_eq_true, decide_eq_true_eq] at h
    rename_i x p
    obtain ⟨h1, h2⟩ := h
    have hl : Loc X.env.scope x ∧ (X.fn x = true ∨ X.env.scope.names.lookup x = some .local) := by
      unfold locB at h2
      simp only [Bool.or_eq_true, Bool.and_eq_true, decide_eq_true_eq] at h2
      rw [g.sc, g.fn]
      rcases h2 with h2 | ⟨h2, h3⟩
      · exact ⟨.inl h2, .inr h2⟩
      · exact ⟨.inr h2, .inl h3⟩
    refine PG.imp (pg_name (i := i) g.nd (by rw [g.hN]; exact h1) hl.1 hl.2) fun v σ H Q ⟨Hf, ρ, ω, env, m, d, env', a, hd, hz, he, q⟩ => ?_
    simp only [asgTg] at he
    split at he
    · rename_i hi
      cases he
      refine q _ ⟨a.fine, a.slots.setV hi ⟨hd, hz⟩⟩ fun j hj => ?_
      simp only [slotsTg, List.mem_singleton] at hj
      rw [List.getElem?_set_ne (Ne.symm hj)]
    · cases he
  | .tp ts, e, h => by
    cases e <;> simp only [okTg, Bool.false_eq_true] at h
    rename_i es k p
    have he := tgs_each (env := X.env) h
    refine PG.imp (pg_tup (n := es.length) g.calm (pgs_T g h) (by rw [he, List.length_map]) (by rw [he]; rw [List.findIdx?_eq_none_iff]; intro x hx; obtain ⟨y, _, rfl⟩ := List.mem_map.mp hx; rfl)) fun v σ H Q ⟨Hf, ρ, ω, env, m, d, env', a, hd, hz, he, q⟩ => ?_
    cases d <;> simp only [asgTg, reduceCtorEq] at he
    rename_i ds
    cases hd with
    | tup hs ha => exact ⟨_, _, rfl, SqT.mono a.fine.sub hs, by rw [ha.len, ← asgTgs_len he, okTgs_len h], Hf, ρ, ω, env, m, ds, env', a, ha, (sz_tuple.mp hz).2, he, q⟩
theorem pgs_T (g : GX G N C XR X W c) : ∀ {tgs : List Tg} {es : List Expr}, okTgs N c tgs es = true → PGs X es (gTs X.K tgs)
  | [], [], h => ⟨fun pins s σ H vs us Q I r ⟨Hf, ρ, ω, env, m, ds, env', a, ha, hz, he, q⟩ => by
      cases ds with
      | cons d ds => simp [asgTgs] at he
      | nil =>
        cases ha
        simp only [asgTgs, Option.some.injEq] at he
        subst he
        exact pgs_nil.run pins s σ H _ us Q I r ⟨rfl, q σ a fun _ _ => rfl⟩⟩
  | t :: ts, e :: es, h => by
    have hh := h
    simp only [okTgs, Bool.and_eq_true] at h
    have hea := tgs_each (env := X.env) hh
    have heb := tgs_each (env := X.env) h.2
    have key := pgs_cons (pg_T g h.1) (pgs_T g h.2) (by rw [hea, heb]; rfl)
    refine ⟨fun pins s σ H vs us Q I r ⟨Hf, ρ, ω, env, m, ds, env', a, ha, hz, he, q⟩ => key.run pins s σ H vs us Q I r ?_⟩
    cases ds with
    | nil => simp [asgTgs] at he
    | cons d ds =>
      cases ha with
      | cons h1 h2 =>
        simp only [asgTgs, Option.bind_eq_some_iff] at he
        obtain ⟨env1, e1, e2⟩ := he
        simp only [szAll, Bool.and_eq_true] at hz
        refine ⟨_, _, rfl, Hf, ρ, ω, env, m, d, env1, a, h1, hz.1, e1, fun σ1 a1 o1 => ⟨Hf, ρ, ω, env1, m, ds, env', a1, h2, hz.2, e2, fun σ2 a2 o2 => q σ2 a2 fun j hj => ?_⟩⟩
        simp only [slotsTgs, List.mem_append, not_or] at hj
        rw [o2 j hj.2, o1 j hj.1]
  | [], _ :: _, h => by simp [okTgs] at h
  | _ :: _, [], h => by simp [okTgs] at h
end
end

/-! ### a list comprehension -/
def WF : WX := fun _ _ _ _ => False
def tC (K : PySem.W.Frag) (XR : XRel) (o : Option (Env → Mem → R U)) : TT := match o with
  | none => tYes
  | some f => tT K XR WF f
def oQ (o : Option (Env → Mem → R U)) : Option (Env → Mem → R U) := o.map fun f σ m => (f σ m).quiet
theorem quiet_ok {α : Type} {r : R α} {a : α} {m : Mem} (h : r.quiet = .ok a m) : r = .ok a m := by
  cases r with
  | ok x y => exact h
  | exc _ _ _ => cases h
  | bad => cases h
theorem bind_ok' {α β : Type} {r : R α} {k : α → Mem → R β} {b : β} {m : Mem} (h : r.bind k = .ok b m) : ∃ a m1, r = .ok a m1 ∧ k a m1 = .ok b m := by
  cases r with
  | ok x y => exact ⟨x, y, rfl, h⟩
  | exc _ _ _ => cases h
  | bad => cases h
theorem asB_ok {u : U} {m m' : Mem} {b : Bool} (h : asB u m = .ok b m') : u = .dat (.bool b) ∧ m' = m := by
  cases u with
  | ref i => cases h
  | dat d => cases d <;> cases h; exact ⟨rfl, rfl⟩
theorem asD_ok {u : U} {m m' : Mem} {b : PyData} (h : asD u m = .ok b m') : u = .dat b ∧ m' = m := by
  cases u with
  | ref i => cases h
  | dat d => cases h; exact ⟨rfl, rfl⟩
theorem compGo_cons {elt : Env → Mem → R U} {cond : Option (Env → Mem → R U)} {tg : Tg} {σ : Env} {d : PyData} {ds : List PyData} {m mf : Mem} {xs : List PyData} (h : compGo elt cond tg σ (d :: ds) m = .ok xs mf) :
    ∃ σ' b m1, asgTg tg d σ = some σ' ∧ condGo cond σ' m = .ok b m1 ∧ (b = true → ∃ x m2 xs', elt σ' m1 = .ok (.dat x) m2 ∧ compGo elt cond tg σ ds m2 = .ok xs' mf ∧ xs = x :: xs') ∧ (b = false → compGo elt cond tg σ ds m1 = .ok xs mf) := by
  unfold compGo at h
  cases e : asgTg tg d σ with
  | none => rw [e] at h; cases h
  | some σ' =>
    rw [e] at h
    obtain ⟨b, m1, h1, h2⟩ := bind_ok' h
    refine ⟨σ', b, m1, rfl, h1, fun hb => ?_, fun hb => ?_⟩
    · subst hb
      rw [if_pos rfl] at h2
      obtain ⟨u, m2, h3, h4⟩ := bind_ok' h2
      obtain ⟨x, m3, h5, h6⟩ := bind_ok' h4
      obtain ⟨rfl, rfl⟩ := asD_ok h5
      obtain ⟨xs', m4, h7, h8⟩ := bind_ok' h6
      cases h8
      exact ⟨x, _, xs', h3, h7, rfl⟩
    · subst hb
      rw [if_neg (by simp)] at h2
      exact h2
/-- the list that grows -/
structure CIn (K : PySem.W.Frag) (H1 Hf1 : Hp) (ρ1 : List Addr) (D : Addr) (H Hf : Hp) (ρ : List Addr) (m : Mem) (acc : List PyData) : Prop where
  pres : Pres H1 Hf1 ρ1 H Hf ρ
  fine : Fine K H Hf ρ m
  at_ : ∃ vs, H D = some (.lst vs) ∧ DpAll K Hf vs acc
  fr : Hf D = none
  nt : D ∉ ρ
  sz : szAll acc = true
section
variable {K : PySem.W.Frag} {H1 Hf1 : Hp} {ρ1 : List Addr} {D : Addr} {H Hf : Hp} {ρ : List Addr} {m : Mem} {acc : List PyData}
theorem CIn.start {m1 : Mem} (f : Fine K H1 Hf1 ρ1 m1) (hD : H1 D = none) : CIn K H1 Hf1 ρ1 D (upd H1 D (.lst [])) Hf1 ρ1 m1 [] :=
  ⟨Pres.fresh hD, f.fresh hD, ⟨[], upd_same, .nil⟩, f.sub.none hD, (fun hm => by obtain ⟨o, e⟩ := f.tracked hm; rw [hD] at e; cases e), rfl⟩
theorem CIn.step (c : CIn K H1 Hf1 ρ1 D H Hf ρ m acc) {H' Hf' : Hp} {ρ' : List Addr} {m' : Mem} (p : Pres H Hf ρ H' Hf' ρ') (f : Fine K H' Hf' ρ' m') : CIn K H1 Hf1 ρ1 D H' Hf' ρ' m' acc := by
  obtain ⟨vs, e, ha⟩ := c.at_
  obtain ⟨q, q1, q2⟩ := p.kp _ _ e c.fr c.nt
  exact ⟨c.pres.trans p, f, ⟨vs, q, DpAll.mono p.fz _ _ ha⟩, q1, q2, c.sz⟩
theorem Fine.poke (f : Fine K H Hf ρ m) {p : Addr} {o : HO} (h1 : Hf p = none) (h2 : p ∉ ρ) : Fine K (upd H p o) Hf ρ m := by
  refine ⟨fun b x e => ?_, f.nd, f.un, f.len, fun i a ob e1 e2 => ?_⟩
  · have : b ≠ p := fun z => by subst z; rw [h1] at e; cases e
    rw [upd_ne this]; exact f.sub _ _ e
  · have : a ≠ p := fun z => h2 (by rw [← z]; exact List.mem_of_getElem? e1)
    have q := f.at_ i a ob e1 e2
    cases ob with
    | lst xs => obtain ⟨vs, e, ha, hz⟩ := q; exact ⟨vs, by rw [upd_ne this]; exact e, ha, hz⟩
    | dct xs => obtain ⟨vs, e, ha, hz⟩ := q; exact ⟨vs, by rw [upd_ne this]; exact e, ha, hz⟩
    | inst c fs => exact q
theorem CIn.push (c : CIn K H1 Hf1 ρ1 D H Hf ρ m acc) (hD : H1 D = none) {y : V} {x : PyData} (r : Dp K Hf y x) (hz : szOk x = true) : ∃ vs, H D = some (.lst vs) ∧ vs.length = acc.length ∧ CIn K H1 Hf1 ρ1 D (upd H D (.lst (vs ++ [y]))) Hf ρ m (acc ++ [x]) := by
  obtain ⟨vs, e, ha⟩ := c.at_
  refine ⟨vs, e, ha.len, ⟨c.pres.fz, c.pres.pre, fun a o h h1 h2 => ?_⟩, c.fine.poke c.fr c.nt, ⟨_, upd_same, ha.app (.cons r .nil)⟩, c.fr, c.nt, ?_⟩
  · obtain ⟨q, q1, q2⟩ := c.pres.kp a o h h1 h2
    have : a ≠ D := ne_of_none h hD
    exact ⟨by rw [upd_ne this]; exact q, q1, q2⟩
  · have := c.sz
    rw [szAll_iff] at this ⊢
    intro d hd
    rcases List.mem_append.mp hd with hd | hd
    · exact this d hd
    · simp only [List.mem_singleton] at hd; rw [hd]; exact hz
/-- a turn's value has come -/
theorem ItOk.turn {J : L2.It} {ds : List PyData} (hJ : ItOk K J Hf1 ds) (c : CIn K H1 Hf1 ρ1 D H Hf ρ m acc) {i : Nat} {d : PyData} (hd : ds[i]? = some d) :
    J.go i H ∧ ∀ x H', J.yld i H x H' → ∃ Hf', CIn K H1 Hf1 ρ1 D H' Hf' ρ m acc ∧ Dp K Hf' x d := by
  obtain ⟨h1, h2⟩ := (hJ H Hf c.pres.fz c.fine.sub i).1 d hd
  refine ⟨h1, fun x H' hy => ?_⟩
  obtain ⟨Hf2, s1, s2, s3, s4, s5⟩ := h2 x H' hy
  refine ⟨Hf2, c.step ⟨s1, ⟨[], by simp⟩, fun a o e e1 e2 => ⟨s2 _ _ e, s4 a (by rw [e]; simp) e1, e2⟩⟩ ⟨s3, c.fine.nd, fun a ha => ?_, c.fine.len, fun i a o e1 e2 => (c.fine.at_ i a o e1 e2).grow (fun x e => s2 _ _ e) s1⟩, s5⟩
  obtain ⟨o, e⟩ := c.fine.tracked ha
  exact s4 a (by rw [e]; simp) (c.fine.un a ha)
end
end Eng

set_option Elab.async false
set_option linter.all false
set_option maxRecDepth 100000
set_option maxHeartbeats 1000000
/-! List comprehensions: one loop, two loops. -/
namespace Eng
open PySem PySem.Spec PyProof.Rows L2

section
variable {K : PySem.W.Frag} {XR : XRel} {W : WX} {H Hf : Hp} {ρ : List Addr} {ω : Nat → Addr} {σ : L2.St} {env : Env} {m : Mem}
theorem tU_ok {f : Env → Mem → R U} {u : U} {m' : Mem} {P : VK} (a : At K H σ Hf ρ ω env m) (h : f env m = .ok u m') (k : ∀ v H' Hf' ρ', Pres H Hf ρ H' Hf' ρ' → Fine K H' Hf' ρ' m' → RepU K Hf' ρ' v u → P v H') : tU K XR W f σ H P :=
  ⟨Hf, ρ, ω, env, m, a, by rw [h]; exact k⟩
theorem tI_ok {f : Env → Mem → R (List PyData)} {u : List PyData} {m' : Mem} {P : L2.It → Hp → Prop} (a : At K H σ Hf ρ ω env m) (h : f env m = .ok u m') (k : ∀ v H' Hf' ρ', Pres H Hf ρ H' Hf' ρ' → Fine K H' Hf' ρ' m' → RI K H' Hf' ρ' v u → P v H') : tI K XR W f σ H P :=
  ⟨Hf, ρ, ω, env, m, a, by rw [h]; exact k⟩
theorem tC_ok {o : Option (Env → Mem → R U)} {b : Bool} {m' : Mem} {P : Bool → Hp → Prop} (a : At K H σ Hf ρ ω env m) (h : condGo (oQ o) env m = .ok b m') (k : ∀ H' Hf' ρ', Pres H Hf ρ H' Hf' ρ' → Fine K H' Hf' ρ' m' → P b H') : tC K XR o σ H P := by
  cases o with
  | none => cases h; exact k _ _ _ (Pres.refl _ _ _) a.fine
  | some f =>
    obtain ⟨u, m1, h1, h2⟩ := bind_ok' h
    obtain ⟨rfl, rfl⟩ := asB_ok h2
    refine ⟨Hf, ρ, ω, env, m, a, ?_⟩
    show OutE K XR WF σ H Hf ρ RBl ((f env m).bind asB) P
    rw [quiet_ok h1]
    show OutE K XR WF σ H Hf ρ RBl (.ok b m') P
    intro v H' Hf' ρ' p f' r
    cases r
    exact k _ _ _ p f'
theorem gT_ok {tg : Tg} {d : PyData} {env' : Env} {v : V} {P : L2.St → Hp → Prop} (a : At K H σ Hf ρ ω env m) (hd : Dp K Hf v d) (hz : szOk d = true) (he : asgTg tg d env = some env') (k : ∀ σ', At K H σ' Hf ρ ω env' m → Off (slotsTg tg) σ σ' → P σ' H) : gT K tg v σ H P :=
  ⟨Hf, ρ, ω, env, m, d, env', a, hd, hz, he, k⟩
end
theorem compGo_len {elt : Env → Mem → R U} {cond : Option (Env → Mem → R U)} {tg : Tg} {σ : Env} : ∀ {ds : List PyData} {m mf : Mem} {xs : List PyData}, compGo elt cond tg σ ds m = .ok xs mf → xs.length ≤ ds.length
  | [], m, mf, xs, h => by cases h; exact Nat.le_refl _
  | d :: ds, m, mf, xs, h => by
    obtain ⟨σ', b, m1, h1, h2, h3, h4⟩ := compGo_cons h
    cases b with
    | true =>
      obtain ⟨x, m2, xs', _, h5, rfl⟩ := h3 rfl
      have := compGo_len h5
      simp only [List.length_cons]; omega
    | false => have := compGo_len (h4 rfl); simp only [List.length_cons]; omega
theorem drop_cons {α : Type} {ds : List α} {i : Nat} (h : i < ds.length) : ds.drop i = ds[i] :: ds.drop (i + 1) := List.drop_eq_getElem_cons h
theorem wipe_At {K : PySem.W.Frag} {H Hf H' Hf' : Hp} {ρ ρ' : List Addr} {ω : Nat → Addr} {σ : L2.St} {env : Env} {m m' : Mem} (a : At K H σ Hf ρ ω env m) (p : Pres H Hf ρ H' Hf' ρ') (f : Fine K H' Hf' ρ' m') (vs : List Nat) : At K H' (L2.wipe σ vs) Hf' ρ' ω (wipeE env vs) m' := ⟨f, (a.slots.pres p).wipe vs⟩
theorem lc_imp {K : PySem.W.Frag} {XR : XRel} {W : WX} {fI : Env → Mem → R (List PyData)} {fe : Env → Mem → R U} {oc : Option (Env → Mem → R U)} {tg : Tg} {vs : List Nat} {σ : L2.St} {H : Hp} {Q : VK} (hs : ∀ i ∈ slotsTg tg, i ∈ vs)
    (h : tF K XR W (fun σ m => ((fI σ m).bind sizeU).bind fun ds m1 => (compGo (fun σ m => (fe σ m).quiet) (oQ oc) tg (wipeE σ vs) ds m1).quiet.bind fun xs m2 => .ok (.dat (.list xs)) m2) σ H Q) :
    tLc (tI K XR W fI) (gT K tg) (tC K XR oc) (tU K XR WF fe) vs σ H Q := by
  obtain ⟨Hf, ρ, ω, env, m, a, o⟩ := h
  dsimp only at o
  rw [R.bind_bind] at o
  refine ⟨Hf, ρ, ω, env, m, a, (OutE.bind (Rp' := RI K) o).mono fun J H1 ⟨ds, Hf1, ρ1, m1, p, f1, r, o1⟩ => ?_⟩
  obtain ⟨hJ, hz⟩ := r
  have a1 : At K H1 σ Hf1 ρ1 ω env m1 := a.pres p f1
  unfold sizeU at o1
  have hl : ds.length ≤ sizeLine := by
    by_cases hl : ds.length ≤ sizeLine
    · exact hl
    · rw [if_neg hl] at o1; exact (o1 : False).elim
  rw [if_pos hl, R.bind_ok] at o1
  obtain ⟨xs, mf, hc⟩ : ∃ xs mf, compGo (fun σ m => (fe σ m).quiet) (oQ oc) tg (wipeE env vs) ds m1 = .ok xs mf := by
    cases hc : compGo (fun σ m => (fe σ m).quiet) (oQ oc) tg (wipeE env vs) ds m1 with
    | bad => rw [hc] at o1; exact (o1 : False).elim
    | exc => rw [hc] at o1; exact (o1 : False).elim
    | ok xs mf => exact ⟨xs, mf, rfl⟩
  rw [hc, R.quiet_ok, R.bind_ok] at o1
  have hxl := compGo_len hc
  have hlen : ∀ {acc xs' : List PyData}, acc ++ xs' = xs → acc.length + xs'.length = xs.length := fun e => by rw [← e, List.length_append]
  intro D hD
  refine ⟨fun i k H' => ∃ Hf' ρ' m' acc xs', i ≤ ds.length ∧ k = ds.length - i ∧ CIn K H1 Hf1 ρ1 D H' Hf' ρ' m' acc ∧ compGo (fun σ m => (fe σ m).quiet) (oQ oc) tg (wipeE env vs) (ds.drop i) m' = .ok xs' mf ∧ acc ++ xs' = xs,
    ⟨_, Hf1, ρ1, m1, [], xs, Nat.zero_le _, rfl, CIn.start f1 hD, hc, rfl⟩, fun i k H' ⟨Hf', ρ', m', acc, xs', hi, hk, c, hg, hx⟩ => ?_⟩
  by_cases he : i = ds.length
  · subst he
    rw [List.drop_length] at hg
    cases hg
    rw [List.append_nil] at hx
    subst hx
    refine .inl ⟨(hJ H' Hf' c.pres.fz c.fine.sub _).2 rfl, ?_⟩
    obtain ⟨vs', e, ha⟩ := c.at_
    exact o1 _ H' Hf' ρ' c.pres c.fine ⟨D, vs', _, rfl, rfl, Pres.none p a.fine f1 hD, e, c.fr, c.nt, ha, sz_list.mpr ⟨by omega, c.sz⟩⟩
  · have hlt : i < ds.length := by omega
    rw [drop_cons hlt] at hg
    obtain ⟨env', b, m2, g1, g2, g3, g4⟩ := compGo_cons hg
    obtain ⟨hgo, hy⟩ := hJ.turn c (List.getElem?_eq_getElem hlt)
    have hzd : szOk ds[i] = true := szAll_iff.mp hz _ (List.getElem_mem hlt)
    refine .inr ⟨hgo, fun H' => ∃ Hf' ρ' m' acc xs', CIn K H1 Hf1 ρ1 D H' Hf' ρ' m' acc ∧ compGo (fun σ m => (fe σ m).quiet) (oQ oc) tg (wipeE env vs) (ds.drop (i + 1)) m' = .ok xs' mf ∧ acc ++ xs' = xs, fun H' ⟨Hf', ρ', m', acc, xs', c, q1, q2⟩ => ⟨_, (by omega : ds.length - (i + 1) < k), Hf', ρ', m', acc, xs', hlt, rfl, c, q1, q2⟩, fun x H2 hyl => ?_⟩
    obtain ⟨Hf2, c2, hdp⟩ := hy x H2 hyl
    have at2 := wipe_At a1 c2.pres c2.fine vs
    refine gT_ok at2 hdp hzd g1 fun σ2 a2 off => ⟨?_, ?_⟩
    · rw [wipe_off off (by rw [a2.slots.len, at2.slots.len]; exact asgTg_len g1) hs, wipe_wipe]
    refine tC_ok a2 g2 fun H3 Hf3 ρ3 p3 f3 => ?_
    have c3 := c2.step p3 f3
    cases b with
    | false => exact ⟨Hf3, ρ3, m2, acc, xs', c3, g4 rfl, hx⟩
    | true =>
      obtain ⟨xv, m4, xs2, g5, g6, g7⟩ := g3 rfl
      refine tU_ok (a2.pres p3 f3) (quiet_ok g5) fun y H4 Hf4 ρ4 p4 f4 r4 => ?_
      obtain ⟨vs', e, el, c4⟩ := (c3.step p4 f4).push hD r4.1 r4.2
      have := hlen hx
      rw [g7, List.length_cons] at this
      exact ⟨vs', e, by omega, Hf4, ρ4, m4, acc ++ [xv], xs2, c4, g6, by rw [← hx, g7, List.append_assoc]; rfl⟩
end Eng

set_option Elab.async false
set_option linter.all false
set_option maxRecDepth 100000
set_option maxHeartbeats 1000000
/-! List comprehensions: two loops. -/
namespace Eng
open PySem PySem.Spec PyProof.Rows L2

theorem set_own {σ : Env} {i j : Nat} {s : Sl} (hs : ∀ xs, s ≠ .own xs) {xs : List PyData} (h : (σ.set i s)[j]? = some (.own xs)) : σ[j]? = some (.own xs) := by
  rw [List.getElem?_set] at h
  by_cases hj : i = j
  · subst hj
    rw [if_pos rfl] at h
    split at h
    · cases h; exact absurd rfl (hs xs)
    · cases h
  · rw [if_neg hj] at h; exact h
mutual
theorem asgTg_own : ∀ {t : Tg} {d : PyData} {σ σ' : Env} {j : Nat} {xs : List PyData}, asgTg t d σ = some σ' → σ'[j]? = some (.own xs) → σ[j]? = some (.own xs)
  | .nm i, d, σ, σ', j, xs, h, h' => by
    simp only [asgTg] at h
    split at h
    · cases h; exact set_own (fun _ e => by cases e) h'
    · cases h
  | .tp ts, d, σ, σ', j, xs, h, h' => by
    cases d <;> simp only [asgTg, reduceCtorEq] at h
    exact asgTgs_own h h'
theorem asgTgs_own : ∀ {ts : List Tg} {ds : List PyData} {σ σ' : Env} {j : Nat} {xs : List PyData}, asgTgs ts ds σ = some σ' → σ'[j]? = some (.own xs) → σ[j]? = some (.own xs)
  | [], [], _, _, _, _, h, h' => by simp only [asgTgs, Option.some.injEq] at h; rw [h]; exact h'
  | t :: ts, d :: ds, σ, σ', j, xs, h, h' => by
    simp only [asgTgs, Option.bind_eq_some_iff] at h
    obtain ⟨s, h1, h⟩ := h
    exact asgTg_own h1 (asgTgs_own h h')
  | [], _ :: _, _, _, _, _, h, _ => by simp [asgTgs] at h
  | _ :: _, [], _, _, _, _, h, _ => by simp [asgTgs] at h
end
theorem wipeE_own {σ : Env} {j : Nat} {xs : List PyData} : ∀ {vs : List Nat}, (wipeE σ vs)[j]? = some (.own xs) → σ[j]? = some (.own xs)
  | [], h => h
  | v :: vs, h => wipeE_own (vs := vs) (set_own (fun _ e => by cases e) h)
theorem Slots.poke {K : PySem.W.Frag} {H Hf : Hp} {ρ : List Addr} {ω : Nat → Addr} {σ : L2.St} {env : Env} (s : Slots K H Hf ρ ω σ env) {p : Addr} {o : HO} (h : ∀ i xs, env[i]? = some (.own xs) → ω i ≠ p) : Slots K (upd H p o) Hf ρ ω σ env := by
  refine ⟨s.len, s.val, fun i xs e => ?_, s.inj⟩
  obtain ⟨h1, h2, h3, ⟨vs, h4, h5⟩, h6⟩ := s.own i xs e
  exact ⟨h1, h2, h3, ⟨vs, by rw [upd_ne (h i xs e)]; exact h4, h5⟩, h6⟩
theorem ItOk.mono {K : PySem.W.Frag} {J : L2.It} {Hf Hf' : Hp} {ds : List PyData} (h : ItOk K J Hf ds) (s : Sub Hf Hf') : ItOk K J Hf' ds := fun H1 Hf1 s1 s2 i => h H1 Hf1 (s.trans s1) s2 i
theorem Pres.turn {K : PySem.W.Frag} {H Hf : Hp} {ρ : List Addr} {m : Mem} {J : L2.It} {ds : List PyData} (hJ : ItOk K J Hf ds) (f : Fine K H Hf ρ m) {i : Nat} {d : PyData} (hd : ds[i]? = some d) :
    J.go i H ∧ ∀ x H', J.yld i H x H' → ∃ Hf', Pres H Hf ρ H' Hf' ρ ∧ Fine K H' Hf' ρ m ∧ Dp K Hf' x d := by
  obtain ⟨h1, h2⟩ := (hJ H Hf (Sub.refl _) f.sub i).1 d hd
  refine ⟨h1, fun x H' hy => ?_⟩
  obtain ⟨Hf2, s1, s2, s3, s4, s5⟩ := h2 x H' hy
  refine ⟨Hf2, ⟨s1, ⟨[], by simp⟩, fun a o e e1 e2 => ⟨s2 _ _ e, s4 a (by rw [e]; simp) e1, e2⟩⟩, ⟨s3, f.nd, fun a ha => ?_, f.len, fun i a o e1 e2 => (f.at_ i a o e1 e2).grow (fun x e => s2 _ _ e) s1⟩, s5⟩
  obtain ⟨o, e⟩ := f.tracked ha
  exact s4 a (by rw [e]; simp) (f.un a ha)
theorem comp2Go_cons {elt : Env → Mem → R U} {cond : Option (Env → Mem → R U)} {tg tg' : Tg} {it : Env → Mem → R (List PyData)} {σ : Env} {d : PyData} {ds : List PyData} {m mf : Mem} {xs : List PyData} (h : comp2Go elt cond tg it tg' σ (d :: ds) m = .ok xs mf) :
    ∃ σ' es m1 ys m2 zs, asgTg tg d σ = some σ' ∧ it σ' m = .ok es m1 ∧ compGo elt cond tg' (wipeE σ' (slotsTg tg')) es m1 = .ok ys m2 ∧ comp2Go elt cond tg it tg' σ ds m2 = .ok zs mf ∧ xs = ys ++ zs := by
  unfold comp2Go at h
  cases e : asgTg tg d σ with
  | none => rw [e] at h; cases h
  | some σ' =>
    rw [e] at h
    obtain ⟨es, m1, h1, h2⟩ := bind_ok' h
    obtain ⟨ys, m2, h3, h4⟩ := bind_ok' h2
    obtain ⟨zs, m3, h5, h6⟩ := bind_ok' h4
    cases h6
    exact ⟨σ', es, m1, ys, m2, zs, rfl, h1, h3, h5, rfl⟩
theorem lc2_imp {K : PySem.W.Frag} {XR : XRel} {W : WX} {fI fI2 : Env → Mem → R (List PyData)} {fe : Env → Mem → R U} {oc : Option (Env → Mem → R U)} {tg tg' : Tg} {vs : List Nat} {σ : L2.St} {H : Hp} {Q : VK} (hs : ∀ i ∈ slotsTg tg, i ∈ vs)
    (h : tF K XR W (fun σ m => ((fI σ m).bind sizeU).bind fun ds m1 => ((comp2Go (fun σ m => (fe σ m).quiet) (oQ oc) tg (fun σ m => (fI2 σ m).quiet) tg' (wipeE σ vs) ds m1).quiet.bind sizeU).bind fun xs m2 => .ok (.dat (.list xs)) m2) σ H Q) :
    tLc2 (tI K XR W fI) (gT K tg) tYes (tI K XR WF fI2) (gT K tg') (tC K XR oc) (tU K XR WF fe) vs (slotsTg tg') σ H Q := by
  obtain ⟨Hf, ρ, ω, env, m, a, o⟩ := h
  dsimp only at o
  rw [R.bind_bind] at o
  refine ⟨Hf, ρ, ω, env, m, a, (OutE.bind (Rp' := RI K) o).mono fun J H1 ⟨ds, Hf1, ρ1, m1, p, f1, r, o1⟩ => ?_⟩
  obtain ⟨hJ, hz⟩ := r
  have a1 : At K H1 σ Hf1 ρ1 ω env m1 := a.pres p f1
  unfold sizeU at o1
  have hl : ds.length ≤ sizeLine := by
    by_cases hl : ds.length ≤ sizeLine
    · exact hl
    · rw [if_neg hl] at o1; exact (o1 : False).elim
  rw [if_pos hl, R.bind_ok] at o1
  obtain ⟨xs, mf, hc⟩ : ∃ xs mf, comp2Go (fun σ m => (fe σ m).quiet) (oQ oc) tg (fun σ m => (fI2 σ m).quiet) tg' (wipeE env vs) ds m1 = .ok xs mf := by
    cases hc : comp2Go (fun σ m => (fe σ m).quiet) (oQ oc) tg (fun σ m => (fI2 σ m).quiet) tg' (wipeE env vs) ds m1 with
    | bad => rw [hc] at o1; exact (o1 : False).elim
    | exc => rw [hc] at o1; exact (o1 : False).elim
    | ok xs mf => exact ⟨xs, mf, rfl⟩
  rw [hc, R.quiet_ok, R.bind_ok] at o1
  have hxl : xs.length ≤ sizeLine := by
    by_cases hl : xs.length ≤ sizeLine
    · exact hl
    · rw [if_neg hl] at o1; exact (o1 : False).elim
  rw [if_pos hxl, R.bind_ok] at o1
  intro D hD
  refine ⟨fun i k H' => ∃ Hf' ρ' m' acc xs', i ≤ ds.length ∧ k = ds.length - i ∧ CIn K H1 Hf1 ρ1 D H' Hf' ρ' m' acc ∧ comp2Go (fun σ m => (fe σ m).quiet) (oQ oc) tg (fun σ m => (fI2 σ m).quiet) tg' (wipeE env vs) (ds.drop i) m' = .ok xs' mf ∧ acc ++ xs' = xs,
    ⟨_, Hf1, ρ1, m1, [], xs, Nat.zero_le _, rfl, CIn.start f1 hD, hc, rfl⟩, fun i k H' ⟨Hf', ρ', m', acc, xs', hi, hk, c, hg, hx⟩ => ?_⟩
  by_cases he : i = ds.length
  · subst he
    rw [List.drop_length] at hg
    cases hg
    rw [List.append_nil] at hx
    subst hx
    refine .inl ⟨(hJ H' Hf' c.pres.fz c.fine.sub _).2 rfl, ?_⟩
    obtain ⟨vs', e, ha⟩ := c.at_
    exact o1 _ H' Hf' ρ' c.pres c.fine ⟨D, vs', _, rfl, rfl, Pres.none p a.fine f1 hD, e, c.fr, c.nt, ha, sz_list.mpr ⟨hxl, c.sz⟩⟩
  · have hlt : i < ds.length := by omega
    rw [drop_cons hlt] at hg
    obtain ⟨env', es, m2, ys, m3, zs, g1, g2, g3, g4, g5⟩ := comp2Go_cons hg
    obtain ⟨hgo, hy⟩ := Pres.turn (hJ.mono c.pres.fz) c.fine (List.getElem?_eq_getElem hlt)
    have hzd : szOk ds[i] = true := szAll_iff.mp hz _ (List.getElem_mem hlt)
    refine .inr ⟨hgo, fun H' => ∃ Hf' ρ' m' acc xs', CIn K H1 Hf1 ρ1 D H' Hf' ρ' m' acc ∧ comp2Go (fun σ m => (fe σ m).quiet) (oQ oc) tg (fun σ m => (fI2 σ m).quiet) tg' (wipeE env vs) (ds.drop (i + 1)) m' = .ok xs' mf ∧ acc ++ xs' = xs, fun H' ⟨Hf', ρ', m', acc, xs', c, q1, q2⟩ => ⟨_, (by omega : ds.length - (i + 1) < k), Hf', ρ', m', acc, xs', hlt, rfl, c, q1, q2⟩, fun x H2 hyl => ?_⟩
    obtain ⟨Hf2, p2, f2, hdp⟩ := hy x H2 hyl
    have c2 := c.step p2 f2
    have at2 := wipe_At a1 c2.pres c2.fine vs
    refine gT_ok at2 hdp hzd g1 fun σ2 a2 off => ⟨?_, ?_⟩
    · rw [wipe_off off (by rw [a2.slots.len, at2.slots.len]; exact asgTg_len g1) hs, wipe_wipe]
    show tI K XR WF fI2 σ2 H2 _
    refine tI_ok a2 (quiet_ok g2) fun J1 H4 Hf4 ρ4 p4 f4 r4 => ?_
    obtain ⟨hJ1, hz1⟩ := r4
    have c4 := c2.step p4 f4
    have hω : ∀ i xs, env'[i]? = some (.own xs) → ω i ≠ D := fun i xs e => by
      obtain ⟨_, _, _, ⟨vs', e2, _⟩, _⟩ := a1.slots.own i xs (wipeE_own (asgTg_own g1 e))
      exact ne_of_none e2 hD
    refine ⟨fun j k H' => ∃ Hf' ρ' m' acc' ys', j ≤ es.length ∧ k = es.length - j ∧ CIn K H1 Hf1 ρ1 D H' Hf' ρ' m' acc' ∧ compGo (fun σ m => (fe σ m).quiet) (oQ oc) tg' (wipeE env' (slotsTg tg')) (es.drop j) m' = .ok ys' m3 ∧ acc' ++ ys' ++ zs = xs ∧ Sub Hf4 Hf' ∧ Slots K H' Hf' ρ' ω σ2 env',
      ⟨_, Hf4, ρ4, m2, acc, ys, Nat.zero_le _, rfl, c4, g3, by rw [List.append_assoc, ← g5]; exact hx, Sub.refl _, a2.slots.pres p4⟩, fun j k1 H5 ⟨Hf5, ρ5, m5, acc5, ys5, hj, hk1, c5, hg5, hx5, s5, sl5⟩ => ?_⟩
    by_cases hje : j = es.length
    · subst hje
      rw [List.drop_length] at hg5
      cases hg5
      rw [List.append_nil] at hx5
      exact .inl ⟨(hJ1 H5 Hf5 s5 c5.fine.sub _).2 rfl, Hf5, ρ5, _, _, zs, c5, g4, hx5⟩
    · have hjt : j < es.length := by omega
      rw [drop_cons hjt] at hg5
      obtain ⟨env6, b, m6, q1, q2, q3, q4⟩ := compGo_cons hg5
      obtain ⟨hgo1, hy1⟩ := Pres.turn (hJ1.mono s5) c5.fine (List.getElem?_eq_getElem hjt)
      have hzd1 : szOk es[j] = true := szAll_iff.mp hz1 _ (List.getElem_mem hjt)
      refine .inr ⟨hgo1, fun H' => ∃ Hf' ρ' m' acc' ys', CIn K H1 Hf1 ρ1 D H' Hf' ρ' m' acc' ∧ compGo (fun σ m => (fe σ m).quiet) (oQ oc) tg' (wipeE env' (slotsTg tg')) (es.drop (j + 1)) m' = .ok ys' m3 ∧ acc' ++ ys' ++ zs = xs ∧ Sub Hf4 Hf' ∧ Slots K H' Hf' ρ' ω σ2 env',
        fun H' ⟨Hf', ρ', m', acc, xs', c, q1, q2, q3, q4⟩ => ⟨_, (by omega : es.length - (j + 1) < k1), Hf', ρ', m', acc, xs', hjt, rfl, c, q1, q2, q3, q4⟩, fun x6 H6 hyl6 => ?_⟩
      obtain ⟨Hf6, p6, f6, hdp6⟩ := hy1 x6 H6 hyl6
      have c6 := c5.step p6 f6
      have at6 := wipe_At ⟨c5.fine, sl5⟩ p6 f6 (slotsTg tg')
      refine gT_ok at6 hdp6 hzd1 q1 fun σ7 a7 off7 => ⟨?_, ?_⟩
      · rw [wipe_off off7 (by rw [a7.slots.len, at6.slots.len]; exact asgTg_len q1) (fun _ h => h), wipe_wipe]
      refine tC_ok a7 q2 fun H8 Hf8 ρ8 p8 f8 => ?_
      have c8 := c6.step p8 f8
      have sl8 := (sl5.pres p6).pres p8
      cases b with
      | false => exact ⟨Hf8, ρ8, m6, acc5, ys5, c8, q4 rfl, hx5, s5.trans (p6.fz.trans p8.fz), sl8⟩
      | true =>
        obtain ⟨xv, m9, ys9, q5, q6, q7⟩ := q3 rfl
        refine tU_ok (a7.pres p8 f8) (quiet_ok q5) fun y H9 Hf9 ρ9 p9 f9 r9 => ?_
        obtain ⟨vs', e, el, c9⟩ := (c8.step p9 f9).push hD r9.1 r9.2
        have := congrArg List.length hx5
        rw [q7, List.length_append, List.length_append, List.length_cons] at this
        exact ⟨vs', e, by omega, Hf9, ρ9, m9, acc5 ++ [xv], ys9, c9, q6, by rw [← hx5, q7, List.append_assoc acc5]; rfl, s5.trans (p6.fz.trans (p8.fz.trans p9.fz)), (sl8.pres p9).poke hω⟩
end Eng

set_option Elab.async false
set_option linter.all false
set_option maxRecDepth 100000
set_option maxHeartbeats 4000000
/-! Expressions: a checked text reads as the evaluator says. -/
namespace Eng
open PySem PySem.Spec PyProof.Rows L2
section
variable {G : Cfg} {N : List Str} {C : Calls} {XR : XRel} {X : Cx} {W : WX} {c : Sc} {e e' l r s : Expr} {es : List Expr} {pos : Pos} {f fa fb fc : Env → Mem → R U}
theorem rt_ite {t : Expr} (ht : PT X t (tT X.K XR W f)) (ha : PT X l (tT X.K XR W fa)) (hb : PT X r (tT X.K XR W fb)) : PT X (.IfExp t l r pos) (tT X.K XR W fun σ m => ((f σ m).bind asB).bind fun c m1 => if c = true then fa σ m1 else fb σ m1) := by
  refine ⟨fun pins s σ H Q I ⟨Hf, ρ, ω, env, m, a, o⟩ => ?_⟩
  dsimp only at o
  rw [R.bind_bind] at o
  show wpAny (model X.prog X.w) X.A (do if ← isTrue t X.env (eval t X.env) then isTrue l X.env (eval l X.env) else isTrue r X.env (eval r X.env)) (TP X pins σ Q) X.xe s
  refine wpAny_bind (wpAny_mono (ht.run pins s σ H _ I (a.bind (f := fun σ m => (f σ m).bind asB) (Rp' := RBl) o)) (fun b s1 ⟨H1, I1, u, Hf1, ρ1, m1, p, a1, r1, o1⟩ => ?_) fun _ _ z => z)
  cases r1
  cases b with
  | true => exact ha.run pins s1 σ H1 Q I1 ⟨_, _, _, _, _, a1, o1⟩
  | false => exact hb.run pins s1 σ H1 Q I1 ⟨_, _, _, _, _, a1, o1⟩
theorem pw_any {o : BoolOp} {t : TT} (h : PT X (.BoolOp o es pos) t) : PW X (.BoolOp o es pos) t := ⟨fun wh pins s σ H Q I q => h.run pins s σ H Q I q⟩
abbrev Both (X : Cx) (XR : XRel) (W : WX) (s : Expr) (f : Env → Mem → R U) : Prop := PE X s (tU X.K XR W f) ∧ PT X s (tT X.K XR W f)
theorem both (h : PE X s (tU X.K XR W f)) (he : ∀ whole, isTrue s X.env whole = (do let v ← whole; standAt s.pos; holding [v] (truthy v))) : Both X XR W s f := ⟨h, pt_of h he⟩
theorem pe_never {t : TE} (h : ∀ σ H Q, ¬ t σ H Q) : PE X s t := ⟨fun pins s σ H Q I q => (h _ _ _ q).elim⟩
theorem bad_never (h : ∀ σ m, f σ m = .bad) : ∀ σ H Q, ¬ tU X.K XR W f σ H Q := fun σ H Q ⟨Hf, ρ, ω, env, m, a, o⟩ => by rw [h] at o; exact o
/-- where an object is only read -/
theorem sndB (g : GX G N C XR X W c) {a : E} (h : okE G N a c s = true) (hE : PE X s (tU X.K XR W (evE C a))) : PE X s (tB X.K XR W (bA a (evE C a))) := by
  cases a
  case bv i =>
    simp only [okE] at h
    split at h
    · simp only [Bool.and_eq_true, decide_eq_true_eq] at h
      exact pe_nameB g h.1 h.2 _ fun _ _ => rfl
    · cases h
  all_goals exact PE.bor hE
theorem pt_bad {t : TT} (h : ∀ σ H Q, ¬ t σ H Q) : PT X s t := ⟨fun pins s σ H Q I q => (h _ _ _ q).elim⟩
theorem plAll {es : Es} {xs : List Expr} (h : okEs G N es c xs = true) : xs.all pl = true := by
  induction xs generalizing es with
  | nil => rfl
  | cons x xs ih =>
    cases es with
    | nil => simp [okEs] at h
    | cons e es =>
      simp only [okEs, Bool.and_eq_true] at h
      rw [List.all_cons, h.1.2, ih h.2]; rfl
theorem kws_some : ∀ {kws : List Keyword}, kws.all (·.arg.isSome) = true → kws.map (·.arg) = (kws.filterMap (·.arg)).map some
  | [], _ => rfl
  | ⟨none, _, _⟩ :: kws, h => by simp at h
  | ⟨some a, _, _⟩ :: kws, h => by
    rw [List.all_cons, Bool.and_eq_true] at h
    show some a :: kws.map (·.arg) = (a :: kws.filterMap (·.arg)).map some
    rw [List.map_cons, kws_some h.2]
theorem evEs_len' {es : Es} {xs : List Expr} (h : okEs G N es c xs = true) {σ : Env} {m m' : Mem} {us : List U} (hu : evEs C es σ m = .ok us m') : us.length = xs.length := by
  rw [evEs_len es hu, okEs_len es h]
theorem condOk {cond : E} {ifs : List Expr} (hb : match ifs with | [] => isNo cond = true | [k] => isNo cond = false ∧ PT X k (tT X.K XR WF (evE C cond)) | _ => False) : PTs X ifs (tC X.K XR (if isNo cond = true then none else some (evE C cond))) := by
  cases ifs with
  | nil => simp only at hb; rw [if_pos hb]; exact pts_nil
  | cons k ks =>
    cases ks with
    | nil => simp only at hb; rw [if_neg (by rw [hb.1]; simp)]; exact pts_one hb.2
    | cons _ _ => exact hb.elim
theorem cA_oQ (cond : E) (f : Env → Mem → R U) : cA cond f = oQ (if isNo cond = true then none else some f) := by
  cases cond <;> rfl
theorem rl_comp (g : GX G N C XR X W c) {t i : Expr} {ifs : List Expr} {scope : Scope} {own : List (Str × Nat)} {tg : Tg} {cond elt : E} {fI : Env → Mem → R (List PyData)} (hI : PI X t i (tI X.K XR W fI)) (ok : blkC N c.sc scope own = true) (hp : pl i = true) (ht : okTg N (c.blk scope) tg t = true)
    (hs : (slotsTg tg).all (fun j => (own.map (·.2)).contains j) = true) (he : ∀ X', GX G N C XR X' WF (c.blk scope) → X'.K = X.K → PE X' e (tU X.K XR WF (evE C elt)))
    (hc : ∀ X', GX G N C XR X' WF (c.blk scope) → X'.K = X.K → PTs X' ifs (tC X.K XR (if isNo cond = true then none else some (evE C cond)))) :
    PE X (.ListComp e [⟨t, i, ifs, 0⟩] scope pos) (tF X.K XR W fun σ m => ((fI σ m).bind sizeU).bind fun ds m1 =>
      (compGo (fun σ m => (evE C elt σ m).quiet) (cA cond (evE C cond)) tg (wipeE σ (own.map (·.2))) ds m1).quiet.bind fun xs m2 => .ok (.dat (.list xs)) m2) := by
  rw [cA_oQ]
  have hs' : ∀ i ∈ slotsTg tg, i ∈ own.map (·.2) := fun i hi => by
    have := List.all_eq_true.mp hs i hi
    simpa using this
  refine PE.imp (pe_lc (own := own) g.calm g.nd hI (blkOk_by (by rw [g.hN, g.sc]; exact ok)) (fun s H D cl fp => ?_) (fun s H D cl fp => hc _ (g.blk s H scope cl D fp) rfl) (fun s H D cl fp => he _ (g.blk s H scope cl D fp) rfl) (folded_pl hp)) fun σ H Q h => lc_imp hs' h
  exact pg_T (g.blk s H scope cl D fp) ht
theorem rl_comp2 (g : GX G N C XR X W c) {t i t' i' : Expr} {ifs : List Expr} {scope : Scope} {own : List (Str × Nat)} {tg tg' : Tg} {cond elt : E} {fI fI2 : Env → Mem → R (List PyData)} (hI : PI X t i (tI X.K XR W fI)) (ok : blkC N c.sc scope own = true) (hp : pl i = true) (ht : okTg N (c.blk scope) tg t = true)
    (hs : (slotsTg tg).all (fun j => (own.map (·.2)).contains j) = true) (hI' : ∀ X', GX G N C XR X' WF (c.blk scope) → X'.K = X.K → PI X' t' i' (tI X.K XR WF fI2)) (hp' : pl i' = true) (ht' : okTg N (c.blk scope) tg' t' = true) (hs2 : (slotsTg tg').all (fun j => (own.map (·.2)).contains j) = true)
    (he : ∀ X', GX G N C XR X' WF (c.blk scope) → X'.K = X.K → PE X' e (tU X.K XR WF (evE C elt)))
    (hc : ∀ X', GX G N C XR X' WF (c.blk scope) → X'.K = X.K → PTs X' ifs (tC X.K XR (if isNo cond = true then none else some (evE C cond)))) :
    PE X (.ListComp e [⟨t, i, [], 0⟩, ⟨t', i', ifs, 0⟩] scope pos) (tF X.K XR W fun σ m => ((fI σ m).bind sizeU).bind fun ds m1 =>
      ((comp2Go (fun σ m => (evE C elt σ m).quiet) (cA cond (evE C cond)) tg (fun σ m => (fI2 σ m).quiet) tg' (wipeE σ (own.map (·.2))) ds m1).quiet.bind sizeU).bind fun xs m2 => .ok (.dat (.list xs)) m2) := by
  rw [cA_oQ]
  have hs' : ∀ i ∈ slotsTg tg, i ∈ own.map (·.2) := fun i hi => by
    have := List.all_eq_true.mp hs i hi
    simpa using this
  have hs2' : ∀ i ∈ slotsTg tg', i ∈ own.map (·.2) := fun i hi => by
    have := List.all_eq_true.mp hs2 i hi
    simpa using this
  refine PE.imp (pe_lc2 (own := own) (vs1 := slotsTg tg') g.calm g.nd hI (blkOk_by (by rw [g.hN, g.sc]; exact ok)) hs2' (fun s H D cl fp => ?_) (fun s H D cl fp => pts_nil) (fun s H D cl fp => hI' _ (g.blk s H scope cl D fp) rfl) (fun s H D cl fp => ?_) (fun s H D cl fp => hc _ (g.blk s H scope cl D fp) rfl) (fun s H D cl fp => he _ (g.blk s H scope cl D fp) rfl) (folded_pl hp) (fun env => folded_pl hp')) fun σ H Q h => lc2_imp hs' h
  · exact pg_T (g.blk s H scope cl D fp) ht
  · exact pg_T (g.blk s H scope cl D fp) ht'
end
end Eng

set_option Elab.async false
set_option linter.all false
set_option maxRecDepth 100000
set_option maxHeartbeats 4000000
/-! Expressions: THE LAW. -/
namespace Eng
open PySem PySem.Spec PyProof.Rows L2
section
variable {G : Cfg} {N : List Str} {C : Calls} {XR : XRel}
mutual
theorem snd : ∀ (e : E) {X : Cx} {W : WX} {c : Sc} {s : Expr}, GX G N C XR X W c → okE G N e c s = true → Both X XR W s (evE C e)
  | .cst d, X, W, c, s, g, h => by
    simp only [okE] at h; split at h
    · obtain ⟨v, h1, h2, h3⟩ := cst_pe h
      exact both (pe_sc h1 h2 h3 fun _ _ => rfl) fun _ => rfl
    · cases h
  | .glb x d, X, W, c, s, g, h => by
    simp only [okE] at h; split at h
    · rename_i y p
      simp only [Bool.and_eq_true, decide_eq_true_eq, List.any_eq_true] at h
      obtain ⟨⟨rfl, h2⟩, q, h3, h4, h5⟩ := h
      obtain ⟨q1, q2⟩ := g.glo h2
      obtain ⟨x', d'⟩ := q
      simp only at h4 h5
      subst h4
      obtain ⟨u, e1, e2⟩ := g.gl _ _ h3
      obtain ⟨z, z1, z2, z3⟩ := e2 d h5
      exact both (pe_sc (pe_glob q1 e1 z1 q2) z2 z3 fun _ _ => rfl) fun _ => rfl
    · cases h
  | .var i, X, W, c, s, g, h => by
    simp only [okE] at h; split at h
    · simp only [Bool.and_eq_true, decide_eq_true_eq] at h
      exact both (pe_nameU g h.1 h.2) fun _ => rfl
    · cases h
  | .bv i, X, W, c, s, g, h => ⟨pe_never (bad_never fun _ _ => rfl), pt_bad fun σ H Q ⟨Hf, ρ, ω, env, m, a, o⟩ => o⟩
  | .tup es, X, W, c, s, g, h => by
    simp only [okE] at h; split at h
    · simp only [Bool.and_eq_true, decide_eq_true_eq] at h
      exact both (rl_tup (sndA es g h.1) fun σ m us m' hu => by rw [evEs_len' h.1 hu]; exact h.2) fun _ => rfl
    · cases h
  | .lst es, X, W, c, s, g, h => by
    simp only [okE] at h; split at h
    · simp only [Bool.and_eq_true, decide_eq_true_eq] at h
      exact both (PE.frz (rl_lst (sndA es g h.1) fun σ m us m' hu => by rw [evEs_len' h.1 hu]; exact h.2)) fun _ => rfl
    · cases h
  | .newl es, X, W, c, s, g, h => by
    simp only [okE] at h; split at h
    · simp only [Bool.and_eq_true, decide_eq_true_eq] at h
      exact both (rl_newl (sndA es g h.1) fun σ m us m' hu => by rw [evEs_len' h.1 hu]; exact h.2) fun _ => rfl
    · cases h
  | .lmul es k, X, W, c, s, g, h => by
    simp only [okE] at h; split at h
    · simp only [Bool.and_eq_true, decide_eq_true_eq] at h
      obtain ⟨⟨h1, h2⟩, h3⟩ := h
      exact both (PE.frz (rl_lmul (rl_lst (sndA es g h1) fun σ m us m' hu => by rw [evEs_len' h1 hu]; exact h2) (snd k g h3).1)) fun _ => rfl
    · cases h
  | .sortk a, X, W, c, s, g, h => by simp [okE] at h
  | .sset a, X, W, c, s, g, h => by
    simp only [okE] at h; split at h
    · simp only [Bool.and_eq_true, decide_eq_true_eq] at h
      obtain ⟨⟨⟨⟨⟨h1, h2⟩, h3⟩, h4⟩, h5⟩, h6⟩ := h
      exact both (rl_sset g h1 h2 h3 h4 (snd a g h5).1 h6) fun _ => rfl
    · cases h
  | .dget i es, X, W, c, s, g, h => by simp [okE] at h
  | .newD1 k v, X, W, c, s, g, h => by simp [okE] at h
  | .keysl a, X, W, c, s, g, h => by simp [okE] at h
  | .newD, X, W, c, s, g, h => by simp [okE] at h
  | .din n a b, X, W, c, s, g, h => by simp [okE] at h
  | .bin o a b, X, W, c, s, g, h => by
    simp only [okE] at h; split at h
    · simp only [Bool.and_eq_true] at h
      obtain ⟨⟨h1, h2⟩, h3⟩ := h
      exact both (rl_op (sndB g h2 (snd a g h2).1) (sndB g h3 (snd b g h3).1) (op_bin o _ h1)) fun _ => rfl
    · cases h
  | .ladd a b, X, W, c, s, g, h => by
    simp only [okE] at h; split at h
    · simp only [Bool.and_eq_true] at h
      exact both (PE.frz (rl_ladd (sndB g h.1 (snd a g h.1).1) (sndB g h.2 (snd b g h.2).1))) fun _ => rfl
    · cases h
  | .neg a, X, W, c, s, g, h => by simp [okE] at h
  | .not a, X, W, c, s, g, h => by
    simp only [okE] at h; split at h
    · exact ⟨rl_not (snd a g h).2 (snd a g h).1, rt_not (snd a g h).2⟩
    · cases h
  | .and a b, X, W, c, s, g, h => by
    simp only [okE] at h; split at h
    · simp only [Bool.and_eq_true] at h
      exact ⟨rl_and (snd a g h.1).1 (pe_one (snd b g h.2).1), (rt_and (snd a g h.1).2 (pw_and1 (snd b g h.2).2)).pt⟩
    · simp only [Bool.and_eq_true] at h
      exact ⟨rl_and (snd a g h.1).1 (snd b g h.2).1, (rt_and (snd a g h.1).2 (pw_any (snd b g h.2).2)).pt⟩
    · cases h
  | .or a b, X, W, c, s, g, h => by
    simp only [okE] at h; split at h
    · simp only [Bool.and_eq_true] at h
      exact ⟨rl_or (snd a g h.1).1 (pe_one (snd b g h.2).1), (rt_or (snd a g h.1).2 (pw_or1 (snd b g h.2).2)).pt⟩
    · simp only [Bool.and_eq_true] at h
      exact ⟨rl_or (snd a g h.1).1 (snd b g h.2).1, (rt_or (snd a g h.1).2 (pw_any (snd b g h.2).2)).pt⟩
    · cases h
  | .cmp o a b, X, W, c, s, g, h => by
    simp only [okE] at h; split at h
    · simp only [Bool.and_eq_true] at h
      obtain ⟨⟨⟨h1, h2⟩, h3⟩, h4⟩ := h
      have hu : X.A.units + 64 < cLine := by have := g.un; omega
      exact ⟨rl_cmp (sndB g h2 (snd a g h2).1) (sndB g h3 (snd b g h3).1) (op_cmp hu o _ h1) h4, rt_cmp (sndB g h2 (snd a g h2).1) (sndB g h3 (snd b g h3).1) (op_cmp hu o _ h1) h4⟩
    · cases h
  | .chain o o' a b d, X, W, c, s, g, h => by
    simp only [okE] at h; split at h
    · simp only [Bool.and_eq_true] at h
      obtain ⟨⟨⟨⟨⟨⟨h1, h2⟩, h3⟩, h4⟩, h5⟩, h6⟩, h7⟩ := h
      have hu : X.A.units + 64 < cLine := by have := g.un; omega
      exact ⟨rl_chain (sndB g h3 (snd a g h3).1) (sndB g h4 (snd b g h4).1) (sndB g h5 (snd d g h5).1) (op_cmp hu o _ h1) (op_cmp hu o' _ h2) h7, rt_chain (sndB g h3 (snd a g h3).1) (sndB g h4 (snd b g h4).1) (sndB g h5 (snd d g h5).1) (op_cmp hu o _ h1) (op_cmp hu o' _ h2) h7⟩
    · cases h
  | .ite t a b, X, W, c, s, g, h => by
    simp only [okE] at h; split at h
    · simp only [Bool.and_eq_true] at h
      obtain ⟨⟨h1, h2⟩, h3⟩ := h
      exact ⟨rl_ite (snd t g h1).2 (snd a g h2).1 (snd b g h3).1, rt_ite (snd t g h1).2 (snd a g h2).2 (snd b g h3).2⟩
    · cases h
  | .call f es, X, W, c, s, g, h => by
    simp only [okE] at h; split at h
    · simp only [Bool.and_eq_true, decide_eq_true_eq] at h
      obtain ⟨⟨h1, h2⟩, h3⟩ := h
      refine both (rl_call g h1 h2 (sndA es g h3) (fun e0 σ m => ?_) (plAll h3)) fun _ => rfl
      subst e0
      cases es with
      | nil => rfl
      | cons _ _ => simp [okEs] at h3
    · cases h
  | .callk f es ks perm, X, W, c, s, g, h => by
    simp only [okE] at h; split at h
    · simp only [Bool.and_eq_true, decide_eq_true_eq, List.any_eq_true] at h
      obtain ⟨⟨⟨⟨⟨h1, h2⟩, h3⟩, h4⟩, h5⟩, q, h6, h7⟩ := h
      subst h7
      refine both (rl_callk g h1 h2 (sndA es g h3) (fun e0 σ m => ?_) (plAll h3) (sndK ks g h4) (kws_some h5) h6 (fun σ m us m' hu => evEs_len' h3 hu) (fun σ m us m' hu => ?_)) fun _ => rfl
      · subst e0
        cases es with
        | nil => rfl
        | cons _ _ => simp [okEs] at h3
      · rw [evEs_len' h4 hu, List.length_map]
        have := congrArg List.length (kws_some h5)
        rw [List.length_map, List.length_map] at this
        exact this
    · cases h
  | .b1 f a, X, W, c, s, g, h => by
    simp only [okE] at h; split at h
    · simp only [Bool.and_eq_true, decide_eq_true_eq] at h
      obtain ⟨⟨⟨h1, h2⟩, h3⟩, h4⟩ := h
      exact both (rl_b1 g h1 h2 (sndB g h3 (snd a g h3).1) h4) fun _ => rfl
    · cases h
  | .b2 f a b, X, W, c, s, g, h => by
    simp only [okE] at h; split at h
    · simp only [Bool.and_eq_true, decide_eq_true_eq] at h
      obtain ⟨⟨⟨⟨⟨h1, h2⟩, h3⟩, h4⟩, h5⟩, h6⟩ := h
      exact both (rl_b2 g h1 h2 (snd a g h3).1 (snd b g h5).1 h4 h6) fun _ => rfl
    · cases h
  | .isi a k, X, W, c, s, g, h => by
    simp only [okE] at h; split at h
    · simp only [Bool.and_eq_true, decide_eq_true_eq] at h
      obtain ⟨⟨⟨⟨rfl, h2⟩, h3⟩, h4⟩, h5⟩ := h
      exact both (rl_isi g h2 (snd a g h3).1 h4 h5) fun _ => rfl
    · cases h
  | .isi2 a k k', X, W, c, s, g, h => by
    simp only [okE] at h; split at h
    · simp only [Bool.and_eq_true, decide_eq_true_eq] at h
      obtain ⟨⟨⟨⟨⟨rfl, h2⟩, h3⟩, h4⟩, h5⟩, h6⟩ := h
      exact both (rl_isi2 g h2 (snd a g h3).1 h4 h5 h6) fun _ => rfl
    · cases h
  | .ix a i, X, W, c, s, g, h => by
    simp only [okE] at h; split at h
    · simp only [Bool.and_eq_true] at h
      obtain ⟨⟨h1, h2⟩, h3⟩ := h
      exact both (rl_ix (by have := g.un; omega) (sndB g h1 (snd a g h1).1) (snd i g h2).1 h3) fun _ => rfl
    · cases h
  | .rev a, X, W, c, s, g, h => by simp [okE] at h
  | .gd o x kvs nks a, X, W, c, s, g, h => by simp [okE] at h
  | .sl a lo hi, X, W, c, s, g, h => by
    simp only [okE] at h; split at h
    · rename_i v l u p1 p2
      simp only [Bool.and_eq_true] at h
      obtain ⟨⟨h1, h2⟩, h3⟩ := h
      refine both (rl_sl (sndB g h1 (snd a g h1).1) ?_ ?_) fun _ => rfl
      · cases l with
        | none =>
          cases lo <;> simp only [okO, Bool.false_eq_true] at h2
          exact ro_no
        | some x =>
          have hx : okE G N lo c x = true := h2
          have e : oA lo (evE C lo) = fun σ m => ((evE C lo σ m).bind asInt).bind fun i m1 => .ok (some i) m1 := by
            cases lo <;> first | rfl | (simp only [okE, Bool.false_eq_true] at hx)
          show PO X (some x) (tO X.K XR W (oA lo (evE C lo)))
          rw [e]
          exact ro_some (snd lo g hx).1
      · cases u with
        | none =>
          cases hi <;> simp only [okO, Bool.false_eq_true] at h3
          exact ro_no
        | some x =>
          have hx : okE G N hi c x = true := h3
          have e : oA hi (evE C hi) = fun σ m => ((evE C hi σ m).bind asInt).bind fun i m1 => .ok (some i) m1 := by
            cases hi <;> first | rfl | (simp only [okE, Bool.false_eq_true] at hx)
          show PO X (some x) (tO X.K XR W (oA hi (evE C hi)))
          rw [e]
          exact ro_some (snd hi g hx).1
    · cases h
  | .comp elt tg it cond own, X, W, c, s, g, h => by
    simp only [okE] at h; split at h
    · simp only [Bool.and_eq_true] at h
      obtain ⟨⟨⟨⟨⟨⟨h1, h2⟩, h3⟩, h4⟩, h5⟩, h6⟩, h7⟩ := h
      refine both (PE.frz (rl_comp g (sndI it g h2) h1 h3 h4 h5 (fun X' g' e => by rw [← e]; exact (snd elt g' h6).1) fun X' g' e => by
        rw [← e]
        refine condOk ?_
        split at h7
        · exact h7
        · simp only [Bool.and_eq_true, Bool.not_eq_true'] at h7
          exact ⟨h7.1, (snd cond g' h7.2).2⟩
        · cases h7)) fun _ => rfl
    · cases h
  | .comp2 elt tg it tg' it' cond own, X, W, c, s, g, h => by
    simp only [okE] at h; split at h
    · simp only [Bool.and_eq_true] at h
      obtain ⟨⟨⟨⟨⟨⟨⟨⟨⟨⟨h1, h2⟩, h3⟩, h4⟩, h5⟩, h6⟩, h7⟩, h8⟩, h9⟩, h10⟩, h11⟩ := h
      refine both (PE.frz (rl_comp2 g (sndI it g h2) h1 h3 h4 h5 (fun X' g' e => by rw [← e]; exact sndI it' g' h6) h7 h8 h9 (fun X' g' e => by rw [← e]; exact (snd elt g' h10).1) fun X' g' e => by
        rw [← e]
        refine condOk ?_
        split at h11
        · exact h11
        · simp only [Bool.and_eq_true, Bool.not_eq_true'] at h11
          exact ⟨h11.1, (snd cond g' h11.2).2⟩
        · cases h11)) fun _ => rfl
    · cases h
  | .no, X, W, c, s, g, h => by simp [okE] at h
theorem sndA : ∀ (es : Es) {X : Cx} {W : WX} {c : Sc} {ss : List Expr}, GX G N C XR X W c → okEs G N es c ss = true → PA X ss (tL X.K XR W (evEs C es))
  | .nil, X, W, c, ss, g, h => by
    cases ss with
    | nil => exact ra_nil
    | cons _ _ => simp [okEs] at h
  | .cons e es, X, W, c, ss, g, h => by
    cases ss with
    | nil => simp [okEs] at h
    | cons x xs =>
      simp only [okEs, Bool.and_eq_true] at h
      exact ra_cons (snd e g h.1.1).1 (sndA es g h.2) h.1.2
theorem sndK : ∀ (es : Es) {X : Cx} {W : WX} {c : Sc} {kws : List Keyword}, GX G N C XR X W c → okEs G N es c (kws.map (·.value)) = true → PK X kws (tL X.K XR W (evEs C es))
  | .nil, X, W, c, kws, g, h => by
    cases kws with
    | nil => exact rk_nil
    | cons _ _ => simp [okEs] at h
  | .cons e es, X, W, c, kws, g, h => by
    cases kws with
    | nil => simp [okEs] at h
    | cons x xs =>
      obtain ⟨nm, v, kp⟩ := x
      simp only [List.map_cons, okEs, Bool.and_eq_true] at h
      exact rk_cons (snd e g h.1.1).1 (sndK es g h.2)
theorem sndI : ∀ (it : It) {X : Cx} {W : WX} {c : Sc} {t i : Expr}, GX G N C XR X W c → okI G N it c t i = true → PI X t i (tI X.K XR W (evI C it))
  | .seq e, X, W, c, t, i, g, h => by
    simp only [okI] at h
    exact ri_seq (snd e g h).1
  | .rng1 a, X, W, c, t, i, g, h => by
    simp only [okI] at h; split at h
    · simp only [Bool.and_eq_true, decide_eq_true_eq] at h
      obtain ⟨⟨⟨rfl, h2⟩, h3⟩, h4⟩ := h
      exact ri_rng1 g h2 (snd a g h3).1 h4
    · cases h
  | .rng2 a b, X, W, c, t, i, g, h => by
    simp only [okI] at h; split at h
    · simp only [Bool.and_eq_true, decide_eq_true_eq] at h
      obtain ⟨⟨⟨⟨⟨rfl, h2⟩, h3⟩, h4⟩, h5⟩, h6⟩ := h
      exact ri_rng2 g h2 (snd a g h3).1 h4 (snd b g h5).1 h6
    · cases h
  | .enum a, X, W, c, t, i, g, h => by
    simp only [okI] at h; split at h
    · simp only [Bool.and_eq_true, decide_eq_true_eq] at h
      obtain ⟨⟨⟨⟨rfl, h2⟩, h3⟩, h4⟩, h5⟩ := h
      exact ri_enum g h2 (snd a g h3).1 h4 h5
    · cases h
  | .zip2 a b, X, W, c, t, i, g, h => by
    simp only [okI] at h; split at h
    · simp only [Bool.and_eq_true, decide_eq_true_eq] at h
      obtain ⟨⟨⟨⟨⟨⟨rfl, h2⟩, h3⟩, h4⟩, h5⟩, h6⟩, h7⟩ := h
      exact ri_zip g h2 (snd a g h3).1 h4 (snd b g h5).1 h6 h7
    · cases h
end
end
end Eng

set_option Elab.async false
set_option linter.all false
set_option maxRecDepth 100000
set_option maxHeartbeats 1000000
/-! Statements: the state, outcomes. -/
namespace Eng
open PySem PySem.Spec PyProof.Rows L2

/-- where a def's run began -/
structure Bs where
  H : Hp
  Hf : Hp
  ρ : List Addr
  Hb : Hp
structure StAt (K : PySem.W.Frag) (B : Bs) (σ : L2.St) (H Hf : Hp) (ρ : List Addr) (ω : Nat → Addr) (env : Env) (m : Mem) : Prop where
  fine0 : ∃ m0, Fine K B.H B.Hf B.ρ m0
  pres : Pres B.H B.Hf B.ρ H Hf ρ
  low : Sub B.Hb Hf
  at_ : At K H σ Hf ρ ω env m
  new : ∀ i xs, env[i]? = some (.own xs) → B.H (ω i) = none
def endF (D : Ends) (K : PySem.W.Frag) (σ : L2.St) (H Hf : Hp) (ρ : List Addr) : F → Prop
  | .nx => D.nx σ H
  | .brk => D.bk σ H
  | .cnt => D.ct σ H
  | .ret u => ∀ v, RepU K Hf ρ v u → D.rt v H
def OutS (K : PySem.W.Frag) (XR : XRel) (W : WX) (B : Bs) (D : Ends) (r : R (F × Env)) : Prop :=
  match r with
  | .ok x m' => ∀ σ' H' Hf' ρ' ω', StAt K B σ' H' Hf' ρ' ω' x.2 m' → endF D K σ' H' Hf' ρ' x.1
  | .exc c x m' => ∀ cls d σ' H' Hf' ρ', Pres B.H B.Hf B.ρ H' Hf' ρ' → Fine K H' Hf' ρ' m' → XR H' Hf' ρ' c x cls d → W cls d σ' H'
  | .bad => False
def tS (K : PySem.W.Frag) (XR : XRel) (W : WX) (f : Env → Mem → R (F × Env)) : TS := fun D σ H => ∃ B Hf ρ ω env m, StAt K B σ H Hf ρ ω env m ∧ OutS K XR W B D (f env m)
section
variable {α β : Type} {K : PySem.W.Frag} {XR : XRel} {W : WX} {B : Bs} {D : Ends} {σ : L2.St} {H Hf : Hp} {ρ : List Addr} {ω : Nat → Addr} {env : Env} {m : Mem} {Rp : Hp → Hp → List Addr → β → α → Prop}
theorem StAt.step (s : StAt K B σ H Hf ρ ω env m) {H' Hf' : Hp} {ρ' : List Addr} {m' : Mem} (p : Pres H Hf ρ H' Hf' ρ') (f : Fine K H' Hf' ρ' m') : StAt K B σ H' Hf' ρ' ω env m' :=
  ⟨s.fine0, s.pres.trans p, s.low.trans p.fz, s.at_.pres p f, s.new⟩
theorem OutS.bindE {r : R α} {k : α → Mem → R (F × Env)} (s : StAt K B σ H Hf ρ ω env m) (h : OutS K XR W B D (r.bind k)) :
    OutE K XR W σ H Hf ρ Rp r fun v H1 => ∃ u Hf1 ρ1 m1, Pres H Hf ρ H1 Hf1 ρ1 ∧ StAt K B σ H1 Hf1 ρ1 ω env m1 ∧ Rp H1 Hf1 ρ1 v u ∧ OutS K XR W B D (k u m1) := by
  cases r with
  | ok u m' => exact fun v H' Hf' ρ' p f r => ⟨u, Hf', ρ', m', p, s.step p f, r, h⟩
  | exc c x m' => exact fun cls d H' Hf' ρ' p f x => h cls d σ H' Hf' ρ' (s.pres.trans p) f x
  | bad => exact h
/-- an expression first -/
theorem StAt.bindE {f : Env → Mem → R α} {k : α → Mem → R (F × Env)} (s : StAt K B σ H Hf ρ ω env m) (h : OutS K XR W B D ((f env m).bind k)) :
    tR K XR W Rp f σ H fun v H1 => ∃ u Hf1 ρ1 m1, Pres H Hf ρ H1 Hf1 ρ1 ∧ StAt K B σ H1 Hf1 ρ1 ω env m1 ∧ Rp H1 Hf1 ρ1 v u ∧ OutS K XR W B D (k u m1) :=
  ⟨Hf, ρ, ω, env, m, s.at_, OutS.bindE s h⟩
theorem StAt.bindF {f : Env → Mem → R U} {k : U → Mem → R (F × Env)} (s : StAt K B σ H Hf ρ ω env m) (h : OutS K XR W B D ((f env m).bind k)) :
    tF K XR W f σ H fun v H1 => ∃ u Hf1 ρ1 m1, Pres H Hf ρ H1 Hf1 ρ1 ∧ StAt K B σ H1 Hf1 ρ1 ω env m1 ∧ RF K H H1 Hf1 ρ1 v u ∧ OutS K XR W B D (k u m1) :=
  ⟨Hf, ρ, ω, env, m, s.at_, OutS.bindE s h⟩
theorem OutS.bindS {r : R (F × Env)} {k : F × Env → Mem → R (F × Env)} (h : OutS K XR W B D (r.bind k)) {D' : Ends}
    (hk : ∀ x m' σ' H' Hf' ρ' ω', r = .ok x m' → StAt K B σ' H' Hf' ρ' ω' x.2 m' → OutS K XR W B D (k x m') → endF D' K σ' H' Hf' ρ' x.1) : OutS K XR W B D' r := by
  cases r with
  | ok x m' => exact fun σ' H' Hf' ρ' ω' s => hk x m' σ' H' Hf' ρ' ω' rfl s h
  | exc c x m' => exact h
  | bad => exact h
theorem StAt.ok {x : F × Env} (s : StAt K B σ H Hf ρ ω x.2 m) (h : OutS K XR W B D (.ok x m)) : endF D K σ H Hf ρ x.1 := h σ H Hf ρ ω s
theorem setE_some {env env' : Env} {i : Nat} {sl : Sl} (h : setE env i sl = some env') : i < env.length ∧ env' = env.set i sl := by
  unfold setE at h
  split at h
  · cases h; exact ⟨by assumption, rfl⟩
  · cases h
theorem StAt.setV (s : StAt K B σ H Hf ρ ω env m) {i : Nat} {v : V} {u : U} (hi : i < env.length) (r : RepU K Hf ρ v u) : StAt K B (σ.set i (some v)) H Hf ρ ω (env.set i (.v u)) m :=
  ⟨s.fine0, s.pres, s.low, ⟨s.at_.fine, s.at_.slots.setV hi r⟩, fun j xs e => s.new j xs (set_own (fun _ e => by cases e) e)⟩
theorem set_get_own {env : Env} {i j : Nat} {xs ys : List PyData} (h : (env.set i (.own xs))[j]? = some (.own ys)) : (j = i ∧ ys = xs ∧ i < env.length) ∨ (j ≠ i ∧ env[j]? = some (.own ys)) := by
  rw [List.getElem?_set] at h
  by_cases hj : i = j
  · subst hj
    rw [if_pos rfl] at h
    split at h
    · cases h; exact .inl ⟨rfl, rfl, by assumption⟩
    · cases h
  · rw [if_neg hj] at h; exact .inr ⟨Ne.symm hj, h⟩
/-- a name gets a list of its own -/
theorem StAt.setOwn (s : StAt K B σ H Hf ρ ω env m) {i : Nat} {p : Addr} {vs : List V} {xs : List PyData} (hi : i < env.length) (h1 : H p = some (.lst vs)) (h2 : Hf p = none) (h3 : p ∉ ρ) (h4 : DpAll K Hf vs xs) (h5 : szOk (.list xs) = true)
    (h6 : ∀ j ys, env[j]? = some (.own ys) → ω j ≠ p) (h7 : B.H p = none) : StAt K B (σ.set i (some (.ref p))) H Hf ρ (fun j => if j = i then p else ω j) (env.set i (.own xs)) m := by
  have hl : i < σ.length := by rw [s.at_.slots.len]; exact hi
  refine ⟨s.fine0, s.pres, s.low, ⟨s.at_.fine, ⟨by rw [List.length_set, List.length_set]; exact s.at_.slots.len, fun j w e => ?_, fun j ys e => ?_, fun j k ys zs e e' he => ?_⟩⟩, fun j ys e => ?_⟩
  · rw [List.getElem?_set] at e ⊢
    by_cases hj : i = j
    · subst hj; rw [if_pos rfl, if_pos hi] at e; cases e
    · rw [if_neg hj] at e ⊢; exact s.at_.slots.val j w e
  · rcases set_get_own e with ⟨rfl, rfl, _⟩ | ⟨hj, e⟩
    · rw [List.getElem?_set, if_pos rfl, if_pos hl, if_pos rfl]
      exact ⟨rfl, h2, h3, ⟨vs, h1, h4⟩, h5⟩
    · rw [List.getElem?_set, if_neg (Ne.symm hj), if_neg hj]
      exact s.at_.slots.own j ys e
  · rcases set_get_own e with ⟨rfl, rfl, _⟩ | ⟨hj, ea⟩ <;> rcases set_get_own e' with ⟨rfl, rfl, _⟩ | ⟨hk, eb⟩
    · rfl
    · rw [if_pos rfl, if_neg hk] at he; exact absurd he.symm (h6 k zs eb)
    · rw [if_pos rfl, if_neg hj] at he; exact absurd he (h6 j ys ea)
    · rw [if_neg hj, if_neg hk] at he; exact s.at_.slots.inj j k ys zs ea eb he
  · rcases set_get_own e with ⟨rfl, rfl, _⟩ | ⟨hj, e⟩
    · rw [if_pos rfl]; exact h7
    · rw [if_neg hj]; exact s.new j ys e
theorem StAt.own_ne (s : StAt K B σ H Hf ρ ω env m) {p : Addr} (h : H p = none) {j : Nat} {ys : List PyData} (e : env[j]? = some (.own ys)) : ω j ≠ p := by
  obtain ⟨_, _, _, ⟨vs, e2, _⟩, _⟩ := s.at_.slots.own j ys e
  exact ne_of_none e2 h
theorem StAt.base_none (s : StAt K B σ H Hf ρ ω env m) {p : Addr} (h : H p = none) : B.H p = none := by
  obtain ⟨m0, f0⟩ := s.fine0
  exact Pres.none s.pres f0 s.at_.fine h
/-- a list of a name's own is written -/
theorem StAt.write (s : StAt K B σ H Hf ρ ω env m) {i : Nat} {vs : List V} {xs ys : List PyData} (e : env[i]? = some (.own xs)) (h4 : DpAll K Hf vs ys) (h5 : szOk (.list ys) = true) : StAt K B σ (upd H (ω i) (.lst vs)) Hf ρ ω (env.set i (.own ys)) m := by
  obtain ⟨q1, q2, q3, q4, q5⟩ := s.at_.slots.own i xs e
  have hn := s.new i xs e
  have hi : i < env.length := (List.getElem?_eq_some_iff.mp e).1
  refine ⟨s.fine0, ⟨s.pres.fz, s.pres.pre, fun a o h h1 h2 => ?_⟩, s.low, ⟨s.at_.fine.poke q2 q3, ⟨by rw [List.length_set]; exact s.at_.slots.len, fun j w e' => ?_, fun j zs e' => ?_, fun j k us zs e1 e2 he => ?_⟩⟩, fun j zs e' => ?_⟩
  · obtain ⟨a1, a2, a3⟩ := s.pres.kp a o h h1 h2
    exact ⟨by rw [upd_ne (ne_of_none h hn)]; exact a1, a2, a3⟩
  · rw [List.getElem?_set] at e'
    by_cases hj : i = j
    · subst hj; rw [if_pos rfl, if_pos hi] at e'; cases e'
    · rw [if_neg hj] at e'; exact s.at_.slots.val j w e'
  · rcases set_get_own e' with ⟨rfl, rfl, _⟩ | ⟨hj, e'⟩
    · exact ⟨q1, q2, q3, ⟨vs, upd_same, h4⟩, h5⟩
    · obtain ⟨a1, a2, a3, ⟨ws, a4, a5⟩, a6⟩ := s.at_.slots.own j zs e'
      exact ⟨a1, a2, a3, ⟨ws, by rw [upd_ne fun z => hj (s.at_.slots.inj j i zs xs e' e z)]; exact a4, a5⟩, a6⟩
  · rcases set_get_own e1 with ⟨rfl, rfl, _⟩ | ⟨hj, ea⟩ <;> rcases set_get_own e2 with ⟨rfl, rfl, _⟩ | ⟨hk, eb⟩
    · rfl
    · exact s.at_.slots.inj _ _ _ _ e eb he
    · exact s.at_.slots.inj _ _ _ _ ea e he
    · exact s.at_.slots.inj _ _ _ _ ea eb he
  · rcases set_get_own e' with ⟨rfl, rfl, _⟩ | ⟨hj, e'⟩
    · exact hn
    · exact s.new j zs e'
/-- .. is frozen -/
theorem StAt.frz (s : StAt K B σ H Hf ρ ω env m) {i : Nat} {xs : List PyData} (e : env[i]? = some (.own xs)) : ∃ Hf', StAt K B σ H Hf' ρ ω (env.set i (.v (.dat (.list xs)))) m := by
  obtain ⟨q1, q2, q3, ⟨vs, q4, q5⟩, q6⟩ := s.at_.slots.own i xs e
  have hn := s.new i xs e
  have hi : i < env.length := (List.getElem?_eq_some_iff.mp e).1
  have sb : Sub Hf (upd Hf (ω i) (.lst vs)) := Sub.new q2
  refine ⟨upd Hf (ω i) (.lst vs), s.fine0, ⟨s.pres.fz.trans sb, s.pres.pre, fun a o h h1 h2 => ?_⟩, s.low.trans sb, ⟨s.at_.fine.freeze q4 q2 q3, ⟨by rw [List.length_set]; exact s.at_.slots.len, fun j w e' => ?_, fun j zs e' => ?_, fun j k us zs e1 e2 he => ?_⟩⟩, fun j zs e' => ?_⟩
  · obtain ⟨a1, a2, a3⟩ := s.pres.kp a o h h1 h2
    exact ⟨a1, by rw [upd_ne (ne_of_none h hn)]; exact a2, a3⟩
  · rw [List.getElem?_set] at e'
    by_cases hj : i = j
    · subst hj; rw [if_pos rfl, if_pos hi] at e'; cases e'
      exact ⟨_, q1, .lst (.inl (.inl upd_same)) (DpAll.mono sb _ _ q5), q6⟩
    · rw [if_neg hj] at e'
      obtain ⟨v, a1, a2⟩ := s.at_.slots.val j w e'
      refine ⟨v, a1, ?_⟩
      cases w with
      | dat d => exact ⟨Dp.mono sb _ _ a2.1, a2.2⟩
      | ref k => exact a2
  · have hj : i ≠ j := fun z => by subst z; rw [List.getElem?_set, if_pos rfl, if_pos hi] at e'; cases e'
    have e'' := set_own (fun _ e => by cases e) e'
    obtain ⟨a1, a2, a3, ⟨ws, a4, a5⟩, a6⟩ := s.at_.slots.own j zs e''
    exact ⟨a1, by rw [upd_ne fun z => hj (s.at_.slots.inj j i zs xs e'' e z).symm]; exact a2, a3, ⟨ws, a4, DpAll.mono sb _ _ a5⟩, a6⟩
  · exact s.at_.slots.inj j k us zs (set_own (fun _ e => by cases e) e1) (set_own (fun _ e => by cases e) e2) he
  · exact s.new j zs (set_own (fun _ e => by cases e) e')
/-- an object that is shared is written -/
theorem StAt.setN (s : StAt K B σ H Hf ρ ω env m) {q : Nat} {a : Addr} {w : HO} {ob' : MObj} (e : ρ[q]? = some a) (hob : MAt K (upd H a w) Hf ρ a ob') : StAt K B σ (upd H a w) Hf ρ ω env (m.set q ob') := by
  have hm : a ∈ ρ := List.mem_of_getElem? e
  have hf : Hf a = none := s.at_.fine.un a hm
  have hq : q < ρ.length := (List.getElem?_eq_some_iff.mp e).1
  refine ⟨s.fine0, ⟨s.pres.fz, s.pres.pre, fun b o h h1 h2 => ?_⟩, s.low, ⟨⟨fun b x eb => ?_, s.at_.fine.nd, s.at_.fine.un, by rw [List.length_set]; exact s.at_.fine.len, fun i b ob e1 e2 => ?_⟩, ⟨s.at_.slots.len, s.at_.slots.val, fun j zs e' => ?_, s.at_.slots.inj⟩⟩, s.new⟩
  · obtain ⟨a1, a2, a3⟩ := s.pres.kp b o h h1 h2
    exact ⟨by rw [upd_ne fun z => a3 (by rw [z]; exact hm)]; exact a1, a2, a3⟩
  · have : b ≠ a := fun z => by rw [z, hf] at eb; cases eb
    rw [upd_ne this]; exact s.at_.fine.sub _ _ eb
  · by_cases hi : q = i
    · subst hi
      rw [e] at e1; cases e1
      rw [List.getElem?_set, if_pos rfl, if_pos (by rw [← s.at_.fine.len]; exact hq)] at e2
      cases e2
      exact hob
    · rw [List.getElem?_set, if_neg hi] at e2
      have hb : b ≠ a := fun z => by
        subst z
        have hil : i < ρ.length := (List.getElem?_eq_some_iff.mp e1).1
        have h1 := (List.getElem?_eq_some_iff.mp e).2
        have h2 := (List.getElem?_eq_some_iff.mp e1).2
        exact hi ((List.getElem_inj s.at_.fine.nd).mp (h1.trans h2.symm))
      have k := s.at_.fine.at_ i b ob e1 e2
      cases ob with
      | lst xs => obtain ⟨ws, k1, k2, k3⟩ := k; exact ⟨ws, by rw [upd_ne hb]; exact k1, k2, k3⟩
      | dct xs => obtain ⟨ws, k1, k2, k3⟩ := k; exact ⟨ws, by rw [upd_ne hb]; exact k1, k2, k3⟩
      | inst c fs => exact k
  · obtain ⟨a1, a2, a3, ⟨ws, a4, a5⟩, a6⟩ := s.at_.slots.own j zs e'
    exact ⟨a1, a2, a3, ⟨ws, by rw [upd_ne fun z => a3 (by rw [z]; exact hm)]; exact a4, a5⟩, a6⟩
theorem StAt.setM (s : StAt K B σ H Hf ρ ω env m) {q : Nat} {a : Addr} {vs : List V} {ys : List PyData} (e : ρ[q]? = some a) (h4 : DpAll K Hf vs ys) (h5 : szOk (.list ys) = true) : StAt K B σ (upd H a (.lst vs)) Hf ρ ω env (m.set q (.lst ys)) :=
  s.setN e ⟨vs, upd_same, h4, h5⟩
end
end Eng

set_option Elab.async false
set_option linter.all false
set_option maxRecDepth 100000
set_option maxHeartbeats 1000000
/-! Statements: the check, the rules. -/
namespace Eng
open PySem PySem.Spec PyProof.Rows L2

def noLc : Expr → Bool
  | .ListComp .. => false
  | .SetComp .. => false
  | .DictComp .. => false
  | _ => true
def isF : E → Bool
  | .lst _ => true
  | .lmul _ _ => true
  | .ladd _ _ => true
  | .comp .. => true
  | .comp2 .. => true
  | .b1 .list _ => true
  | _ => false
def kindB (c : Sc) : Bool := match c.sc.kind with
  | .function => true
  | _ => false
def swC (c : Sc) (x : Str) (px : Pos) : Expr → Bool
  | .ListComp _ _ scope vp => (px.line == vp.line) && decide (c.sc.names.lookup x = some .local) && !(scope.names.any fun (n, k) => n == x && (k == .local || k == .cell)) && kindB c
  | v => noLc v
def parB (N : List Str) (c : Sc) (i j : Nat) (x y : Str) (px py : Pos) (l r : Expr) : Bool :=
  decide (N[i]? = some x) && decide (N[j]? = some y) && decide (i ≠ j) && decide (c.sc.names.lookup x = some .local) && decide (c.sc.names.lookup y = some .local) && (py.line == px.line) && !(y == x) && kindB c &&
    !(foldedForSure 8 l && foldedForSure 8 r) && !(constantsAlone 8 l && constantsAlone 8 r) && pl l && pl r
def par3B (N : List Str) (c : Sc) (i j k : Nat) (x y z : Str) (px py pz : Pos) (l r t : Expr) : Bool :=
  decide (N[i]? = some x) && decide (N[j]? = some y) && decide (N[k]? = some z) && decide (i ≠ j) && decide (i ≠ k) && decide (j ≠ k) && decide (c.sc.names.lookup x = some .local) && decide (c.sc.names.lookup y = some .local) && decide (c.sc.names.lookup z = some .local) &&
    (py.line == px.line) && (pz.line == px.line) && !(y == x) && !(z == x) && !(z == y) && kindB c && !([l, r, t].all (foldedForSure 8)) && !([l, r, t].all (constantsAlone 8)) && pl l && pl r && pl t
def anyCell (c : Sc) (es : List Expr) : Bool := es.any fun
  | .Name x _ => decide (c.sc.names.lookup x = some .cell)
  | _ => false
theorem filterMap_lt {α β : Type} {f : α → Option β} : ∀ {l : List α}, (∃ x ∈ l, f x = none) → (l.filterMap f).length < l.length
  | [], h => by obtain ⟨x, hx, _⟩ := h; exact absurd hx (by simp)
  | y :: l, h => by
    have le : (l.filterMap f).length ≤ l.length := List.length_filterMap_le _ _
    rw [List.filterMap_cons]
    cases hy : f y with
    | none => simp only [List.length_cons]; omega
    | some z =>
      obtain ⟨x, hx, hn⟩ := h
      have : (l.filterMap f).length < l.length := filterMap_lt ⟨x, by
        rcases List.mem_cons.mp hx with e | hx
        · rw [e, hy] at hn; cases hn
        · exact hx, hn⟩
      simp only [List.length_cons]; omega
theorem sw_cell {c : Sc} {env : PySem.Env} {es : List Expr} {k : Nat} {tp : Pos} {v : Expr} (hs : env.scope = c.sc) (h : anyCell c es = true) : swappedStores [.Tuple es k tp] v env = pure none := by
  unfold swappedStores
  cases v <;> try rfl
  rename_i vs _ _
  dsimp only
  split
  · rfl
  · split
    · rfl
    · have key : ∀ line : Nat, (es.filterMap fun | .Name id pos => if env.kindOf id == some .local && pos.line == line then some id else none | _ => none).length < es.length := fun line => by
        refine filterMap_lt ?_
        obtain ⟨e, he, hc⟩ := List.any_eq_true.mp h
        refine ⟨e, he, ?_⟩
        cases e <;> try (simp at hc; done)
        rename_i x p
        have hc' : c.sc.names.lookup x = some .cell := of_decide_eq_true hc
        have kk : env.kindOf x = some .cell := by show env.scope.names.lookup x = _; rw [hs]; exact hc'
        simp [kk]
      have := key ((es.head?.map (·.pos.line)).getD 0)
      rw [if_pos (by
        rw [Bool.or_eq_true]
        exact .inl (by rw [bne_iff_ne]; exact Nat.ne_of_lt this))]
mutual
def okHE (G : Cfg) (N : List Str) (c : Sc) (n fld : Str) (k : Nat) : HE → Expr → Bool
  | .cst d, s => match s with | .Constant q _ _ => cstB d q | _ => false
  | .fld, s => match s with | .Attribute (.Name y _) f _ => decide (y = n) && decide (f = fld) | _ => false
  | .var j, s => match s with | .Name y _ => decide (N[j]? = some y) && visB c y | _ => false
  | .rep e, s => match s with | .Call (.Name y _) [a] [] _ => decide (y = "repr") && glB c y && okHE G N c n fld k e a && pl a | _ => false
  | .isx D b, s => match s with | .Call (.Name y _) [.Name z _, .Name w _] [] _ => decide (y = "isinstance") && glB c y && decide (z = n) && decide (w = D) && glB c w && G.ci.any (fun p => decide (p = (k, D, b))) | _ => false
  | .tup es, s => match s with | .Tuple elts _ _ => okHEs G N c n fld k es elts && decide (elts.length ≤ 1000) | _ => false
  | .lst es, s => match s with | .List elts _ => okHEs G N c n fld k es elts && decide (elts.length ≤ 1000) | _ => false
  | .cmp o a b, s => match s with | .Compare l [op] [r] _ => cmpB o op && okHE G N c n fld k a l && okHE G N c n fld k b r && pl r | _ => false
  | .and a b, s => match s with
    | .BoolOp .And [x, y] _ => okHE G N c n fld k a x && okHE G N c n fld k b y
    | .BoolOp .And (x :: y :: z :: r) pos => okHE G N c n fld k a x && okHE G N c n fld k b (.BoolOp .And (y :: z :: r) pos)
    | _ => false
  | .nt a, s => match s with | .UnaryOp .Not x _ => okHE G N c n fld k a x | _ => false
def okHEs (G : Cfg) (N : List Str) (c : Sc) (n fld : Str) (k : Nat) : HEs → List Expr → Bool
  | .nil, l => match l with | [] => true | _ => false
  | .cons e es, l => match l with | x :: r => okHE G N c n fld k e x && pl x && okHEs G N c n fld k es r | [] => false
end
def okHB (G : Cfg) (N : List Str) (c : Sc) (n fld : Str) (k : Nat) : HB → Expr → Bool
  | .ne a b, s => match s with | .Compare l [.NotEq] [r] _ => okHE G N c n fld k a l && okHE G N c n fld k b r && pl r | _ => false
  | .eq a b, s => match s with | .Compare l [.Eq] [r] _ => okHE G N c n fld k a l && okHE G N c n fld k b r && pl r | _ => false
  | .not b, s => match s with | .UnaryOp .Not x _ => okHB G N c n fld k b x | _ => false
  | .or a b, s => match s with | .BoolOp .Or [x, y] _ => okHB G N c n fld k a x && okHB G N c n fld k b y | _ => false
  | .isx D b, s => okHE G N c n fld k (.isx D b) s
def okHS (G : Cfg) (N : List Str) (c : Sc) (n fld : Str) (k : Nat) : List HS → List Stmt → Bool
  | [], l => match l with | [] => true | _ => false
  | .ife b e :: r, l => match l with | .If x [.Return (some v) _] [] _ :: l' => okHB G N c n fld k b x && okHE G N c n fld k e v && okHS G N c n fld k r l' | _ => false
  | .ret e :: _, l => match l with | [.Return (some v) _] => okHE G N c n fld k e v | _ => false
mutual
def okS (G : Cfg) (N : List Str) (c : Sc) : S → Stmt → Bool
  | .asg i e, s => match s with | .Assign [.Name x _] v _ => decide (N[i]? = some x) && locB c x && okE G N e c v && noLc v | _ => false
  | .own i e, s => match s with | .Assign [.Name x p] v _ => decide (N[i]? = some x) && locB c x && okE G N e c v && isF e && swC c x p v | _ => false
  | .frz _, _ => false
  | .asgT ts e, s => match s with | .Assign [.Tuple es _ _] v _ => okTgs N c ts es && okE G N e c v && (!isTp v || anyCell c es) | _ => false
  | .par2 i j a b, s => false
  | .par2o i j a b, s => match s with | .Assign [.Tuple [.Name x px, .Name y py] _ _] (.Tuple [l, r] _ _) _ => parB N c i j x y px py l r && okE G N a c l && okE G N b c r && isF b | _ => false
  | .par1o i j a b, s => match s with | .Assign [.Tuple [.Name x px, .Name y py] _ _] (.Tuple [l, r] _ _) _ => parB N c i j x y px py l r && okE G N a c l && okE G N b c r && isF a | _ => false
  | .asgTo i j a b, s => match s with | .Assign [.Tuple [.Name x px, .Name y py] _ _] (.Tuple [l, r] _ _) _ => anyCell c [.Name x px, .Name y py] && decide (N[i]? = some x) && decide (N[j]? = some y) && locB c x && locB c y && okE G N a c l && pl l && okE G N b c r && pl r && isF a | _ => false
  | .par2oo i j a b, s => false
  | .par3o i j k a b d, s => false
  | .augO i ix o e, s => false
  | .setOP i ix j e, s => false
  | .setO i ix e, s => match s with | .Assign [.Subscript (.Name x _) k _] v _ => decide (N[i]? = some x) && visB c x && okE G N ix c k && pl k && okE G N e c v | _ => false
  | .setM r ix e, s => match s with | .Assign [.Subscript o k _] v _ => okE G N r c o && okE G N ix c k && pl k && okE G N e c v | _ => false
  | .app i e, s => match s with | .Expr (.Call (.Attribute (.Name x _) nm ap) [v] [] cp) _ => decide (nm = "append") && decide (N[i]? = some x) && visB c x && okE G N e c v && pl v && (ap.endLine == cp.line) | _ => false
  | .ext i e, s => match s with | .Expr (.Call (.Attribute (.Name x _) nm ap) [v] [] cp) _ => decide (nm = "extend") && decide (N[i]? = some x) && visB c x && okE G N e c v && pl v && (ap.endLine == cp.line) && isF e | _ => false
  | .setO2 i ix ix2 e, s => match s with | .Assign [.Tuple [.Subscript (.Name x _) k _, .Subscript (.Name y _) k2 _] _ _] v _ => decide (N[i]? = some x) && decide (y = x) && visB c x && okE G N ix c k && pl k && okE G N ix2 c k2 && pl k2 && okE G N e c v && isTp v | _ => false
  | .popO i j, s => false
  | .aug i o e, s => false
  | .expr e, s => match s with | .Expr v _ => okE G N e c v && noLc v | _ => false
  | .ife k t f, s => match s with | .If x a b _ => okE G N k c x && okSs G N c t a && okSs G N c f b | _ => false
  | .for_ tg it body, s => match s with | .For t i b [] _ => okTg N c tg t && okI G N it c t i && pl i && okSs G N c body b | _ => false
  | .whl k body, s => false
  | .ret e, s => match s with | .Return (some v) _ => okE G N e c v | _ => false
  | .retN, s => match s with | .Return none _ => true | _ => false
  | .brk, s => match s with | .Break _ => true | _ => false
  | .cnt, s => match s with | .Continue _ => true | _ => false
  | .pass, s => match s with | .Pass _ => true | .Expr (.Constant (.str _) _ _) _ => true | _ => false
  | .raise k e, s => isNo e || (match s with
    | .Raise (some (.Call (.Name x _) [a] [] _)) none _ => (match G.cl[k]? with | some p => decide (p.1 = x) | none => false) && glB c x && okE G N e c a && pl a
    | _ => false)
  | .tryX md e i k hs, s => match s with
    | .Try body [.ExceptHandler (some (.Name x _)) (some n) (b :: suite) _] [] [] _ => decide (N[i]? = some n) && decide (c.sc.names.lookup n = some .local) && visB c n && glB c x &&
      (match G.cl[k]? with | some p => decide (p.1 = x) && okHS G N c n p.2 k hs (b :: suite) | none => false) &&
      (match md, body with
      | .ex, [.Expr v _] => okE G N e c v && noLc v
      | .exr d, [.Expr v _, .Return (some (.Constant q _ _)) _] => okE G N e c v && noLc v && cstB d q
      | .rt, [.Return (some v) _] => okE G N e c v
      | _, _ => false)
    | _ => false
def okSs (G : Cfg) (N : List Str) (c : Sc) : Ss → List Stmt → Bool
  | .nil, l => match l with | [] => true | _ => false
  | .cons s ss, l => match s with
    | .frz _ => okSs G N c ss l
    | _ => match l with
      | st :: r => okS G N c s st && okSs G N c ss r
      | [] => false
end
section
variable {G : Cfg} {N : List Str} {C : Calls} {XR : XRel} {X : Cx} {W : WX} {c : Sc} {L : Nat} {s e v : Expr} {pos : Pos}
/-- a fresh list -/
theorem sndF (g : GX G N C XR X W c) {a : E} (hf : isF a = true) (h : okE G N a c s = true) : PE X s (tF X.K XR W (evE C a)) := by
  cases a <;> simp only [isF, Bool.false_eq_true] at hf
  case lst es =>
    simp only [okE] at h; split at h
    · simp only [Bool.and_eq_true, decide_eq_true_eq] at h
      exact rl_lst (sndA es g h.1) fun σ m us m' hu => by rw [evEs_len' h.1 hu]; exact h.2
    · cases h
  case lmul es k =>
    simp only [okE] at h; split at h
    · simp only [Bool.and_eq_true, decide_eq_true_eq] at h
      obtain ⟨⟨h1, h2⟩, h3⟩ := h
      exact rl_lmul (rl_lst (sndA es g h1) fun σ m us m' hu => by rw [evEs_len' h1 hu]; exact h2) (snd k g h3).1
    · cases h
  case ladd a b =>
    simp only [okE] at h; split at h
    · simp only [Bool.and_eq_true] at h
      exact rl_ladd (sndB g h.1 (snd a g h.1).1) (sndB g h.2 (snd b g h.2).1)
    · cases h
  case b1 f a =>
    cases f <;> simp only [isF, Bool.false_eq_true] at hf
    simp only [okE] at h; split at h
    · simp only [Bool.and_eq_true, decide_eq_true_eq] at h
      obtain ⟨⟨⟨h1, h2⟩, h3⟩, h4⟩ := h
      subst h1
      exact rl_listF g h2 (sndB g h3 (snd a g h3).1) h4
    · cases h
  case comp elt tg it cond own =>
    simp only [okE] at h; split at h
    · simp only [Bool.and_eq_true] at h
      obtain ⟨⟨⟨⟨⟨⟨h1, h2⟩, h3⟩, h4⟩, h5⟩, h6⟩, h7⟩ := h
      refine (rl_comp g (sndI it g h2) h1 h3 h4 h5 (fun X' g' e => by rw [← e]; exact (snd elt g' h6).1) fun X' g' e => by
        rw [← e]
        refine condOk ?_
        split at h7
        · exact h7
        · simp only [Bool.and_eq_true, Bool.not_eq_true'] at h7
          exact ⟨h7.1, (snd cond g' h7.2).2⟩
        · cases h7)
    · cases h
  case comp2 elt tg it tg' it' cond own =>
    simp only [okE] at h; split at h
    · simp only [Bool.and_eq_true] at h
      obtain ⟨⟨⟨⟨⟨⟨⟨⟨⟨⟨h1, h2⟩, h3⟩, h4⟩, h5⟩, h6⟩, h7⟩, h8⟩, h9⟩, h10⟩, h11⟩ := h
      refine (rl_comp2 g (sndI it g h2) h1 h3 h4 h5 (fun X' g' e => by rw [← e]; exact sndI it' g' h6) h7 h8 h9 (fun X' g' e => by rw [← e]; exact (snd elt g' h10).1) fun X' g' e => by
        rw [← e]
        refine condOk ?_
        split at h11
        · exact h11
        · simp only [Bool.and_eq_true, Bool.not_eq_true'] at h11
          exact ⟨h11.1, (snd cond g' h11.2).2⟩
        · cases h11)
    · cases h
theorem GX.loc (g : GX G N C XR X W c) {x : Str} (h : locB c x = true) : Loc X.env.scope x ∧ (X.fn x = true ∨ X.env.scope.names.lookup x = some .local) := by
  unfold locB at h
  simp only [Bool.or_eq_true, Bool.and_eq_true, decide_eq_true_eq] at h
  rw [g.sc, g.fn]
  rcases h with h2 | ⟨h2, h3⟩
  · exact ⟨.inl h2, .inr h2⟩
  · exact ⟨.inr h2, .inl h3⟩
theorem sw_no {t : Option Expr} {l : Nat} {env : PySem.Env} (h : noLc v = true) : swapsWith v t l env = pure false := by
  cases v <;> first | rfl | simp [noLc] at h
theorem sw_set (g : GX G N C XR X W c) {i : Nat} {x : Str} {p sp : Pos} {te : TE} (h1 : N[i]? = some x) (h2 : locB c x = true) (h3 : noLc v = true) (he : PE X v te) : PS X (.Assign [.Name x p] v sp) (tAsg te (gName i)) :=
  ps_set g.nd (by rw [g.hN]; exact h1) (g.loc h2).1 he (sw_no h3) (g.loc h2).2
theorem s_asg {fe : Env → Mem → R U} {i : Nat} {st : Stmt} (h : PS X st (tAsg (tU X.K XR W fe) (gName i))) : PS X st (tS X.K XR W fun σ m => (fe σ m).bind fun u m1 => match setE σ i (.v u) with
    | some σ' => .ok (.nx, σ') m1
    | none => .bad) :=
  PS.imp h fun D σ H ⟨B, Hf, ρ, ω, env, m, s, o⟩ => by
    obtain ⟨A, B', D', E, F', a1, o1⟩ := s.bindE (Rp := RU X.K) o
    refine ⟨A, B', D', E, F', a1, o1.mono fun v H1 ⟨u, Hf1, ρ1, m1, p, s1, r, o1⟩ => ?_⟩
    cases hs : setE env i (.v u) with
    | none => rw [hs] at o1; exact o1.elim
    | some env' =>
      rw [hs] at o1
      obtain ⟨hi, rfl⟩ := setE_some hs
      exact (s1.setV hi r).ok (x := (F.nx, _)) o1
theorem s_own {fe : Env → Mem → R U} {i : Nat} {st : Stmt} (h : PS X st (tAsg (tF X.K XR W fe) (gName i))) : PS X st (tS X.K XR W fun σ m => (fe σ m).bind fun u m1 => match u with
    | .dat (.list xs) => match setE σ i (.own xs) with
      | some σ' => .ok (.nx, σ') m1
      | none => .bad
    | _ => .bad) :=
  PS.imp h fun D σ H ⟨B, Hf, ρ, ω, env, m, s, o⟩ => by
    obtain ⟨A, B', D', E, F', a1, o1⟩ := s.bindF o
    refine ⟨A, B', D', E, F', a1, o1.mono fun v H1 ⟨u, Hf1, ρ1, m1, p, s1, r, o1⟩ => ?_⟩
    obtain ⟨q, vs, xs, rfl, rfl, h0, h1, h2, h3, h4, h5⟩ := r
    cases hs : setE env i (.own xs) with
    | none => simp only [hs] at o1; exact o1.elim
    | some env' =>
      simp only [hs] at o1
      obtain ⟨hi, rfl⟩ := setE_some hs
      exact (s1.setOwn hi h1 h2 h3 h4 h5 (fun j ys e => s.own_ne h0 e) (s.base_none h0)).ok (x := (F.nx, _)) o1
theorem s_asgT (g : GX G N C XR X W c) {fe : Env → Mem → R U} {ts : List Tg} {es : List Expr} {k : Nat} {tp sp : Pos} (ht : okTgs N c ts es = true) (he : PE X v (tU X.K XR W fe)) (hv : isTp v = false ∨ anyCell c es = true) : PS X (.Assign [.Tuple es k tp] v sp) (tS X.K XR W fun σ m => (fe σ m).bind fun u m1 => match u with
    | .dat (.tuple ds) => match asgTgs ts ds σ with
      | some σ' => .ok (.nx, σ') m1
      | none => .bad
    | _ => .bad) := by
  have hs : swapsWithSole [.Tuple es k tp] v sp.line X.env = pure false := by
    show swapsWith v (some (.Tuple es k tp)) sp.line X.env = _
    cases v <;> rfl
  have hw : swappedStores [.Tuple es k tp] v X.env = pure none := by
    rcases hv with hv | hv
    · cases v <;> first | rfl | (simp [isTp] at hv)
    · exact sw_cell g.sc hv
  refine PS.imp (ps_asg he (pg_T (tg := .tp ts) g ht) hs hw rfl) fun D σ H ⟨B, Hf, ρ, ω, env, m, s, o⟩ => ?_
  obtain ⟨A, B', D', E, F', a1, o1⟩ := s.bindE (Rp := RU X.K) o
  refine ⟨A, B', D', E, F', a1, o1.mono fun v H1 ⟨u, Hf1, ρ1, m1, p, s1, r, o1⟩ => ?_⟩
  cases u with
  | ref i => exact o1.elim
  | dat d =>
    cases d with
    | tuple ds =>
      simp only at o1
      cases ha : asgTgs ts ds env with
      | none => rw [ha] at o1; exact o1.elim
      | some env' =>
        rw [ha] at o1
        exact gT_ok (tg := .tp ts) s1.at_ r.1 r.2 ha fun σ' a' _ => StAt.ok (x := (F.nx, env')) ⟨s1.fine0, s1.pres, s1.low, a', fun j xs e => s1.new j xs (asgTgs_own ha e)⟩ o1
    | _ => exact (o1 : False).elim
end
end Eng

set_option Elab.async false
set_option linter.all false
set_option maxRecDepth 100000
set_option maxHeartbeats 1000000
/-! Statements: the rules, on. -/
namespace Eng
open PySem PySem.Spec PyProof.Rows L2
theorem noStar2 {l r : Expr} (hpl : pl l = true) (hpr : pl r = true) : ([l, r].any fun | .Starred .. => true | _ => false) = false := by
  have : ∀ {e : Expr}, pl e = true → (match e with | .Starred .. => true | _ => false) = false := fun {e} h => by cases e <;> first | rfl | simp [pl] at h
  simp only [List.any_cons, List.any_nil, this hpl, this hpr]; rfl
theorem dups2 {x y : Str} (h : (y == x) = false) : [x, y].eraseDups.length = 2 := by
  simp [List.eraseDups_cons, h]
theorem sw_par {env : PySem.Env} {x y : Str} {px py pt pt2 : Pos} {kt k2 : Nat} {l r : Expr} (hk : env.scope.kind = .function) (hx : env.scope.names.lookup x = some .local) (hy : env.scope.names.lookup y = some .local) (hl : (py.line == px.line) = true) (hne : (y == x) = false)
    (hf : (foldedForSure 8 l && foldedForSure 8 r) = false) (hc : (constantsAlone 8 l && constantsAlone 8 r) = false) (hpl : pl l = true) (hpr : pl r = true) :
    swappedStores [.Tuple [.Name x px, .Name y py] kt pt] (.Tuple [l, r] k2 pt2) env = pure (some [x, y]) := by
  have kx : env.kindOf x = some .local := hx
  have ky : env.kindOf y = some .local := hy
  have hb : env.blockKind = .function := by unfold Env.blockKind; rw [hk]; rfl
  have hs := noStar2 hpl hpr
  have hd := dups2 hne
  have hf' : [l, r].all (foldedForSure 8) = false := by simpa using hf
  have hc' : [l, r].all (constantsAlone 8) = false := by simpa using hc
  have hn : ∀ f : Expr → Option Str, f (.Name x px) = some x → f (.Name y py) = some y → [Expr.Name x px, Expr.Name y py].filterMap f = [x, y] := fun f e1 e2 => by
    rw [List.filterMap_cons_some e1, List.filterMap_cons_some e2]; rfl
  unfold swappedStores
  dsimp only [List.length_cons, List.length_nil, List.head?_cons, Option.map_some, Option.getD_some, Expr.pos]
  rw [if_neg (by rw [hb]; decide), if_neg (fun z => by
    rw [List.any_eq_true] at z
    obtain ⟨e, he, hz⟩ := z
    have hp : pl e = true := by
      simp only [List.mem_cons, List.not_mem_nil, or_false] at he
      rcases he with rfl | rfl <;> assumption
    cases e <;> first | (simp [pl] at hp; done) | (simp at hz; done))]
  have hl' : py.line = px.line := beq_iff_eq.mp hl
  have hfa : ¬ (foldedForSure 8 l = true ∧ foldedForSure 8 r = true) := fun z => by rw [z.1, z.2] at hf; cases hf
  have hca : ¬ (constantsAlone 8 l = true ∧ constantsAlone 8 r = true) := fun z => by rw [z.1, z.2] at hc; cases hc
  simp [List.filterMap_cons, kx, ky, hl', hd, hfa, hca]
section
variable {G : Cfg} {N : List Str} {C : Calls} {XR : XRel} {X : Cx} {W : WX} {c : Sc} {L : Nat} {s e v : Expr} {pos : Pos}
theorem kindB_ok (g : GX G N C XR X W c) (h : kindB c = true) : X.env.scope.kind = .function := by
  rw [g.sc]
  unfold kindB at h
  split at h
  · assumption
  · cases h
theorem s_par2o (g : GX G N C XR X W c) {fa fb : Env → Mem → R U} {i j : Nat} {x y : Str} {px py pt pt2 sp : Pos} {kt k2 : Nat} {l r : Expr} (hp : parB N c i j x y px py l r = true) (ha : PE X l (tU X.K XR W fa)) (hb : PE X r (tF X.K XR W fb)) :
    PS X (.Assign [.Tuple [.Name x px, .Name y py] kt pt] (.Tuple [l, r] k2 pt2) sp) (tS X.K XR W fun σ m => (fa σ m).bind fun x m1 => (fb σ m1).bind fun y m2 => match y with
    | .dat (.list xs) => match (setE σ i (.v x)).bind fun σ' => setE σ' j (.own xs) with
      | some σ' => .ok (.nx, σ') m2
      | none => .bad
    | _ => .bad) := by
  unfold parB at hp
  simp only [Bool.and_eq_true, decide_eq_true_eq, Bool.not_eq_true'] at hp
  obtain ⟨⟨⟨⟨⟨⟨⟨⟨⟨⟨⟨h1, h2⟩, h3⟩, h4⟩, h5⟩, h6⟩, h7⟩, h8⟩, h9⟩, h10⟩, h11⟩, h12⟩ := hp
  have lx : X.env.scope.names.lookup x = some .local := by rw [g.sc]; exact h4
  have ly : X.env.scope.names.lookup y = some .local := by rw [g.sc]; exact h5
  refine PS.imp (ps_par g.calm g.nd (by rw [g.hN]; exact h1) (by rw [g.hN]; exact h2) h3 lx ly (pa_cons ha (pa_cons hb pa_nil (star_pl h12)) (star_pl h11)) (sw_par (kindB_ok g h8) lx ly h6 h7 h9 h10 h11 h12) rfl) fun D σ H ⟨B, Hf, ρ, ω, env, m, s, o⟩ => ?_
  obtain ⟨A, B', D', E, F', a1, o1⟩ := s.bindE (Rp := RU X.K) o
  refine ⟨A, B', D', E, F', a1, o1.mono fun x H1 ⟨u, Hf1, ρ1, m1, p, s1, r, o1⟩ => ?_⟩
  obtain ⟨A, B', D', E, F', a2, o2⟩ := s1.bindF o1
  refine ⟨A, B', D', E, F', a2, o2.mono fun y H2 ⟨u2, Hf2, ρ2, m2, p2, s2, r2, o2⟩ => ?_⟩
  obtain ⟨q, vs, xs, rfl, rfl, h0, k1, k2, k3, k4, k5⟩ := r2
  refine ⟨x, _, rfl, ?_⟩
  simp only at o2
  cases hs : (setE env i (.v u)).bind fun σ' => setE σ' j (.own xs) with
  | none => rw [hs] at o2; exact o2.elim
  | some env' =>
    rw [hs] at o2
    rw [Option.bind_eq_some_iff] at hs
    obtain ⟨e1, q1, q2⟩ := hs
    obtain ⟨hi, rfl⟩ := setE_some q1
    obtain ⟨hj, rfl⟩ := setE_some q2
    exact ((s2.setV hi (r.pres p2)).setOwn hj k1 k2 k3 k4 k5 (fun j ys e => s1.own_ne h0 (set_own (fun _ e => by cases e) e)) (s1.base_none h0)).ok (x := (F.nx, _)) o2
theorem s_par1o (g : GX G N C XR X W c) {fa fb : Env → Mem → R U} {i j : Nat} {x y : Str} {px py pt pt2 sp : Pos} {kt k2 : Nat} {l r : Expr} (hp : parB N c i j x y px py l r = true) (ha : PE X l (tF X.K XR W fa)) (hb : PE X r (tU X.K XR W fb)) :
    PS X (.Assign [.Tuple [.Name x px, .Name y py] kt pt] (.Tuple [l, r] k2 pt2) sp) (tS X.K XR W fun σ m => (fa σ m).bind fun x m1 => match x with
    | .dat (.list xs) => (fb σ m1).bind fun y m2 => match (setE σ i (.own xs)).bind fun σ' => setE σ' j (.v y) with
      | some σ' => .ok (.nx, σ') m2
      | none => .bad
    | _ => .bad) := by
  unfold parB at hp
  simp only [Bool.and_eq_true, decide_eq_true_eq, Bool.not_eq_true'] at hp
  obtain ⟨⟨⟨⟨⟨⟨⟨⟨⟨⟨⟨h1, h2⟩, h3⟩, h4⟩, h5⟩, h6⟩, h7⟩, h8⟩, h9⟩, h10⟩, h11⟩, h12⟩ := hp
  have lx : X.env.scope.names.lookup x = some .local := by rw [g.sc]; exact h4
  have ly : X.env.scope.names.lookup y = some .local := by rw [g.sc]; exact h5
  refine PS.imp (ps_par g.calm g.nd (by rw [g.hN]; exact h1) (by rw [g.hN]; exact h2) h3 lx ly (pa_cons ha (pa_cons hb pa_nil (star_pl h12)) (star_pl h11)) (sw_par (kindB_ok g h8) lx ly h6 h7 h9 h10 h11 h12) rfl) fun D σ H ⟨B, Hf, ρ, ω, env, m, s, o⟩ => ?_
  obtain ⟨A, B', D', E, F', a1, o1⟩ := s.bindF o
  refine ⟨A, B', D', E, F', a1, o1.mono fun x H1 ⟨u, Hf1, ρ1, m1, p, s1, r, o1⟩ => ?_⟩
  obtain ⟨q, vs, xs, rfl, rfl, h0, k1, k2, k3, k4, k5⟩ := r
  simp only at o1
  obtain ⟨A, B', D', E, F', a2, o2⟩ := s1.bindE (Rp := RU X.K) o1
  refine ⟨A, B', D', E, F', a2, o2.mono fun y H2 ⟨u2, Hf2, ρ2, m2, p2, s2, r2, o2⟩ => ?_⟩
  refine ⟨_, y, rfl, ?_⟩
  cases hs : (setE env i (.own xs)).bind fun σ' => setE σ' j (.v u2) with
  | none => rw [hs] at o2; exact o2.elim
  | some env' =>
    rw [hs] at o2
    rw [Option.bind_eq_some_iff] at hs
    obtain ⟨e1, q1, q2⟩ := hs
    obtain ⟨hi, rfl⟩ := setE_some q1
    obtain ⟨hj, rfl⟩ := setE_some q2
    obtain ⟨z1, z2, z3⟩ := p2.kp _ _ k1 k2 k3
    exact ((s2.setOwn hi z1 z2 z3 (DpAll.mono p2.fz _ _ k4) k5 (fun j ys e => s.own_ne h0 e) (s.base_none h0)).setV hj r2).ok (x := (F.nx, _)) o2
theorem asg_sub {o i : Expr} {p : Pos} {env : PySem.Env} (h : pl i = true) : ∀ v, assign (.Subscript o i p) env v = (do
      let ov ← holding [v] (eval o env)
      let iv ← holding [v, ov] (eval i env)
      standAt p
      holding [v, ov, iv] (setItem ov iv v)
      release [v, ov, iv] []) := by
  intro v
  cases i <;> first | rfl | simp [pl] at h
theorem sz_set {xs : List PyData} {d : PyData} {j : Nat} (h : szOk (.list xs) = true) (hd : szOk d = true) : szOk (.list (xs.set j d)) = true := by
  rw [sz_list] at h ⊢
  refine ⟨by rw [List.length_set]; exact h.1, ?_⟩
  rw [szAll_iff] at *
  intro e he
  rcases List.mem_or_eq_of_mem_set he with he | rfl
  · exact h.2 e he
  · exact hd
theorem s_setO (g : GX G N C XR X W c) {fe fi : Env → Mem → R U} {i : Nat} {x : Str} {p p2 sp : Pos} {k : Expr} (h1 : N[i]? = some x) (h2 : visB c x = true) (hk : pl k = true) (hi : PE X k (tU X.K XR W fi)) (he : PE X v (tU X.K XR W fe)) :
    PS X (.Assign [.Subscript (.Name x p) k p2] v sp) (tS X.K XR W fun σ m => (fe σ m).bind fun u m1 => match σ[i]? with
    | some (.own xs) => (fi σ m1).bind fun y m2 => setOGo σ i xs u y m2
    | _ => .bad) := by
  obtain ⟨v1, v2, v3⟩ := g.vis h2
  have hs : swapsWithSole [.Subscript (.Name x p) k p2] v sp.line X.env = pure false := by
    show swapsWith v (some (.Subscript (.Name x p) k p2)) sp.line X.env = _
    cases v <;> rfl
  refine PS.imp (ps_asg he (pg_sub (pe_var (i := i) (by rw [g.hN]; exact h1) v1 v2 v3) hi set_list (asg_sub hk)) hs (by cases v <;> rfl) rfl) fun D σ H ⟨B, Hf, ρ, ω, env, m, s, o⟩ => ?_
  obtain ⟨A, B', D', E, F', a1, o1⟩ := s.bindE (Rp := RU X.K) o
  refine ⟨A, B', D', E, F', a1, o1.mono fun x H1 ⟨u, Hf1, ρ1, m1, p, s1, r, o1⟩ => ?_⟩
  split at o1
  case h_2 => exact o1.elim
  rename_i xs e
  obtain ⟨q1, q2, q3, q4, q5⟩ := s1.at_.slots.own i xs e
  refine ⟨_, q1, ?_⟩
  obtain ⟨A, B', D', E, F', a2, o2⟩ := s1.bindE (Rp := RU X.K) o1
  refine ⟨A, B', D', E, F', a2, o2.mono fun y H2 ⟨u2, Hf2, ρ2, m2, p2, s2, r2, o2⟩ => ?_⟩
  have r := r.pres p2
  cases u with
  | ref i => exact (o2 : False).elim
  | dat d =>
  cases u2 with
  | ref i => exact (o2 : False).elim
  | dat d2 =>
  cases d2 with
  | int k =>
    simp only [setOGo] at o2
    cases hx : L2.ixN xs.length k with
    | none => rw [hx] at o2; exact o2.elim
    | some j =>
      rw [hx] at o2
      obtain ⟨q1, q2, q3, ⟨vs, q4, q6⟩, q5⟩ := s2.at_.slots.own i xs e
      cases r2.1
      refine ⟨ω i, vs, k, j, rfl, rfl, q4, by rw [q6.len]; exact hx, ?_⟩
      have s3 := s2.write e (DpAll.set j q6 r.1) (sz_set q5 r.2)
      have hσ : σ = σ := rfl
      exact StAt.ok (x := (F.nx, _)) s3 o2
  | _ => exact (o2 : False).elim
theorem PSet.or {r r' : TSet} (h : PSet X r) (h' : PSet X r') : PSet X (fun o i v H Q => r o i v H Q ∨ r' o i v H Q) := by
  intro pins s σ H o i v ov iv u Q I ro ri rv q
  rcases q with q | q
  · exact h pins s σ H o i v ov iv u Q I ro ri rv q
  · exact h' pins s σ H o i v ov iv u Q I ro ri rv q
theorem putN_len (kvs : List (NestedKey × PyData)) (k : NestedKey) (d : PyData) : (putN kvs k d).length ≤ kvs.length + 1 := by
  unfold putN
  split
  · rw [List.length_map]; omega
  · rw [List.length_append, List.length_singleton]; exact Nat.le_refl _
theorem putN_sz {kvs : List (NestedKey × PyData)} {k : NestedKey} {d : PyData} (h : ∀ p ∈ kvs, szOk p.2 = true ∧ szOk p.1.data = true) (hd : szOk d = true) (hk : szOk k.data = true) : ∀ p ∈ putN kvs k d, szOk p.2 = true ∧ szOk p.1.data = true := by
  unfold putN
  split
  · intro p hp
    obtain ⟨q, hq, rfl⟩ := List.mem_map.mp hp
    split
    · exact ⟨hd, (h q hq).2⟩
    · exact h q hq
  · intro p hp
    rcases List.mem_append.mp hp with hp | hp
    · exact h p hp
    · rw [List.mem_singleton.mp hp]; exact ⟨hd, hk⟩
theorem s_setM (g : GX G N C XR X W c) {fe fr fi : Env → Mem → R U} {p2 sp : Pos} {r k : Expr} (hk : pl k = true) (hr : PE X r (tU X.K XR W fr)) (hi : PE X k (tU X.K XR W fi)) (he : PE X v (tU X.K XR W fe)) :
    PS X (.Assign [.Subscript r k p2] v sp) (tS X.K XR W fun σ m => (fe σ m).bind fun u m1 => (fr σ m1).bind fun x m2 => (fi σ m2).bind fun y m3 => setMGo σ u x y m3) := by
  have hs : swapsWithSole [.Subscript r k p2] v sp.line X.env = pure false := by
    show swapsWith v (some (.Subscript r k p2)) sp.line X.env = _
    cases v <;> rfl
  have hu : X.A.units + 64 < cLine := by have := g.un; omega
  refine PS.imp (ps_asg he (pg_sub hr hi (PSet.or set_list (set_dic hu)) (asg_sub hk)) hs (by cases v <;> rfl) rfl) fun D σ H ⟨B, Hf, ρ, ω, env, m, s, o⟩ => ?_
  obtain ⟨A, B', D', E, F', a1, o1⟩ := s.bindE (Rp := RU X.K) o
  refine ⟨A, B', D', E, F', a1, o1.mono fun x H1 ⟨u, Hf1, ρ1, m1, p, s1, r, o1⟩ => ?_⟩
  obtain ⟨A, B', D', E, F', a2, o2⟩ := s1.bindE (Rp := RU X.K) o1
  refine ⟨A, B', D', E, F', a2, o2.mono fun y H2 ⟨u2, Hf2, ρ2, m2, p2, s2, r2, o2⟩ => ?_⟩
  obtain ⟨A, B', D', E, F', a3, o3⟩ := s2.bindE (Rp := RU X.K) o2
  refine ⟨A, B', D', E, F', a3, o3.mono fun z H3 ⟨u3, Hf3, ρ3, m3, p3, s3, r3, o3⟩ => ?_⟩
  have r := (r.pres p2).pres p3
  have r2 := r2.pres p3
  cases u with
  | ref i => exact (o3 : False).elim
  | dat d =>
  cases u2 with
  | dat i => cases u3 with
    | ref _ => exact (o3 : False).elim
    | dat d3 => exact (o3 : False).elim
  | ref q =>
  cases u3 with
  | ref i => exact (o3 : False).elim
  | dat d3 =>
  simp only [setMGo] at o3
  cases hm : m3[q]? with
  | none => rw [hm] at o3; exact o3.elim
  | some ob =>
    obtain ⟨a, ea, rfl⟩ := r2
    rw [hm] at o3
    cases ob with
    | inst _ _ => exact o3.elim
    | lst xs =>
      cases d3 with
      | int k =>
        simp only at o3
        cases hx : L2.ixN xs.length k with
        | none => rw [hx] at o3; exact o3.elim
        | some j =>
          rw [hx] at o3
          cases r3.1
          obtain ⟨vs, e1, e2, e3⟩ := s3.at_.fine.at_ q a _ ea hm
          exact .inl ⟨a, vs, k, j, rfl, rfl, e1, by rw [e2.len]; exact hx, StAt.ok (x := (F.nx, _)) (s3.setM ea (DpAll.set j e2 r.1) (sz_set e3 r.2)) o3⟩
      | _ => exact (o3 : False).elim
    | dct kvs =>
      simp only at o3
      cases hq : keyOfD d3 with
      | none => rw [hq] at o3; exact o3.elim
      | some kk =>
        rw [hq] at o3
        simp only at o3
        split at o3
        · rename_i hl
          obtain ⟨es, e1, e2, e3, e4, e5, e6⟩ := s3.at_.fine.at_ q a _ ea hm
          refine .inr ⟨a, es, kvs, d3, kk, d, Hf3, s3.at_.fine.sub, s3.at_.fine.un a (List.mem_of_getElem? ea), rfl, e1, e2, e3, e4, r3.1, hq, r.1, fun es' h1 h2 => ?_⟩
          refine StAt.ok (x := (F.nx, _)) (s3.setN ea (ob' := .dct (putN kvs kk d)) ⟨es', upd_same, h1, h2, Nat.le_trans (putN_len _ _ _) hl, putN_sz e5 r.2 (by rw [(keyOfD_some hq).2.2.2.1]; exact r3.2), e6⟩) o3
        · exact o3.elim
theorem sz_push {xs : List PyData} {d : PyData} (h : szOk (.list xs) = true) (hd : szOk d = true) (hl : xs.length < sizeLine) : szOk (.list (xs ++ [d])) = true := by
  rw [sz_list] at h ⊢
  refine ⟨by rw [List.length_append, List.length_singleton]; omega, ?_⟩
  rw [szAll_iff] at *
  intro e he
  rcases List.mem_append.mp he with he | he
  · exact h.2 e he
  · rw [List.mem_singleton.mp he]; exact hd
theorem s_app (g : GX G N C XR X W c) {fe : Env → Mem → R U} {i : Nat} {x : Str} {p ap cp sp : Pos} (h1 : N[i]? = some x) (h2 : visB c x = true) (hv : pl v = true) (hl : (ap.endLine == cp.line) = true) (he : PE X v (tU X.K XR W fe)) :
    PS X (.Expr (.Call (.Attribute (.Name x p) "append" ap) [v] [] cp) sp) (tS X.K XR W fun σ m => match σ[i]? with
    | some (.own xs) => (fe σ m).bind fun u m1 => appGo σ i xs u m1
    | _ => .bad) := by
  obtain ⟨v1, v2, v3⟩ := g.vis h2
  have hfew : ((backTo cp (starEach (v :: []) X.env)).all (fun x => !x.1) && (backToKw cp (keywordEach [] X.env)).all (fun x => x.1.isSome)
      && decide ((v :: []).length + ([] : List Keyword).length + (if ([] : List Keyword).isEmpty then 0 else 1) < 30)) = true := by
    rw [star_pl hv]; rfl
  refine PS.imp (ps_expr (pe_bm PySem.F.plainAttrs_list PySem.F.slot_list_append PySem.F.type_list_append mt_append (pe_var (i := i) (by rw [g.hN]; exact h1) v1 v2 v3) (pa_cons he pa_nil (star_pl hv)) rfl hfew hl (star_pl hv) rfl) rfl) fun D σ H ⟨B, Hf, ρ, ω, env, m, s, o⟩ => ?_
  dsimp only at o
  split at o
  case h_2 => exact o.elim
  rename_i xs e
  obtain ⟨q1, q2, q3, ⟨vs, q4, q6⟩, q5⟩ := s.at_.slots.own i xs e
  refine ⟨_, q1, .inl ⟨rfl, vs, .inl (.inl q4)⟩, ?_⟩
  obtain ⟨A, B', D', E, F', a1, o1⟩ := s.bindE (Rp := RU X.K) o
  refine ⟨A, B', D', E, F', a1, o1.mono fun x H1 ⟨u, Hf1, ρ1, m1, p, s1, r, o1⟩ => ?_⟩
  cases u with
  | ref i => exact (o1 : False).elim
  | dat d =>
    simp only [appGo] at o1
    obtain ⟨q1, q2, q3, ⟨vs, q4, q6⟩, q5⟩ := s1.at_.slots.own i xs e
    by_cases hz : xs.length < sizeLine
    · rw [if_pos hz] at o1
      exact ⟨_, vs, x, rfl, rfl, q4, by rw [q6.len]; exact hz, StAt.ok (x := (F.nx, _)) (s1.write e (q6.app (.cons r.1 .nil)) (sz_push q5 r.2 hz)) o1⟩
    · rw [if_neg hz] at o1; exact (o1 : False).elim
end
end Eng

set_option Elab.async false
set_option linter.all false
set_option maxRecDepth 100000
set_option maxHeartbeats 1000000
/-! Statements: two lists of their own at once, three names at once, an item changed in place. -/
namespace Eng
open PySem PySem.Spec PyProof.Rows L2
section
variable {G : Cfg} {N : List Str} {C : Calls} {XR : XRel} {X : Cx} {W : WX} {c : Sc} {L : Nat} {s e v : Expr} {pos : Pos}
end
end Eng

set_option Elab.async false
set_option linter.all false
set_option maxRecDepth 100000
set_option maxHeartbeats 1000000
/-! Statements: xs.extend(ys), two items stored at once, x = xs.pop(). -/
namespace Eng
open PySem PySem.Spec PyProof.Rows L2
section
variable {G : Cfg} {N : List Str} {C : Calls} {XR : XRel} {X : Cx} {W : WX} {c : Sc} {L : Nat} {s e v : Expr} {pos : Pos}
theorem sz_app2 {xs ys : List PyData} (hl : xs.length + ys.length ≤ sizeLine) (h1 : szOk (.list xs) = true) (h2 : szOk (.list ys) = true) : szOk (.list (xs ++ ys)) = true := by
  rw [sz_list] at *
  refine ⟨by rw [List.length_append]; exact hl, szAll_iff.mpr fun d hd => ?_⟩
  rcases List.mem_append.mp hd with hd | hd
  · exact szAll_iff.mp h1.2 d hd
  · exact szAll_iff.mp h2.2 d hd
theorem s_ext (g : GX G N C XR X W c) {fe : Env → Mem → R U} {i : Nat} {x : Str} {p ap cp sp : Pos} (h1 : N[i]? = some x) (h2 : visB c x = true) (hv : pl v = true) (hl : (ap.endLine == cp.line) = true) (he : PE X v (tF X.K XR W fe)) :
    PS X (.Expr (.Call (.Attribute (.Name x p) "extend" ap) [v] [] cp) sp) (tS X.K XR W fun σ m => match σ[i]? with
    | some (.own xs) => (fe σ m).bind fun u m1 => extGo σ i xs u m1
    | _ => .bad) := by
  obtain ⟨v1, v2, v3⟩ := g.vis h2
  have few : ((backTo cp (starEach (v :: []) X.env)).all (fun x => !x.1) && (backToKw cp (keywordEach [] X.env)).all (fun x => x.1.isSome) && decide ((v :: []).length + ([] : List Keyword).length + (if ([] : List Keyword).isEmpty then 0 else 1) < 30)) = true := by
    rw [star_pl hv]; rfl
  refine PS.imp (ps_expr (pe_bm PySem.F.plainAttrs_list PySem.F.slot_list_extend PySem.F.type_list_extend mt_extend (pe_var (i := i) (by rw [g.hN]; exact h1) v1 v2 v3) (pa_cons he pa_nil (star_pl hv)) rfl few hl (star_pl hv) rfl) rfl) fun D σ H ⟨B, Hf, ρ, ω, env, m, s, o⟩ => ?_
  dsimp only at o
  split at o
  case h_2 => exact o.elim
  rename_i xs e
  obtain ⟨q1, q2, q3, ⟨vs, q4, q6⟩, q5⟩ := s.at_.slots.own i xs e
  refine ⟨_, q1, .inl ⟨rfl, vs, .inl (.inl q4)⟩, ?_⟩
  obtain ⟨A, B', D', E, F', a1, o1⟩ := s.bindF o
  refine ⟨A, B', D', E, F', a1, o1.mono fun x H1 ⟨u, Hf1, ρ1, m1, p, s1, r, o1⟩ => ?_⟩
  obtain ⟨q, ws, ys, rfl, rfl, k0, k1, k2, k3, k4, k5⟩ := r
  simp only [extGo] at o1
  obtain ⟨q1, q2, q3, ⟨vs, q4, q6⟩, q5⟩ := s1.at_.slots.own i xs e
  by_cases hz : xs.length + ys.length ≤ sizeLine
  · rw [if_pos hz] at o1
    exact ⟨_, q, vs, ws, rfl, rfl, q4, k1, by rw [q6.len, k4.len]; exact hz, StAt.ok (x := (F.nx, _)) (s1.write e (q6.app k4) (sz_app2 hz q5 k5)) o1⟩
  · rw [if_neg hz] at o1; exact (o1 : False).elim
theorem sw_two {env : PySem.Env} {x x2 : Expr} {k k2 : Expr} {p p2 pt : Pos} {kt : Nat} {v : Expr} : swappedStores [.Tuple [.Subscript x k p, .Subscript x2 k2 p2] kt pt] v env = pure none := by
  unfold swappedStores
  cases v <;> try rfl
  rename_i vs _ _
  dsimp only
  split
  · rfl
  · split
    · rfl
    · simp only [List.filterMap_cons, List.filterMap_nil]
      exact if_pos rfl
theorem s_setO2 (g : GX G N C XR X W c) {fe fi fj : Env → Mem → R U} {i : Nat} {x : Str} {p p2 p3 p4 pt sp : Pos} {kt : Nat} {k k2 : Expr} (h1 : N[i]? = some x) (h2 : visB c x = true) (hk : pl k = true) (hk2 : pl k2 = true) (hi : PE X k (tU X.K XR W fi)) (hj : PE X k2 (tU X.K XR W fj)) (he : PE X v (tU X.K XR W fe)) (hv : isTp v = true) :
    PS X (.Assign [.Tuple [.Subscript (.Name x p) k p2, .Subscript (.Name x p3) k2 p4] kt pt] v sp) (tS X.K XR W fun σ m => (fe σ m).bind fun u m1 => match u with
    | .dat (.tuple [d, d2]) => match σ[i]? with
      | some (.own xs) => ((fi σ m1).bind fun y m2 => setOGo σ i xs (.dat d) y m2).bind (setO2Go σ i d2 fj)
      | _ => .bad
    | _ => .bad) := by
  obtain ⟨v1, v2, v3⟩ := g.vis h2
  have hs : swapsWithSole [.Tuple [.Subscript (.Name x p) k p2, .Subscript (.Name x p3) k2 p4] kt pt] v sp.line X.env = pure false := by
    show swapsWith v (some (.Tuple [.Subscript (.Name x p) k p2, .Subscript (.Name x p3) k2 p4] kt pt)) sp.line X.env = _
    cases v <;> first | rfl | (simp [isTp] at hv)
  have pv : ∀ p : Pos, PE X (.Name x p) _ := fun p => pe_var (i := i) (by rw [g.hN]; exact h1) v1 v2 v3
  refine PS.imp (ps_asg he (pg_tup g.calm (pgs_cons (pg_sub (pv p) hi set_list (asg_sub hk)) (pgs_cons (pg_sub (pv p3) hj set_list (asg_sub hk2)) pgs_nil))) hs sw_two rfl) fun D σ H ⟨B, Hf, ρ, ω, env, m, s, o⟩ => ?_
  obtain ⟨A, B', D', E, F', a1, o1⟩ := s.bindE (Rp := RU X.K) o
  refine ⟨A, B', D', E, F', a1, o1.mono fun x H1 ⟨u, Hf1, ρ1, m1, p, s1, r, o1⟩ => ?_⟩
  split at o1
  case h_2 => exact o1.elim
  rename_i d d2
  split at o1
  case h_2 => exact o1.elim
  rename_i xs e
  obtain ⟨rd, rz⟩ := r
  cases rd with
  | tup hs ha =>
  cases ha with
  | cons ha1 ha2 =>
  cases ha2 with
  | cons ha2 ha3 =>
  cases ha3
  obtain ⟨q1, q2, q3, q4, q5⟩ := s1.at_.slots.own i xs e
  refine ⟨_, _, rfl, SqT.mono s1.at_.fine.sub hs, rfl, _, _, rfl, _, q1, ?_⟩
  rw [R.bind_bind] at o1
  obtain ⟨A, B', D', E, F', a2, o2⟩ := s1.bindE (Rp := RU X.K) o1
  refine ⟨A, B', D', E, F', a2, o2.mono fun y H2 ⟨u2, Hf2, ρ2, m2, p2, s2, r2, o2⟩ => ?_⟩
  have ra := Dp.mono p2.fz _ _ ha1
  have rb := Dp.mono p2.fz _ _ ha2
  have z1 : szOk d = true := (szAll_iff.mp (sz_tuple.mp rz).2) d (by simp)
  have z2 : szOk d2 = true := (szAll_iff.mp (sz_tuple.mp rz).2) d2 (by simp)
  cases u2 with
  | ref i => exact (o2 : False).elim
  | dat d3 =>
  cases d3 with
  | int k =>
    simp only [setOGo] at o2
    cases hx : L2.ixN xs.length k with
    | none => rw [hx] at o2; exact o2.elim
    | some q =>
      rw [hx] at o2
      simp only [R.bind_ok, setO2Go] at o2
      obtain ⟨q1, q2, q3, ⟨vs, q4, q6⟩, q5⟩ := s2.at_.slots.own i xs e
      cases r2.1
      refine ⟨ω i, vs, k, q, rfl, rfl, q4, by rw [q6.len]; exact hx, ?_⟩
      have s3 := s2.write e (DpAll.set q q6 ra) (sz_set q5 z1)
      have hi : i < env.length := (List.getElem?_eq_some_iff.mp e).1
      have e3 : (env.set i (.own (xs.set q d)))[i]? = some (.own (xs.set q d)) := by rw [List.getElem?_set]; simp [hi]
      rw [e3] at o2
      simp only at o2
      refine ⟨_, _, rfl, ⟨_, q1, ?_⟩⟩
      obtain ⟨A, B', D', E, F', a4, o4⟩ := s3.bindE (Rp := RU X.K) o2
      refine ⟨A, B', D', E, F', a4, o4.mono fun y H4 ⟨u4, Hf4, ρ4, m4, p4, s4, r4, o4⟩ => ?_⟩
      cases u4 with
      | ref i => exact (o4 : False).elim
      | dat d5 =>
      cases d5 with
      | int k5 =>
        simp only [setOGo] at o4
        cases hx5 : L2.ixN (xs.set q d).length k5 with
        | none => rw [hx5] at o4; exact o4.elim
        | some q5' =>
          rw [hx5] at o4
          simp only at o4
          obtain ⟨_, _, _, ⟨ws, y4, y6⟩, y5⟩ := s4.at_.slots.own i _ e3
          cases r4.1
          refine ⟨ω i, ws, k5, q5', rfl, rfl, y4, by rw [y6.len]; exact hx5, ?_⟩
          exact ⟨rfl, StAt.ok (x := (F.nx, _)) (s4.write e3 (DpAll.set q5' y6 (Dp.mono p4.fz _ _ rb)) (sz_set y5 z2)) o4⟩
      | _ => exact (o4 : False).elim
  | _ => exact (o2 : False).elim
theorem s_asgTo (g : GX G N C XR X W c) {fa fb : Env → Mem → R U} {i j : Nat} {x y : Str} {px py pt pt2 sp : Pos} {kt k2 : Nat} {l r : Expr} (hc : anyCell c [.Name x px, .Name y py] = true) (h1 : N[i]? = some x) (h2 : N[j]? = some y) (h3 : locB c x = true) (h4 : locB c y = true)
    (hpl : pl l = true) (hpr : pl r = true) (ha : PE X l (tF X.K XR W fa)) (hb : PE X r (tU X.K XR W fb)) :
    PS X (.Assign [.Tuple [.Name x px, .Name y py] kt pt] (.Tuple [l, r] k2 pt2) sp) (tS X.K XR W fun σ m => (fa σ m).bind fun x m1 => match x with
    | .dat (.list xs) => (fb σ m1).bind fun y m2 => match (setE σ i (.own xs)).bind fun σ' => setE σ' j (.v y) with
      | some σ' => .ok (.nx, σ') m2
      | none => .bad
    | _ => .bad) := by
  obtain ⟨n1, n2⟩ := g.loc h3
  obtain ⟨n3, n4⟩ := g.loc h4
  refine PS.imp (ps_asg (pe_tup (pa_cons ha (pa_cons hb pa_nil (star_pl hpr)) (star_pl hpl))) (pg_tup g.calm (pgs_cons (pg_name g.nd (by rw [g.hN]; exact h1) n1 n2) (pgs_cons (pg_name g.nd (by rw [g.hN]; exact h2) n3 n4) pgs_nil))) rfl (sw_cell g.sc hc) rfl) fun D σ H ⟨B, Hf, ρ, ω, env, m, s, o⟩ => ?_
  obtain ⟨A, B', D', E, F', a1, o1⟩ := s.bindF o
  refine ⟨A, B', D', E, F', a1, o1.mono fun x H1 ⟨u, Hf1, ρ1, m1, p, s1, r, o1⟩ => ?_⟩
  obtain ⟨q, vs, xs, rfl, rfl, h0, k1, k2, k3, k4, k5⟩ := r
  simp only at o1
  obtain ⟨A, B', D', E, F', a2, o2⟩ := s1.bindE (Rp := RU X.K) o1
  refine ⟨A, B', D', E, F', a2, o2.mono fun y H2 ⟨u2, Hf2, ρ2, m2, p2, s2, r2, o2⟩ => ?_⟩
  refine ⟨?_, fun b hb => ?_⟩
  · have : (2 : Nat) ≤ sizeLine := by rw [sizeLine_eq]; decide
    exact this
  have pf : Pres H2 Hf2 ρ2 (upd H2 b (.tup [.ref q, y])) Hf2 ρ2 := Pres.fresh hb
  have s3 := s2.step pf (s2.at_.fine.fresh hb)
  refine ⟨b, _, rfl, .inl (.inl upd_same), rfl, _, _, rfl, _, _, rfl, rfl, ?_⟩
  cases hs : (setE env i (.own xs)).bind fun σ' => setE σ' j (.v u2) with
  | none => rw [hs] at o2; exact o2.elim
  | some env' =>
    rw [hs] at o2
    rw [Option.bind_eq_some_iff] at hs
    obtain ⟨e1, q1, q2⟩ := hs
    obtain ⟨hi, rfl⟩ := setE_some q1
    obtain ⟨hj, rfl⟩ := setE_some q2
    obtain ⟨z1, z2, z3⟩ := (p2.trans pf).kp _ _ k1 k2 k3
    exact ((s3.setOwn hi z1 z2 z3 (DpAll.mono p2.fz _ _ k4) k5 (fun j ys e => s.own_ne h0 e) (s.base_none h0)).setV hj r2).ok (x := (F.nx, _)) o2
theorem DpAll.dropLast {K : PySem.W.Frag} {H : Hp} {ds : List PyData} {vs : List V} (h : DpAll K H vs ds) : DpAll K H vs.dropLast ds.dropLast := by
  rw [List.dropLast_eq_take, List.dropLast_eq_take, h.len]
  exact h.take _
end
end Eng

set_option Elab.async false
set_option linter.all false
set_option maxRecDepth 100000
set_option maxHeartbeats 1000000
/-! An except suite. -/
namespace Eng
open PySem PySem.Spec PyProof.Rows L2
/-- where an own error is held: at a, of the class at Ca, its dict d -/
structure AtX (K : PySem.W.Frag) (H : Hp) (σ : L2.St) (Hf : Hp) (ρ : List Addr) (ω : Nat → Addr) (env : Env) (m : Mem) (i : Nat) (a : Addr) (cls : Value) (d : Option Addr) (Ca : Addr) (fld : Str) (x : PyData) : Prop where
  at_ : At K H σ Hf ρ ω env m
  slot : σ[i]? = some (some (.ref a))
  cls : cls = .ref Ca
  xd : ∃ dd v, d = some dd ∧ Hf dd = some (.xd [(fld, v)]) ∧ RepU K Hf ρ v (.dat x)
section
variable {K : PySem.W.Frag} {H : Hp} {σ : L2.St} {Hf : Hp} {ρ : List Addr} {ω : Nat → Addr} {env : Env} {m : Mem} {i : Nat} {a : Addr} {cls : Value} {d : Option Addr} {Ca : Addr} {fld : Str} {x : PyData}
theorem AtX.pres (A : AtX K H σ Hf ρ ω env m i a cls d Ca fld x) {H1 Hf1 : Hp} {ρ1 : List Addr} (p : Pres H Hf ρ H1 Hf1 ρ1) (f : Fine K H1 Hf1 ρ1 m) : AtX K H1 σ Hf1 ρ1 ω env m i a cls d Ca fld x := by
  obtain ⟨dd, v, h1, h2, h3⟩ := A.xd
  exact ⟨A.at_.pres p f, A.slot, A.cls, dd, v, h1, p.fz _ _ h2, h3.pres p⟩
def OutX (K : PySem.W.Frag) (H Hf : Hp) (ρ : List Addr) (m : Mem) (r : Option PyData) (Q : VK) : Prop := ∃ z, r = some z ∧ ∀ v H' Hf' ρ', Pres H Hf ρ H' Hf' ρ' → Fine K H' Hf' ρ' m → RepU K Hf' ρ' v (.dat z) → Q v H'
def OutXs (K : PySem.W.Frag) (H Hf : Hp) (ρ : List Addr) (m : Mem) (r : Option (List PyData)) (Q : List V → Hp → Prop) : Prop := ∃ zs, r = some zs ∧ ∀ vs H' Hf' ρ', Pres H Hf ρ H' Hf' ρ' → Fine K H' Hf' ρ' m → RUs K Hf' ρ' vs (zs.map U.dat) → Q vs H'
def OutXB (K : PySem.W.Frag) (H Hf : Hp) (ρ : List Addr) (m : Mem) (r : Option Bool) (Q : Bool → Hp → Prop) : Prop := ∃ b, r = some b ∧ ∀ H' Hf' ρ', Pres H Hf ρ H' Hf' ρ' → Fine K H' Hf' ρ' m → Q b H'
def tX (K : PySem.W.Frag) (i : Nat) (a : Addr) (cls : Value) (d : Option Addr) (Ca : Addr) (fld : Str) (f : PyData → Env → Option PyData) : TE := fun σ H Q => ∃ Hf ρ ω env m x, AtX K H σ Hf ρ ω env m i a cls d Ca fld x ∧ OutX K H Hf ρ m (f x env) Q
def tXs (K : PySem.W.Frag) (i : Nat) (a : Addr) (cls : Value) (d : Option Addr) (Ca : Addr) (fld : Str) (f : PyData → Env → Option (List PyData)) : TA := fun σ H Q => ∃ Hf ρ ω env m x, AtX K H σ Hf ρ ω env m i a cls d Ca fld x ∧ OutXs K H Hf ρ m (f x env) Q
def tXB (K : PySem.W.Frag) (i : Nat) (a : Addr) (cls : Value) (d : Option Addr) (Ca : Addr) (fld : Str) (f : PyData → Env → Option Bool) : TT := fun σ H Q => ∃ Hf ρ ω env m x, AtX K H σ Hf ρ ω env m i a cls d Ca fld x ∧ OutXB K H Hf ρ m (f x env) Q
theorem OutX.bind {f : PyData → Option PyData} {r : Option PyData} {Q : VK} (h : OutX K H Hf ρ m (r.bind f) Q) : OutX K H Hf ρ m r fun v H1 => ∃ z Hf1 ρ1, Pres H Hf ρ H1 Hf1 ρ1 ∧ Fine K H1 Hf1 ρ1 m ∧ RepU K Hf1 ρ1 v (.dat z) ∧ OutX K H1 Hf1 ρ1 m (f z) Q ∧ r = some z := by
  obtain ⟨y, e, q⟩ := h
  rw [Option.bind_eq_some_iff] at e
  obtain ⟨z, e1, e2⟩ := e
  exact ⟨z, e1, fun v H' Hf' ρ' p f' r' => ⟨z, Hf', ρ', p, f', r', ⟨y, e2, fun v H2 Hf2 ρ2 p2 f2 r2 => q v H2 Hf2 ρ2 (p.trans p2) f2 r2⟩, e1⟩⟩
end
section
variable {G : Cfg} {N : List Str} {C : Calls} {XR : XRel} {X : Cx} {W : WX} {c : Sc} {i k : Nat} {a Ca : Addr} {cls : Value} {d : Option Addr} {oe : Obj} {pn : List (Addr × Obj)} {n fld : Str} {nm : Str}
theorem boolD_some {d : PyData} {b : Bool} (h : boolD d = some b) : d = .bool b := by
  cases d <;> simp only [boolD, reduceCtorEq, Option.some.injEq] at h
  subst h; rfl
theorem datL_map : ∀ zs : List PyData, datL (zs.map U.dat) = some zs
  | [] => rfl
  | z :: zs => by
    have ih := datL_map zs
    rw [List.map_cons]
    simp only [datL, ih, Option.map_some]
theorem hEs_len {x : PyData} {σ : Env} : ∀ {es : HEs} {l : List Expr} {zs : List PyData}, okHEs G N c n fld k es l = true → hEs es x σ = some zs → zs.length = l.length
  | .nil, l, zs, h, e => by
    cases l with
    | nil => cases e; rfl
    | cons _ _ => simp [okHEs] at h
  | .cons e0 es, l, zs, h, e => by
    cases l with
    | nil => simp [okHEs] at h
    | cons y r =>
      simp only [okHEs, Bool.and_eq_true] at h
      simp only [hEs, Option.bind_eq_some_iff, Option.map_eq_some_iff] at e
      obtain ⟨z, e2, zr, e3, rfl⟩ := e
      rw [List.length_cons, List.length_cons, hEs_len h.2 e3]
variable (g : GX G N C XR X W c) (hn : N[i]? = some n) (hln : c.sc.names.lookup n = some .local) (hv : visB c n = true) (T : EngX.OwnTxt X.prog X.K X.mg nm fld Ca fI) (hk : G.cl[k]? = some (nm, fld)) (hz : Zc cls d oe) (hf : ∃ vs, oe.data = .fields vs)
include g hn hv T hk hz hf
mutual
theorem sndHE : ∀ (e : HE) {s : Expr}, okHE G N c n fld k e s = true → PE (X.suite a ((a, oe) :: pn)) s (tX X.K i a cls d Ca fld (hE e))
  | .cst z, s, h => by
    simp only [okHE] at h; split at h
    · obtain ⟨v, h1, h2, h3⟩ := cst_pe h
      exact PE.imp h1 fun σ H Q ⟨Hf, ρ, ω, env, m, x, A, z', e, q⟩ => by
        cases e
        exact q v H Hf ρ (Pres.refl _ _ _) A.at_.fine ⟨h2 _, h3⟩
    · cases h
  | .fld, s, h => by
    simp only [okHE] at h; split at h
    · simp only [Bool.and_eq_true, decide_eq_true_eq] at h
      obtain ⟨rfl, rfl⟩ := h
      obtain ⟨v1, v2, v3⟩ := g.vis hv
      refine PE.imp (pe_xf T.xf T.noN hz hf (pe_var (i := i) (by rw [g.hN]; exact hn) v1 v2 v3) (by rfl)) fun σ H Q ⟨Hf, ρ, ω, env, m, x, A, z', e, q⟩ => ?_
      cases e
      obtain ⟨dd, v, h1, h2, h3⟩ := A.xd
      refine ⟨.ref a, A.slot, rfl, A.cls, dd, _, v, h1, A.at_.fine.sub _ _ h2, by simp [List.lookup], q v H Hf ρ (Pres.refl _ _ _) A.at_.fine h3⟩
    · cases h
  | .var j, s, h => by
    simp only [okHE] at h; split at h
    · simp only [Bool.and_eq_true, decide_eq_true_eq] at h
      obtain ⟨h1, h2⟩ := h
      obtain ⟨v1, v2, v3⟩ := g.vis h2
      refine PE.imp (pe_var (i := j) (by rw [g.hN]; exact h1) v1 v2 v3) fun σ H Q ⟨Hf, ρ, ω, env, m, x, A, z', e, q⟩ => ?_
      simp only [hE] at e
      split at e
      · rename_i y ey
        cases e
        obtain ⟨v, e1, r⟩ := A.at_.slots.val j _ ey
        exact ⟨v, e1, q v H Hf ρ (Pres.refl _ _ _) A.at_.fine r⟩
      · cases e
    · cases h
  | .rep e, s, h => by
    simp only [okHE] at h; split at h
    · simp only [Bool.and_eq_true, decide_eq_true_eq] at h
      obtain ⟨⟨⟨rfl, h2⟩, h3⟩, h4⟩ := h
      obtain ⟨q1, q2⟩ := g.glo h2
      have hm : X.mg "repr" = none := g.bn _ (by decide)
      have ih := sndHE e h3
      refine PE.imp (pe_callB (X := X.suite a ((a, oe) :: pn)) (cr_repr g.gd (by have := g.un; show X.A.units + 64 < cLine; omega)) q1 hm (by decide +kernel) (pa_cons ih pa_nil (star_pl h4)) (by decide) q2 (star_pl h4)) fun σ H Q ⟨Hf, ρ, ω, env, m, x, A, o⟩ => ?_
      simp only [hE] at o
      refine ⟨Hf, ρ, ω, env, m, x, A, ?_⟩
      obtain ⟨z, e1, q⟩ := OutX.bind o
      refine ⟨z, e1, fun v H' Hf' ρ' p f r => ?_⟩
      obtain ⟨z2, Hf1, ρ1, p1, f1, r1, ⟨y, hy, qq⟩, e2⟩ := q v H' Hf' ρ' p f r
      have hy' : (if z2.showable && decide (z2.shown.length ≤ sizeLine) && decide (z2.depth ≤ 60) then some (.str z2.shown) else none) = some y := by
        rw [← hy]; cases z2 <;> rfl
      split at hy'
      · rename_i hh
        simp only [Bool.and_eq_true, decide_eq_true_eq] at hh
        cases hy'
        refine ⟨v, z2, rfl, r1.1.mono f1.sub, r1.2, hh.1.1, hh.1.2, hh.2, qq _ H' Hf1 ρ1 (Pres.refl _ _ _) f1 ⟨.str _, ?_⟩⟩
        simp only [szOk, decide_eq_true_eq]
        exact hh.1.2
      · cases hy'
    · cases h
  | .isx D b, s, h => by
    simp only [okHE] at h; split at h
    · simp only [Bool.and_eq_true, decide_eq_true_eq, List.any_eq_true] at h
      obtain ⟨⟨⟨⟨⟨rfl, h2⟩, rfl⟩, rfl⟩, h5⟩, p, h6, rfl⟩ := h
      obtain ⟨q1, q2⟩ := g.glo h2
      obtain ⟨q3, q4⟩ := g.glo h5
      obtain ⟨v1, v2, v3⟩ := g.vis hv
      have hm : X.mg "isinstance" = none := g.bn _ (by decide)
      obtain ⟨Cd, m1, m2, m3⟩ := g.xt.isx _ _ _ _ _ h6 hk T.gC
      by_cases hcl : cls = .ref Ca
      · subst hcl
        refine PE.imp (pe_callB (X := X.suite a ((a, oe) :: pn)) (call_isX m3 hz hf) q1 hm (by decide +kernel) (pa_cons (pe_var (i := i) (by rw [show (X.suite a ((a, oe) :: pn)).N = N from g.hN]; exact hn) v1 v2 v3) (pa_cons (pe_glob (v := .ref Cd) q3 m1 rfl q4) pa_nil (by rfl)) (by rfl)) (by decide) q2 (by rfl) (by rfl)) fun σ H Q ⟨Hf, ρ, ω, env, m, x, A, z', e, q⟩ => ?_
        cases e
        obtain ⟨dd, v, h1, h2, h3⟩ := A.xd
        exact ⟨.ref a, A.slot, .ref Cd, .ref Cd, b, dd, _, rfl, h1, A.at_.fine.sub _ _ h2, fun u r => r, m2, q (.bl b) H Hf ρ (Pres.refl _ _ _) A.at_.fine ⟨.bl _, rfl⟩⟩
      · exact pe_never fun σ H Q ⟨Hf, ρ, ω, env, m, x, A, _⟩ => hcl A.cls
    · cases h
  | .tup es, s, h => by
    simp only [okHE] at h; split at h
    · simp only [Bool.and_eq_true, decide_eq_true_eq] at h
      have ih := sndHEs es h.1
      refine PE.imp (pe_tup ih) fun σ H Q ⟨Hf, ρ, ω, env, m, x, A, y, e, q⟩ => ?_
      simp only [hE, Option.map_eq_some_iff] at e
      obtain ⟨zs, e1, rfl⟩ := e
      refine ⟨Hf, ρ, ω, env, m, x, A, zs, e1, fun vs H' Hf' ρ' p f r => ?_⟩
      have hlen := hEs_len h.1 e1
      have hl1 := r.len
      rw [List.length_map] at hl1
      have hsm := small1001 h.2
      obtain ⟨h1, h2⟩ := r.dats (datL_map zs)
      refine ⟨by omega, fun b hb => ?_⟩
      have hfb := f.sub.none hb
      exact q (.ref b) _ _ _ (p.trans (Pres.new hb f.sub)) (f.new hb) ⟨.tup (.inl (.inl upd_same)) (DpAll.mono (Sub.new hfb) _ _ h1), sz_tuple.mpr ⟨by omega, h2⟩⟩
    · cases h
  | .lst es, s, h => by
    simp only [okHE] at h; split at h
    · simp only [Bool.and_eq_true, decide_eq_true_eq] at h
      have ih := sndHEs es h.1
      refine PE.imp (pe_lst ih) fun σ H Q ⟨Hf, ρ, ω, env, m, x, A, y, e, q⟩ => ?_
      simp only [hE, Option.map_eq_some_iff] at e
      obtain ⟨zs, e1, rfl⟩ := e
      refine ⟨Hf, ρ, ω, env, m, x, A, zs, e1, fun vs H' Hf' ρ' p f r => ?_⟩
      have hlen := hEs_len h.1 e1
      have hl1 := r.len
      rw [List.length_map] at hl1
      have hsm := small1001 h.2
      obtain ⟨h1, h2⟩ := r.dats (datL_map zs)
      refine ⟨by omega, fun b hb => ?_⟩
      have hfb := f.sub.none hb
      exact q (.ref b) _ _ _ (p.trans (Pres.new hb f.sub)) (f.new hb) ⟨.lst (.inl (.inl upd_same)) (DpAll.mono (Sub.new hfb) _ _ h1), sz_list.mpr ⟨by omega, h2⟩⟩
    · cases h
  | .cmp o p q, s, h => by
    simp only [okHE] at h; split at h
    · simp only [Bool.and_eq_true] at h
      obtain ⟨⟨⟨h0, h1⟩, h2⟩, h3⟩ := h
      refine PE.imp (pe_cmpR (op_cmp (X := X.suite a ((a, oe) :: pn)) (by have := g.un; show X.A.units + 64 < cLine; omega) o _ h0) (sndHE p h1) (sndHE q h2) (mark_pl h3)) fun σ H Q ⟨Hf, ρ, ω, env, m, x, A, y, e, k0⟩ => ?_
      simp only [hE, Option.bind_eq_some_iff] at e
      obtain ⟨z1, e1, z2, e2, e3⟩ := e
      refine ⟨Hf, ρ, ω, env, m, x, A, z1, e1, fun v H1 Hf1 ρ1 p1 f1 r1 => ?_⟩
      have A1 := A.pres p1 f1
      refine ⟨Hf1, ρ1, ω, env, m, x, A1, z2, e2, fun w H2 Hf2 ρ2 p2 f2 r2 => ?_⟩
      have A2 := A1.pres p2 f2
      exact ⟨Hf2, ρ2, ω, σ, env, m, z1, z2, y, A2.at_, .inl (r1.pres p2), .inl r2, e3, fun v3 H3 Hf3 ρ3 p3 f3 r3 => k0 v3 H3 Hf3 ρ3 ((p1.trans p2).trans p3) f3 r3⟩
    · cases h
  | .and p q, s, h => by
    have fin : PE (X.suite a ((a, oe) :: pn)) s (tAndV (tX X.K i a cls d Ca fld (hE p)) (tX X.K i a cls d Ca fld (hE q))) → PE (X.suite a ((a, oe) :: pn)) s (tX X.K i a cls d Ca fld (hE (.and p q))) := fun l => by
      refine PE.imp l fun σ H Q ⟨Hf, ρ, ω, env, m, x, A, y, e, k0⟩ => ?_
      simp only [hE, Option.bind_eq_some_iff] at e
      obtain ⟨z, e1, e2⟩ := e
      refine ⟨Hf, ρ, ω, env, m, x, A, z, e1, fun v H1 Hf1 ρ1 p1 f1 r1 => ?_⟩
      cases z with
      | bool b =>
        cases r1.1
        refine ⟨b, rfl, ?_⟩
        cases b with
        | true =>
          rw [if_pos rfl]
          exact ⟨Hf1, ρ1, ω, env, m, x, A.pres p1 f1, y, e2, fun v H2 Hf2 ρ2 p2 f2 r2 => k0 v H2 Hf2 ρ2 (p1.trans p2) f2 r2⟩
        | false =>
          rw [if_neg (by simp)]
          cases e2
          exact k0 _ H1 Hf1 ρ1 p1 f1 ⟨.bl _, rfl⟩
      | _ => cases e2
    simp only [okHE] at h; split at h
    · simp only [Bool.and_eq_true] at h
      exact fin (pe_and (sndHE p h.1) (pe_one (op := .And) (sndHE q h.2)))
    · simp only [Bool.and_eq_true] at h
      exact fin (pe_and (sndHE p h.1) (sndHE q h.2))
    · cases h
  | .nt p, s, h => by
    simp only [okHE] at h; split at h
    · refine PE.imp (pe_not (sndHE p h)) fun σ H Q ⟨Hf, ρ, ω, env, m, x, A, y, e, k0⟩ => ?_
      simp only [hE, Option.bind_eq_some_iff] at e
      obtain ⟨z, e1, e2⟩ := e
      refine ⟨Hf, ρ, ω, env, m, x, A, z, e1, fun v H1 Hf1 ρ1 p1 f1 r1 => ?_⟩
      cases z with
      | bool b =>
        cases r1.1
        cases e2
        exact ⟨b, rfl, k0 _ H1 Hf1 ρ1 p1 f1 ⟨.bl _, rfl⟩⟩
      | _ => cases e2
    · cases h
theorem sndHEs : ∀ (es : HEs) {l : List Expr}, okHEs G N c n fld k es l = true → PA (X.suite a ((a, oe) :: pn)) l (tXs X.K i a cls d Ca fld (hEs es))
  | .nil, l, h => by
    cases l with
    | nil =>
      refine PA.imp pa_nil fun σ H Q ⟨Hf, ρ, ω, env, m, x, A, zs, e, q⟩ => ?_
      cases e
      exact q [] H Hf ρ (Pres.refl _ _ _) A.at_.fine trivial
    | cons _ _ => simp [okHEs] at h
  | .cons e es, l, h => by
    cases l with
    | nil => simp [okHEs] at h
    | cons y r =>
      simp only [okHEs, Bool.and_eq_true] at h
      obtain ⟨⟨h1, h2⟩, h3⟩ := h
      refine PA.imp (pa_cons (sndHE e h1) (sndHEs es h3) (star_pl h2)) fun σ H Q ⟨Hf, ρ, ω, env, m, x, A, zs, e1, q⟩ => ?_
      simp only [hEs, Option.bind_eq_some_iff, Option.map_eq_some_iff] at e1
      obtain ⟨z, e2, zr, e3, rfl⟩ := e1
      refine ⟨Hf, ρ, ω, env, m, x, A, z, e2, fun v H' Hf' ρ' p f r1 => ?_⟩
      refine ⟨Hf', ρ', ω, env, m, x, A.pres p f, zr, e3, fun vs H2 Hf2 ρ2 p2 f2 r2 => ?_⟩
      exact q (v :: vs) H2 Hf2 ρ2 (p.trans p2) f2 ⟨r1.pres p2, r2⟩
end
theorem sndHcmp {o : CmpO} {op : CmpOp} (hop : cmpB o op = true) {p q : HE} {l r : Expr} {pos : Pos} (h1 : okHE G N c n fld k p l = true) (h2 : okHE G N c n fld k q r = true) (h3 : pl r = true) :
    PT (X.suite a ((a, oe) :: pn)) (.Compare l [op] [r] pos) (tXB X.K i a cls d Ca fld fun x σ => (hE p x σ).bind fun d => (hE q x σ).bind fun e => (cmpVal o d e).bind boolD) := by
  refine PT.imp (pt_cmpR (op_cmp (X := X.suite a ((a, oe) :: pn)) (by have := g.un; show X.A.units + 64 < cLine; omega) o op hop) (sndHE g hn hv T hk hz hf p h1) (sndHE g hn hv T hk hz hf q h2) (mark_pl h3)) fun σ H Q ⟨Hf, ρ, ω, env, m, x, A, b, e, k0⟩ => ?_
  rw [Option.bind_eq_some_iff] at e
  obtain ⟨z1, e1, e⟩ := e
  rw [Option.bind_eq_some_iff] at e
  obtain ⟨z2, e2, e⟩ := e
  rw [Option.bind_eq_some_iff] at e
  obtain ⟨z3, e3, e⟩ := e
  have eb := boolD_some e
  subst eb
  refine ⟨Hf, ρ, ω, env, m, x, A, z1, e1, fun v H1 Hf1 ρ1 p1 f1 r1 => ?_⟩
  have A1 := A.pres p1 f1
  refine ⟨Hf1, ρ1, ω, env, m, x, A1, z2, e2, fun w H2 Hf2 ρ2 p2 f2 r2 => ?_⟩
  have A2 := A1.pres p2 f2
  refine ⟨Hf2, ρ2, ω, σ, env, m, z1, z2, .bool b, A2.at_, .inl (r1.pres p2), .inl r2, e3, ?_⟩
  intro v3 H3 Hf3 ρ3 p3 f3 r3
  have : v3 = .bl b := by cases r3.1; rfl
  exact ⟨b, this, k0 H3 Hf3 ρ3 ((p1.trans p2).trans p3) f3⟩
theorem sndHB : ∀ (b : HB) {s : Expr}, okHB G N c n fld k b s = true → PT (X.suite a ((a, oe) :: pn)) s (tXB X.K i a cls d Ca fld (hB b))
  | .ne p q, s, h => by
    simp only [okHB] at h; split at h
    · simp only [Bool.and_eq_true] at h
      exact sndHcmp g hn hv T hk hz hf (o := .ne) (op := .NotEq) rfl h.1.1 h.1.2 h.2
    · cases h
  | .eq p q, s, h => by
    simp only [okHB] at h; split at h
    · simp only [Bool.and_eq_true] at h
      exact sndHcmp g hn hv T hk hz hf (o := .eq) (op := .Eq) rfl h.1.1 h.1.2 h.2
    · cases h
  | .not b, s, h => by
    simp only [okHB] at h; split at h
    · refine PT.imp (pt_not (sndHB b h)) fun σ H Q ⟨Hf, ρ, ω, env, m, x, A, y, e, q⟩ => ?_
      simp only [hB, Option.map_eq_some_iff] at e
      obtain ⟨z, e1, rfl⟩ := e
      exact ⟨Hf, ρ, ω, env, m, x, A, z, e1, fun H' Hf' ρ' p f => q H' Hf' ρ' p f⟩
    · cases h
  | .or b b', s, h => by
    simp only [okHB] at h; split at h
    · simp only [Bool.and_eq_true] at h
      refine PT.imp (pw_or (sndHB b h.1) (pw_or1 (sndHB b' h.2))).pt fun σ H Q ⟨Hf, ρ, ω, env, m, x, A, y, e, q⟩ => ?_
      simp only [hB, Option.bind_eq_some_iff] at e
      obtain ⟨z, e1, e2⟩ := e
      refine ⟨Hf, ρ, ω, env, m, x, A, z, e1, fun H' Hf' ρ' p f => ?_⟩
      cases z with
      | true =>
        rw [if_pos rfl] at e2; cases e2
        exact q H' Hf' ρ' p f
      | false =>
        rw [if_neg (by simp)] at e2
        exact ⟨Hf', ρ', ω, env, m, x, A.pres p f, y, e2, fun H2 Hf2 ρ2 p2 f2 => q H2 Hf2 ρ2 (p.trans p2) f2⟩
    · cases h
  | .isx D b, s, h => by
    have h0 : okHE G N c n fld k (.isx D b) s = true := h
    have hp := sndHE (a := a) (pn := pn) g hn hv T hk hz hf (.isx D b) h0
    have he : ∀ whole, isTrue s (X.suite a ((a, oe) :: pn)).env whole = (do let v ← whole; standAt s.pos; holding [v] (truthy v)) := by
      simp only [okHE] at h0; split at h0
      · intro whole; rfl
      · cases h0
    refine PT.imp (pt_val hp he) fun σ H Q ⟨Hf, ρ, ω, env, m, x, A, y, e, q⟩ => ?_
    cases e
    refine ⟨Hf, ρ, ω, env, m, x, A, .bool b, rfl, fun v H' Hf' ρ' p f r => ?_⟩
    have : v = .bl b := by cases r.1; rfl
    exact ⟨b, this, q H' Hf' ρ' p f⟩
/-- where a suite goes -/
def tHS (K : PySem.W.Frag) (i : Nat) (a : Addr) (cls : Value) (d : Option Addr) (Ca : Addr) (fld : Str) (hs : List HS) : TS := fun D σ H => ∃ Hf ρ ω env m x, AtX K H σ Hf ρ ω env m i a cls d Ca fld x ∧ ∃ fl, hSs hs x env = some fl ∧
  ∀ H' Hf' ρ', Pres H Hf ρ H' Hf' ρ' → Fine K H' Hf' ρ' m → endF D K σ H' Hf' ρ' fl
theorem sndHS : ∀ (hs : List HS) {l : List Stmt}, okHS G N c n fld k hs l = true → PSs (X.suite a ((a, oe) :: pn)) l (tHS X.K i a cls d Ca fld hs)
  | [], l, h => by
    simp only [okHS] at h; split at h
    · refine PSs.imp pss_nil fun D σ H ⟨Hf, ρ, ω, env, m, x, A, fl, e, q⟩ => ?_
      cases e
      exact q H Hf ρ (Pres.refl _ _ _) A.at_.fine
    · cases h
  | .ife b e :: r, l, h => by
    simp only [okHS] at h; split at h
    · simp only [Bool.and_eq_true] at h
      obtain ⟨⟨h1, h2⟩, h3⟩ := h
      refine PSs.imp (pss_cons (ps_if (sndHB g hn hv T hk hz hf b h1) (pss_one (ps_ret (sndHE g hn hv T hk hz hf e h2))) pss_nil) (sndHS r h3)) fun D σ H ⟨Hf, ρ, ω, env, m, x, A, fl, e1, q⟩ => ?_
      simp only [hSs, Option.bind_eq_some_iff] at e1
      obtain ⟨y, e2, e3⟩ := e1
      refine ⟨Hf, ρ, ω, env, m, x, A, y, e2, fun H1 Hf1 ρ1 p1 f1 => ?_⟩
      have A1 := A.pres p1 f1
      cases y with
      | true =>
        rw [if_pos rfl, Option.map_eq_some_iff] at e3
        obtain ⟨z, e4, rfl⟩ := e3
        refine ⟨Hf1, ρ1, ω, env, m, x, A1, z, e4, fun v H2 Hf2 ρ2 p2 f2 r2 => ?_⟩
        exact q H2 Hf2 ρ2 (p1.trans p2) f2 v r2
      | false =>
        rw [if_neg (by simp)] at e3
        exact ⟨Hf1, ρ1, ω, env, m, x, A1, fl, e3, fun H2 Hf2 ρ2 p2 f2 => q H2 Hf2 ρ2 (p1.trans p2) f2⟩
    · cases h
  | .ret e :: r, l, h => by
    simp only [okHS] at h; split at h
    · refine PSs.imp (pss_one (ps_ret (sndHE g hn hv T hk hz hf e h))) fun D σ H ⟨Hf, ρ, ω, env, m, x, A, fl, e1, q⟩ => ?_
      simp only [hSs, Option.map_eq_some_iff] at e1
      obtain ⟨z, e4, rfl⟩ := e1
      exact ⟨Hf, ρ, ω, env, m, x, A, z, e4, fun v H2 Hf2 ρ2 p2 f2 r2 => q H2 Hf2 ρ2 p2 f2 v r2⟩
    · cases h
end
section
variable {G : Cfg} {N : List Str} {C : Calls} {XR : XRel} {X : Cx} {W : WX} {c : Sc}
theorem GX.tr (g : GX G N C XR X W c) {pn : List (Addr × Obj)} {xe : Value → Shared → Prop} {W' : WX} (tk : Takes (X.tr pn xe) W') : GX G N C XR (X.tr pn xe) W' c :=
  ⟨g.hN, g.sc, g.fn, g.nd, g.calm, g.gd, tk, g.un, g.bn, g.fns, g.gl, g.gdt, g.rm, g.xr, g.xt⟩
def endT (K : PySem.W.Frag) (md : TM) (D : Ends) (σ : L2.St) (v : V) (H : Hp) : Prop := match md with
  | .ex => D.nx σ H
  | .exr d => ∀ w, (∀ H, Dp K H w d) → szOk d = true → D.rt w H
  | .rt => D.rt v H
def tTB (K : PySem.W.Frag) (XR : XRel) (md : TM) (fe : Env → Mem → R U) (W : WX) : TS := fun D σ H => tU K XR W fe σ H fun v H1 => endT K md D σ v H1
theorem StAt.clr {K : PySem.W.Frag} {B : Bs} {σ : L2.St} {H Hf : Hp} {ρ : List Addr} {ω : Nat → Addr} {env env' : Env} {m : Mem} {i : Nat} {o : Option V} (s : StAt K B σ H Hf ρ ω env m) (h : clrS env i = some env') : StAt K B (σ.set i o) H Hf ρ ω env' m := by
  have e : env' = env.set i .no := by
    unfold clrS at h
    split at h
    · cases h
    · cases h; rfl
    · cases h
  subst e
  refine ⟨s.fine0, s.pres, s.low, ⟨s.at_.fine, s.at_.slots.setNo⟩, fun j xs e => ?_⟩
  rw [List.getElem?_set] at e
  split at e
  · split at e <;> cases e
  · exact s.new j xs e
theorem clrS_lt {env env' : Env} {i : Nat} (h : clrS env i = some env') : i < env.length := by
  unfold clrS at h
  split at h
  · cases h
  · rename_i e; exact (List.getElem?_eq_some_iff.mp e).1
  · cases h
theorem s_tryX (g : GX G N C XR X W c) (hst : X.stack = X.env :: X.outer) (hfr : X.env.frame = some X.env.locals) {md : TM} {i k : Nat} {hs : List HS} {fe : Env → Mem → R U} {p : Str × Str} {n : Str} {b₀ : Stmt} {body suite : List Stmt} {np pos' pos : Pos}
    (hn : N[i]? = some n) (hln : c.sc.names.lookup n = some .local) (hv : visB c n = true) (hgl : glB c p.1 = true) (hk : G.cl[k]? = some p) (hsu : okHS G N c n p.2 k hs (b₀ :: suite) = true)
    (hb : ∀ (W' : WX) (pn : List (Addr × Obj)) (xe : Value → Shared → Prop), Takes (X.tr pn xe) W' → PSs (X.tr pn xe) body (tTB X.K XR md fe W')) :
    PS X (.Try body [.ExceptHandler (some (.Name p.1 np)) (some n) (b₀ :: suite) pos'] [] [] pos) (tS X.K XR W fun σ m => tryGo md i k hs σ (fe σ m)) := by
  obtain ⟨q1, q2⟩ := g.glo hgl
  obtain ⟨Ck, fI, T⟩ := g.xt.cls k p hk
  have hlk : X.env.kindOf n = some .local := by
    show X.env.scope.names.lookup n = _
    rw [g.sc]; exact hln
  refine PS.imp (ps_try_as (X := X) (c := .ref Ck) (ts := fun a cls d => tHS X.K i a cls d Ck p.2 hs) (tb := fun W' => tTB X.K XR md fe W') (Wout := W) hst hfr g.nd (by rw [g.hN]; exact hn) hlk ⟨q1, q2, .inl T.gC⟩ g.takes (fun W' pn xe tk _ => hb W' pn xe tk)
    (fun a oe cls d pn hz hf => sndHS (nm := p.1) g hn hv T hk hz hf hs hsu)) fun D σ H ⟨B, Hf, ρ, ω, env, m, s, o⟩ => ?_
  refine ⟨Hf, ρ, ω, env, m, s.at_, ?_⟩
  dsimp only at o
  cases he : fe env m with
  | bad => rw [he] at o; exact (o : False).elim
  | ok u m1 =>
    rw [he] at o
    intro v H1 Hf1 ρ1 p1 f1 r1
    have s1 := s.step p1 f1
    cases md with
    | ex => exact StAt.ok (XR := XR) (W := W) (D := D) (x := (F.nx, env)) s1 o
    | exr d => exact fun w hw hz => StAt.ok (XR := XR) (W := W) (D := D) (x := (F.ret (.dat d), env)) s1 o w ⟨hw _, hz⟩
    | rt => exact StAt.ok (XR := XR) (W := W) (D := D) (x := (F.ret u, env)) s1 o v r1
  | exc c0 x m1 =>
    rw [he] at o
    intro cls d H1 Hf1 ρ1 p1 f1 xr
    have s1 := s.step p1 f1
    have xr0 := xr
    rw [g.xr] at xr
    obtain ⟨p0, Ca, dd, v, e1, e2, rfl, rfl, e5, e6⟩ := xr
    refine ⟨decide (c0 = k), g.xt.exm c0 k p0 p Ca Ck e1 hk e2 T.gC, fun hb a ha => ?_, fun hb => ?_⟩
    · have hc := of_decide_eq_true hb
      subst hc
      simp only [tryGo, if_true] at o
      rw [e1] at hk
      cases hk
      have eC : Ca = Ck := by
        have := e2.symm.trans T.gC
        injection this with this
        injection this
      subst eC
      cases x with
      | ref _ => exact (o : False).elim
      | dat x =>
        simp only at o
        cases hc : clrS env i with
        | none => rw [hc] at o; exact (o : False).elim
        | some env' =>
          rw [hc] at o
          simp only at o
          cases hh : hSs hs x env' with
          | none => rw [hh] at o; exact (o : False).elim
          | some fl =>
            rw [hh] at o
            simp only at o
            have s2 : StAt X.K B (σ.set i (some (.ref a))) H1 Hf1 ρ1 ω env' m1 := s1.clr hc
            have hil : i < σ.length := by rw [s.at_.slots.len]; exact clrS_lt hc
            refine ⟨Hf1, ρ1, ω, env', m1, x, ⟨s2.at_, by rw [List.getElem?_set]; simp [hil], rfl, dd, v, rfl, e5, e6⟩, fl, hh, fun H2 Hf2 ρ2 p2 f2 => ?_⟩
            have s3 : StAt X.K B ((σ.set i (some (.ref a))).set i none) H2 Hf2 ρ2 ω env' m1 := by
              rw [List.set_set]
              exact (s1.clr hc).step p2 f2
            have := o _ H2 Hf2 ρ2 ω s3
            cases fl with
            | nx => exact this
            | brk => exact this
            | cnt => exact this
            | ret u => exact this
    · have hc := of_decide_eq_false hb
      simp only [tryGo, if_neg hc] at o
      exact o _ _ _ _ _ _ s1.pres f1 xr0
end
end Eng

set_option Elab.async false
set_option linter.all false
set_option maxRecDepth 100000
set_option maxHeartbeats 1000000
/-! Statements: loops, a list comprehension into a name, THE LAW. -/
namespace Eng
open PySem PySem.Spec PyProof.Rows L2
section
variable {G : Cfg} {N : List Str} {C : Calls} {XR : XRel} {X : Cx} {W : WX} {c : Sc} {L : Nat} {s e v : Expr} {pos : Pos}
theorem sw_lc (g : GX G N C XR X W c) {i : Nat} {x : Str} {p sp : Pos} {a : E} (h1 : N[i]? = some x) (h2 : locB c x = true) (hf : isF a = true) (h : okE G N a c v = true) (hs : swC c x p v = true) : PS X (.Assign [.Name x p] v sp) (tAsg (tF X.K XR W (evE C a)) (gName i)) := by
  by_cases hn : noLc v = true
  · exact sw_set g h1 h2 hn (sndF g hf h)
  · cases a <;> simp only [isF, Bool.false_eq_true] at hf
    case lst es =>
      simp only [okE] at h; split at h
      · exact absurd rfl hn
      · cases h
    case lmul es k =>
      simp only [okE] at h; split at h
      · exact absurd rfl hn
      · cases h
    case ladd a b =>
      simp only [okE] at h; split at h
      · exact absurd rfl hn
      · cases h
    case b1 f a =>
      simp only [okE] at h; split at h
      · exact absurd rfl hn
      · cases h
    case comp elt tg it cond own =>
      simp only [okE] at h; split at h
      · rename_i e t k ifs scope vp
        unfold swC at hs
        simp only [Bool.and_eq_true, decide_eq_true_eq, Bool.not_eq_true'] at hs
        obtain ⟨⟨⟨k1, k2⟩, k3⟩, k4⟩ := hs
        have ly : X.env.scope.names.lookup x = some .local := by rw [g.sc]; exact k2
        simp only [Bool.and_eq_true] at h
        obtain ⟨⟨⟨⟨⟨⟨h1', h2'⟩, h3⟩, h4⟩, h5⟩, h6⟩, h7⟩ := h
        have hs' : ∀ i ∈ slotsTg tg, i ∈ own.map (·.2) := fun i hi => by
          have := List.all_eq_true.mp h5 i hi
          simpa using this
        refine PS.imp (ps_setLc (own := own) (g := gT X.K tg) (tt := tC X.K XR (if isNo cond = true then none else some (evE C cond))) (te := tU X.K XR WF (evE C elt)) g.calm g.nd (by rw [g.hN]; exact h1) ly (sw_true (kindB_ok g k4) ly k1 k3) (sndI it g h2') (blkOk_by (by rw [g.hN, g.sc]; exact h1'))
          (fun s H D cl fp => pg_T (g.blk s H scope cl D fp) h4)
          (fun s H D cl fp => (condOk (C := C) (XR := XR) (X := X.blk s H scope (compEnvC scope cl D X.env) fp) (cond := cond) (by
            split at h7
            · exact h7
            · simp only [Bool.and_eq_true, Bool.not_eq_true'] at h7
              exact ⟨h7.1, (snd cond (g.blk s H scope cl D fp) h7.2).2⟩
            · cases h7) : PTs (X.blk s H scope (compEnvC scope cl D X.env) fp) ifs (tC X.K XR (if isNo cond = true then none else some (evE C cond)))))
          (fun s H D cl fp => ((snd elt (g.blk s H scope cl D fp) h6).1 : PE _ e (tU X.K XR WF (evE C elt)))) (folded_pl h3)) fun D σ H q => ?_
        refine lc_imp hs' ?_
        simp only [evE, cA_oQ] at q
        exact q
      · cases h
    case comp2 elt tg it tg' it' cond own =>
      simp only [okE] at h; split at h
      · rename_i e t k t' k' ifs scope vp
        unfold swC at hs
        simp only [Bool.and_eq_true, decide_eq_true_eq, Bool.not_eq_true'] at hs
        obtain ⟨⟨⟨k1, k2⟩, k3⟩, k4⟩ := hs
        have ly : X.env.scope.names.lookup x = some .local := by rw [g.sc]; exact k2
        simp only [Bool.and_eq_true] at h
        obtain ⟨⟨⟨⟨⟨⟨⟨⟨⟨⟨h1', h2'⟩, h3⟩, h4⟩, h5⟩, h6⟩, h7⟩, h8⟩, h9⟩, h10⟩, h11⟩ := h
        have hs' : ∀ i ∈ slotsTg tg, i ∈ own.map (·.2) := fun i hi => by
          have := List.all_eq_true.mp h5 i hi
          simpa using this
        have hs2' : ∀ i ∈ slotsTg tg', i ∈ own.map (·.2) := fun i hi => by
          have := List.all_eq_true.mp h9 i hi
          simpa using this
        refine PS.imp (ps_setLc2 (own := own) (g := gT X.K tg) (tt := tYes) (g1 := gT X.K tg') (tt1 := tC X.K XR (if isNo cond = true then none else some (evE C cond))) (te := tU X.K XR WF (evE C elt)) (wi1 := tI X.K XR WF (evI C it')) (vs1 := slotsTg tg') g.calm g.nd (by rw [g.hN]; exact h1) ly (sw_true (kindB_ok g k4) ly k1 k3) (sndI it g h2') (blkOk_by (by rw [g.hN, g.sc]; exact h1')) hs2'
          (fun s H D cl fp => pg_T (g.blk s H scope cl D fp) h4) (fun s H D cl fp => pts_nil) (fun s H D cl fp => sndI it' (g.blk s H scope cl D fp) h6) (fun s H D cl fp => pg_T (g.blk s H scope cl D fp) h8)
          (fun s H D cl fp => (condOk (C := C) (XR := XR) (X := X.blk s H scope (compEnvC scope cl D X.env) fp) (cond := cond) (by
            split at h11
            · exact h11
            · simp only [Bool.and_eq_true, Bool.not_eq_true'] at h11
              exact ⟨h11.1, (snd cond (g.blk s H scope cl D fp) h11.2).2⟩
            · cases h11) : PTs (X.blk s H scope (compEnvC scope cl D X.env) fp) ifs (tC X.K XR (if isNo cond = true then none else some (evE C cond)))))
          (fun s H D cl fp => ((snd elt (g.blk s H scope cl D fp) h10).1 : PE _ e (tU X.K XR WF (evE C elt)))) (folded_pl h3) (fun env => folded_pl h7)) fun D σ H q => ?_
        refine lc2_imp hs' ?_
        simp only [evE, cA_oQ] at q
        exact q
      · cases h
theorem s_for (hp : PassesOwn (model X.prog X.w) X.A X.env X.xe) (g : GX G N C XR X W c) {fi : Env → Mem → R (List PyData)} {fb : Env → Mem → R (F × Env)} {tg : Tg} {t i : Expr} {body : List Stmt} (ht : okTg N c tg t = true) (hi : PI X t i (tI X.K XR W fi)) (hpl : pl i = true) (hb : PSs X body (tS X.K XR W fb)) :
    PS X (.For t i body [] pos) (tS X.K XR W fun σ m => (fi σ m).bind fun ds m1 => forGo fb tg ds σ m1) := by
  refine PS.imp (ps_for hp g.calm hi (pg_T g ht) hb (folded_pl hpl)) fun D σ H ⟨B, Hf, ρ, ω, env, m, s, o⟩ => ?_
  obtain ⟨A, B', D', E, F', a1, o1⟩ := s.bindE (Rp := RI X.K) o
  refine ⟨A, B', D', E, F', a1, o1.mono fun J H1 ⟨ds, Hf1, ρ1, m1, p, s1, ⟨hJ, hz⟩, o1⟩ => ?_⟩
  refine ⟨fun i k σ H => ∃ Hf ρ ω env m, i ≤ ds.length ∧ k = ds.length - i ∧ StAt X.K ⟨B.H, B.Hf, B.ρ, Hf1⟩ σ H Hf ρ ω env m ∧ OutS X.K XR W B D (forGo fb tg (ds.drop i) env m),
    ⟨_, Hf1, ρ1, ω, env, m1, Nat.zero_le _, rfl, ⟨s1.fine0, s1.pres, Sub.refl _, s1.at_, s1.new⟩, o1⟩, fun i k σ2 H2 ⟨Hf2, ρ2, ω2, env2, m2, hi, hk, s2, o2⟩ => ?_⟩
  have back : ∀ {σ H Hf ρ ω env m}, StAt X.K ⟨B.H, B.Hf, B.ρ, Hf1⟩ σ H Hf ρ ω env m → StAt X.K B σ H Hf ρ ω env m := fun q => ⟨q.fine0, q.pres, s1.low.trans q.low, q.at_, q.new⟩
  by_cases he : i = ds.length
  · subst he
    rw [List.drop_length] at o2
    refine .inl ⟨(hJ H2 Hf2 s2.low s2.at_.fine.sub _).2 rfl, ?_⟩
    exact StAt.ok (x := (F.nx, env2)) (back s2) o2
  · have hlt : i < ds.length := by omega
    rw [drop_cons hlt] at o2
    unfold forGo at o2
    obtain ⟨hgo, hy⟩ := Pres.turn (hJ.mono s2.low) s2.at_.fine (List.getElem?_eq_getElem hlt)
    have hzd : szOk ds[i] = true := szAll_iff.mp hz _ (List.getElem_mem hlt)
    refine .inr ⟨hgo, fun σ H => ∃ Hf ρ ω env m, StAt X.K ⟨B.H, B.Hf, B.ρ, Hf1⟩ σ H Hf ρ ω env m ∧ OutS X.K XR W B D (forGo fb tg (ds.drop (i + 1)) env m), fun σ' H' ⟨Hf, ρ, ω, env, m, q1, q2⟩ => ⟨_, (by omega : ds.length - (i + 1) < k), Hf, ρ, ω, env, m, hlt, rfl, q1, q2⟩, fun x H3 hyl => ?_⟩
    obtain ⟨Hf3, p3, f3, hdp⟩ := hy x H3 hyl
    have s3 := s2.step p3 f3
    cases ha : asgTg tg ds[i] env2 with
    | none => rw [ha] at o2; exact o2.elim
    | some env' =>
      rw [ha] at o2
      simp only at o2
      refine gT_ok s3.at_ hdp hzd ha fun σ' a' _ => ?_
      refine ⟨⟨B.H, B.Hf, B.ρ, Hf1⟩, Hf3, ρ2, ω2, env', m2, ⟨s3.fine0, s3.pres, s3.low, a', fun j xs e => s3.new j xs (asgTg_own ha e)⟩, ?_⟩
      cases hf : fb env' m2 with
      | bad => rw [hf] at o2; exact o2.elim
      | exc cc xx mm => rw [hf] at o2; exact o2
      | ok y m4 =>
        rw [hf, R.bind_ok] at o2
        intro σ5 H5 Hf5 ρ5 ω5 s5
        obtain ⟨fl, env5⟩ := y
        cases fl with
        | nx => exact ⟨Hf5, ρ5, ω5, env5, m4, s5, o2⟩
        | cnt => exact ⟨Hf5, ρ5, ω5, env5, m4, s5, o2⟩
        | brk => exact StAt.ok (XR := XR) (W := W) (D := D) (x := (F.nx, env5)) (back s5) o2
        | ret u => exact StAt.ok (XR := XR) (W := W) (D := D) (x := (F.ret u, env5)) (back s5) o2
/-- a statement: no reading where the evaluator has none -/
theorem s_never {f : Env → Mem → R (F × Env)} {st : Stmt} (h : ∀ σ m, f σ m = .bad) : PS X st (tS X.K XR W f) := PS.imp ps_never fun D σ H ⟨B, Hf, ρ, ω, env, m, s, o⟩ => by rw [h] at o; exact o
theorem s_raise (g : GX G N C XR X W c) {k : Nat} {p : Str × Str} {fe : Env → Mem → R U} {a : Expr} {np cp pos : Pos} (hgl : glB c p.1 = true) (hk : G.cl[k]? = some p) (he : PE X a (tU X.K XR W fe)) (hp : pl a = true) :
    PS X (.Raise (some (.Call (.Name p.1 np) [a] [] cp)) none pos) (tS X.K XR W fun σ m => (fe σ m).bind fun u m1 => .exc k u m1) := by
  obtain ⟨q1, q2⟩ := g.glo hgl
  obtain ⟨Ck, fI, T⟩ := g.xt.cls k p hk
  obtain ⟨kr, hr⟩ := g.rm
  refine PS.imp (ps_raiseOwn g.calm T hr g.takes (pa_cons he pa_nil (star_pl hp)) q1 q2 (star_pl hp) rfl) fun D σ H ⟨B, Hf, ρ, ω, env, m, s, o⟩ => ?_
  obtain ⟨A, B', D', E, F', a1, o1⟩ := s.bindE (Rp := RU X.K) o
  refine ⟨A, B', D', E, F', a1, o1.mono fun v H1 ⟨u, Hf1, ρ1, m1, p1, s1, r, o2⟩ => ?_⟩
  refine ⟨v, rfl, fun d hd => ?_⟩
  refine o2 _ _ σ _ (upd Hf1 d (.xd [(p.2, v)])) ρ1 (s1.pres.trans (Pres.new hd s1.at_.fine.sub)) (s1.at_.fine.new hd) ?_
  rw [g.xr]
  exact ⟨p, Ck, d, v, hk, T.gC, rfl, rfl, upd_same, r.pres (Pres.new hd s1.at_.fine.sub)⟩
mutual
theorem sndS (hp : PassesOwn (model X.prog X.w) X.A X.env X.xe) (hq : X.stack = X.env :: X.outer ∧ X.env.frame = some X.env.locals) (g : GX G N C XR X W c) : ∀ (s : S) {st : Stmt}, okS G N c s st = true → PS X st (tS X.K XR W (evS L C s))
  | .asg i e, st, h => by
    simp only [okS] at h; split at h
    · simp only [Bool.and_eq_true, decide_eq_true_eq] at h
      obtain ⟨⟨⟨h1, h2⟩, h3⟩, h4⟩ := h
      exact s_asg (sw_set g h1 h2 h4 (snd e g h3).1)
    · cases h
  | .own i e, st, h => by
    simp only [okS] at h; split at h
    · simp only [Bool.and_eq_true, decide_eq_true_eq] at h
      obtain ⟨⟨⟨⟨h1, h2⟩, h3⟩, h4⟩, h5⟩ := h
      exact s_own (sw_lc g h1 h2 h4 h3 h5)
    · cases h
  | .frz i, st, h => by simp [okS] at h
  | .asgT ts e, st, h => by
    simp only [okS] at h; split at h
    · simp only [Bool.and_eq_true, Bool.or_eq_true, Bool.not_eq_true'] at h
      obtain ⟨⟨h1, h2⟩, h3⟩ := h
      exact s_asgT g h1 (snd e g h2).1 h3
    · cases h
  | .par2 i j a b, st, h => by simp [okS] at h
  | .par2o i j a b, st, h => by
    simp only [okS] at h; split at h
    · simp only [Bool.and_eq_true] at h
      obtain ⟨⟨⟨h1, h2⟩, h3⟩, h4⟩ := h
      exact s_par2o g h1 (snd a g h2).1 (sndF g h4 h3)
    · cases h
  | .par1o i j a b, st, h => by
    simp only [okS] at h; split at h
    · simp only [Bool.and_eq_true] at h
      obtain ⟨⟨⟨h1, h2⟩, h3⟩, h4⟩ := h
      exact s_par1o g h1 (sndF g h4 h2) (snd b g h3).1
    · cases h
  | .asgTo i j a b, st, h => by
    simp only [okS] at h; split at h
    · simp only [Bool.and_eq_true, decide_eq_true_eq] at h
      obtain ⟨⟨⟨⟨⟨⟨⟨⟨⟨h1, h2⟩, h3⟩, h4⟩, h5⟩, h6⟩, h7⟩, h8⟩, h9⟩, h10⟩ := h
      exact s_asgTo g h1 h2 h3 h4 h5 h7 h9 (sndF g h10 h6) (snd b g h8).1
    · cases h
  | .par2oo i j a b, st, h => by simp [okS] at h
  | .par3o i j k a b d, st, h => by simp [okS] at h
  | .augO i ix o e, st, h => by simp [okS] at h
  | .setOP i ix j e, st, h => by simp [okS] at h
  | .setO i ix e, st, h => by
    simp only [okS] at h; split at h
    · simp only [Bool.and_eq_true, decide_eq_true_eq] at h
      obtain ⟨⟨⟨⟨h1, h2⟩, h3⟩, h4⟩, h5⟩ := h
      exact s_setO g h1 h2 h4 (snd ix g h3).1 (snd e g h5).1
    · cases h
  | .setM r ix e, st, h => by
    simp only [okS] at h; split at h
    · simp only [Bool.and_eq_true] at h
      obtain ⟨⟨⟨h1, h2⟩, h3⟩, h4⟩ := h
      exact s_setM g h3 (snd r g h1).1 (snd ix g h2).1 (snd e g h4).1
    · cases h
  | .app i e, st, h => by
    simp only [okS] at h; split at h
    · simp only [Bool.and_eq_true, decide_eq_true_eq] at h
      obtain ⟨⟨⟨⟨⟨rfl, h1⟩, h2⟩, h3⟩, h4⟩, h5⟩ := h
      exact s_app g h1 h2 h4 h5 (snd e g h3).1
    · cases h
  | .ext i e, st, h => by
    simp only [okS] at h; split at h
    · simp only [Bool.and_eq_true, decide_eq_true_eq] at h
      obtain ⟨⟨⟨⟨⟨⟨rfl, h1⟩, h2⟩, h3⟩, h4⟩, h5⟩, h6⟩ := h
      exact s_ext g h1 h2 h4 h5 (sndF g h6 h3)
    · cases h
  | .setO2 i ix ix2 e, st, h => by
    simp only [okS] at h; split at h
    · simp only [Bool.and_eq_true, decide_eq_true_eq] at h
      obtain ⟨⟨⟨⟨⟨⟨⟨⟨h1, rfl⟩, h2⟩, h3⟩, h4⟩, h5⟩, h6⟩, h7⟩, h8⟩ := h
      exact s_setO2 g h1 h2 h4 h6 (snd ix g h3).1 (snd ix2 g h5).1 (snd e g h7).1 h8
    · cases h
  | .popO i j, st, h => by simp [okS] at h
  | .aug i o e, st, h => by simp [okS] at h
  | .expr e, st, h => by
    simp only [okS] at h; split at h
    · simp only [Bool.and_eq_true] at h
      refine PS.imp (ps_expr (snd e g h.1).1 (sw_no h.2)) fun D σ H ⟨B, Hf, ρ, ω, env, m, s, o⟩ => ?_
      simp only [evS] at o
      obtain ⟨A, B', D', E, F', a1, o1⟩ := s.bindE (Rp := RU X.K) o
      exact ⟨A, B', D', E, F', a1, o1.mono fun x H1 ⟨u, Hf1, ρ1, m1, p, s1, r, o1⟩ => StAt.ok (x := (F.nx, env)) s1 o1⟩
    · cases h
  | .ife k t f, st, h => by
    simp only [okS] at h; split at h
    · simp only [Bool.and_eq_true] at h
      obtain ⟨⟨h1, h2⟩, h3⟩ := h
      refine PS.imp (ps_if (snd k g h1).2 (sndSs hp hq g t h2) (sndSs hp hq g f h3)) fun D σ H ⟨B, Hf, ρ, ω, env, m, s, o⟩ => ?_
      simp only [evS] at o
      obtain ⟨A, B', D', E, F', a1, o1⟩ := s.bindE (f := fun σ m => (evE C k σ m).bind asB) (Rp := RBl) o
      refine ⟨A, B', D', E, F', a1, o1.mono fun b H1 ⟨u, Hf1, ρ1, m1, p, s1, r, o1⟩ => ?_⟩
      cases r
      cases b with
      | true => exact ⟨B, Hf1, ρ1, ω, env, m1, s1, o1⟩
      | false => exact ⟨B, Hf1, ρ1, ω, env, m1, s1, o1⟩
    · cases h
  | .for_ tg it body, st, h => by
    simp only [okS] at h; split at h
    · simp only [Bool.and_eq_true] at h
      obtain ⟨⟨⟨h1, h2⟩, h3⟩, h4⟩ := h
      exact s_for hp g h1 (sndI it g h2) h3 (sndSs hp hq g body h4)
    · cases h
  | .whl k body, st, h => by simp [okS] at h
  | .ret e, st, h => by
    simp only [okS] at h; split at h
    · refine PS.imp (ps_ret (snd e g h).1) fun D σ H ⟨B, Hf, ρ, ω, env, m, s, o⟩ => ?_
      simp only [evS] at o
      obtain ⟨A, B', D', E, F', a1, o1⟩ := s.bindE (Rp := RU X.K) o
      exact ⟨A, B', D', E, F', a1, o1.mono fun x H1 ⟨u, Hf1, ρ1, m1, p, s1, r, o1⟩ => StAt.ok (x := (F.ret u, env)) s1 o1 x r⟩
    · cases h
  | .retN, st, h => by
    simp only [okS] at h; split at h
    · refine PS.imp ps_retN fun D σ H ⟨B, Hf, ρ, ω, env, m, s, o⟩ => ?_
      exact StAt.ok (x := (F.ret (.dat .none), env)) s o _ ⟨.non, rfl⟩
    · cases h
  | .brk, st, h => by
    simp only [okS] at h; split at h
    · exact PS.imp ps_break fun D σ H ⟨B, Hf, ρ, ω, env, m, s, o⟩ => StAt.ok (x := (F.brk, env)) s o
    · cases h
  | .cnt, st, h => by
    simp only [okS] at h; split at h
    · exact PS.imp ps_continue fun D σ H ⟨B, Hf, ρ, ω, env, m, s, o⟩ => StAt.ok (x := (F.cnt, env)) s o
    · cases h
  | .pass, st, h => by
    simp only [okS] at h; split at h
    · exact PS.imp ps_pass fun D σ H ⟨B, Hf, ρ, ω, env, m, s, o⟩ => StAt.ok (x := (F.nx, env)) s o
    · exact PS.imp ps_doc fun D σ H ⟨B, Hf, ρ, ω, env, m, s, o⟩ => StAt.ok (x := (F.nx, env)) s o
    · cases h
  | .raise k e, st, h => by
    cases hno : isNo e with
    | true =>
      refine s_never fun σ m => ?_
      cases e <;> simp only [isNo, Bool.false_eq_true] at hno
      rfl
    | false =>
      simp only [okS, hno, Bool.false_or] at h; split at h
      · simp only [Bool.and_eq_true] at h
        obtain ⟨⟨⟨h1, h2⟩, h3⟩, h4⟩ := h
        split at h1
        · rename_i p hp0
          have := of_decide_eq_true h1
          subst this
          exact s_raise g h2 hp0 (snd e g h3).1 h4
        · cases h1
      · cases h
  | .tryX md e i k hs, st, h => by
    simp only [okS] at h; split at h
    · simp only [Bool.and_eq_true, decide_eq_true_eq] at h
      obtain ⟨⟨⟨⟨⟨h1, h2⟩, h3⟩, h4⟩, h5⟩, h6⟩ := h
      split at h5
      · rename_i p hp0
        simp only [Bool.and_eq_true, decide_eq_true_eq] at h5
        obtain ⟨h5, h7⟩ := h5
        subst h5
        refine s_tryX g hq.1 hq.2 h1 h2 h3 h4 hp0 h7 fun W' pn xe tk => ?_
        have g' := g.tr tk
        split at h6
        · simp only [Bool.and_eq_true] at h6
          exact PSs.imp (pss_one (ps_expr (snd e g' h6.1).1 (sw_no h6.2))) fun D σ H q => q
        · simp only [Bool.and_eq_true] at h6
          obtain ⟨v, c1, c2, c3⟩ := cst_pe (X := X.tr pn xe) h6.2
          exact PSs.imp (pss_cons (ps_expr (snd e g' h6.1.1).1 (sw_no h6.1.2)) (pss_one (ps_ret c1))) fun D σ H ⟨Hf, ρ, ω, env, m, a, o⟩ => ⟨Hf, ρ, ω, env, m, a, OutE.mono o fun w H1 q => q v c2 c3⟩
        · exact PSs.imp (pss_one (ps_ret (snd e g' h6).1)) fun D σ H q => q
        · cases h6
      · cases h5
    · cases h
theorem sndSs (hp : PassesOwn (model X.prog X.w) X.A X.env X.xe) (hq : X.stack = X.env :: X.outer ∧ X.env.frame = some X.env.locals) (g : GX G N C XR X W c) : ∀ (ss : Ss) {l : List Stmt}, okSs G N c ss l = true → PSs X l (tS X.K XR W (evSs L C ss))
  | .nil, l, h => by
    cases l with
    | nil => exact PSs.imp pss_nil fun D σ H ⟨B, Hf, ρ, ω, env, m, s, o⟩ => StAt.ok (x := (F.nx, env)) s o
    | cons _ _ => simp [okSs] at h
  | .cons s ss, l, h => by
    by_cases hs : ∃ i, s = .frz i
    · obtain ⟨i, rfl⟩ := hs
      simp only [okSs] at h
      refine PSs.imp (sndSs hp hq g ss h) fun D σ H ⟨B, Hf, ρ, ω, env, m, s, o⟩ => ?_
      simp only [evSs, evS] at o
      split at o
      · rename_i xs e
        rw [R.bind_ok] at o
        obtain ⟨Hf', s'⟩ := s.frz e
        exact ⟨B, Hf', ρ, ω, _, m, s', o⟩
      · rw [R.bind_ok] at o
        exact ⟨B, Hf, ρ, ω, env, m, s, o⟩
      · exact o.elim
    · cases l with
      | nil => cases s <;> first | (exact absurd ⟨_, rfl⟩ hs) | (simp [okSs] at h)
      | cons st r =>
        have h' : okS G N c s st = true ∧ okSs G N c ss r = true := by
          cases s <;> first | (exact absurd ⟨_, rfl⟩ hs) | (simpa only [okSs, Bool.and_eq_true] using h)
        refine PSs.imp (pss_cons (sndS hp hq g s h'.1) (sndSs hp hq g ss h'.2)) fun D σ H ⟨B, Hf, ρ, ω, env, m, s1, o⟩ => ?_
        simp only [evSs] at o
        refine ⟨B, Hf, ρ, ω, env, m, s1, OutS.bindS o fun x m' σ' H' Hf' ρ' ω' e s2 o2 => ?_⟩
        obtain ⟨fl, env'⟩ := x
        cases fl with
        | nx => exact ⟨B, Hf', ρ', ω', env', m', s2, o2⟩
        | brk => exact StAt.ok (XR := XR) (W := W) (D := D) (x := (F.brk, env')) s2 o2
        | cnt => exact StAt.ok (XR := XR) (W := W) (D := D) (x := (F.cnt, env')) s2 o2
        | ret u => exact StAt.ok (XR := XR) (W := W) (D := D) (x := (F.ret u, env')) s2 o2
end
end
end Eng

set_option Elab.async false
set_option linter.all false
set_option maxRecDepth 100000
set_option maxHeartbeats 1000000
/-! Defs: every def of a checked table, called n deep. The end of a law. -/
namespace Eng
open PySem PySem.Spec PyProof.Rows L2

structure Tab (Pg : Program) (w : World) (K : PySem.W.Frag) (mg : Str → Option Value) (G : Cfg) (P : Prog) : Prop where
  defs : ∀ f fd, P f = some fd → ∃ st a fdat ps, ps.length = fd.np ∧ Fun K fd.name fd.name st a fdat ∧ mg fd.name = some (.ref a) ∧ Binds K fdat ps [] ∧ FnScope fd.N ps (defScope st) ∧
    okSs G fd.N ⟨defScope st, fun _ => true⟩ fd.body (defBody st) = true ∧ ∀ na ks perm, (f, na, ks, perm) ∈ G.kb → KB fdat ps na ks perm
  nm : ∀ f x, G.nm f = some x → ∃ fd, P f = some fd ∧ fd.name = x
  bn : ∀ x ∈ bnames, mg x = none
  gl : ∀ x d, (x, d) ∈ G.gl → ∃ u, mg x = some u ∧ (∀ v, sEq d v = true → ∃ z, RelV z u ∧ (∀ H, Dp K H z v) ∧ szOk v = true)
  gdt : ∀ x kvs nks, (x, kvs, nks) ∈ G.gd → ∃ a es n, mg x = some (.ref a) ∧ KDict K w a es n ∧ (∀ k i, (k, i) ∈ kvs → ∃ t, PySem.W.nsIn K a k = some (some (.int i t))) ∧ ∀ k ∈ nks, PySem.W.nsIn K a k = some none
  xt : XTab Pg K mg G.cl G.ci
section
variable {Pg : Program} {w : World} {K : PySem.W.Frag} {mg : Str → Option Value} {base : Heap} {G : Cfg} {P : Prog} {L : Nat}
theorem slots_start {Hf H : Hp} {ρ : List Addr} {N : List Str} {vs : List V} {us : List U} (r : RUs K Hf ρ vs us) : Slots K H Hf ρ (fun _ => 0) (L2.start N vs) (us.map Sl.v ++ List.replicate (N.length - us.length) .no) := by
  have hl := r.len
  have noOwn : ∀ (i : Nat) (xs : List PyData), ¬ (us.map Sl.v ++ List.replicate (N.length - us.length) Sl.no)[i]? = some (.own xs) := fun i xs e => by
    rcases List.mem_append.mp (List.mem_of_getElem? e) with h | h
    · obtain ⟨u, _, e⟩ := List.mem_map.mp h; cases e
    · have := List.eq_of_mem_replicate h; cases this
  refine ⟨?_, fun i u e => ?_, fun i xs e => (noOwn i xs e).elim, fun i j xs ys e => (noOwn i xs e).elim⟩
  · unfold L2.start
    rw [List.length_append, List.length_append, List.length_map, List.length_map, List.length_replicate, List.length_replicate, hl]
  · by_cases hi : i < us.length
    · rw [List.getElem?_append_left (by rw [List.length_map]; exact hi), List.getElem?_map, List.getElem?_eq_getElem hi] at e
      cases e
      obtain ⟨v, e1, r1⟩ := r.get (List.getElem?_eq_getElem hi)
      refine ⟨v, ?_, r1⟩
      unfold L2.start
      rw [List.getElem?_append_left (by rw [List.length_map, hl]; exact hi), List.getElem?_map, e1]; rfl
    · rw [List.getElem?_append_right (by rw [List.length_map]; omega)] at e
      have := List.eq_of_mem_replicate (List.mem_of_getElem? e)
      cases this
theorem fam (T : Tab Pg w K mg G P) : ∀ (n f : Nat) (fd : FD), P f = some fd → ∃ a fdat ps, mg fd.name = some (.ref a) ∧ PySem.W.keepIn K (.ref a) = true ∧ Binds K fdat ps [] ∧ FnG Pg w K mg base n a fdat ps (spC K (xrG K mg G.cl) (callN L P n f)) ∧
    (∀ na ks perm, (f, na, ks, perm) ∈ G.kb → KB fdat ps na ks perm) ∧ ps.length = fd.np
  | 0, f, fd, h => by
    obtain ⟨st, a, fdat, ps, hp, F, hm, hb, S, ok, kb⟩ := T.defs f fd h
    exact ⟨a, fdat, ps, hm, F.kp, hb, ⟨fun vs H Q E ⟨_, _, _, _, _, _, o⟩ => o.elim, fun A outer s H args us vs Q E _ _ _ _ _ ⟨_, _, _, _, _, _, o⟩ => o.elim⟩, kb, hp⟩
  | n + 1, f, fd, h => by
    obtain ⟨st, a, fdat, ps, hp, F, hm, hb, S, ok, kb⟩ := T.defs f fd h
    refine ⟨a, fdat, ps, hm, F.kp, hb, ?_, kb, hp⟩
    obtain ⟨oc, od, kV, doc, pm, an, cdv, ct, osl, rfl, lk, hcd⟩ := F.ex
    have len : ∀ vs H Q E, spC K (xrG K mg G.cl) (callN L P (n + 1) f) vs H Q E → vs.length = ps.length := fun vs H Q E ⟨Hf, ρ, m, us, fi, r, o⟩ => by
      rw [callN_succ h] at o
      unfold runFD at o
      rw [r.len, hp]
      by_cases hl : us.length = fd.np
      · exact hl
      · rw [if_neg hl] at o; exact (o : False).elim
    refine fnG_of lk hcd S len fun A outer s H vs Q E hr hg ⟨Hf, ρ, m, us, fi, r, o⟩ => ?_
    have hl : us.length = fd.np := by rw [← r.len, ← hp]; exact len vs H Q E ⟨Hf, ρ, m, us, fi, r, o⟩
    have g : GX G fd.N (callN L P n) (xrG K mg G.cl) (cxOf (L2.CX Pg w) Pg w K mg base fd.N fd.name (defScope st) a cdv A outer s H E) (fun cls d _ H => E cls d H) ⟨defScope st, fun _ => true⟩ :=
      ⟨rfl, rfl, rfl, S.nd, rfl, hg, takes_of rfl rfl rfl rfl, by have := hr.un; show (A.deeper _).units + 65 < cLine; omega, T.bn, fun f' x hx => by
        obtain ⟨fd', h1, rfl⟩ := T.nm f' x hx
        obtain ⟨a', fdat', ps', k1, k2, k3, k4, k5, k6⟩ := fam T n f' fd' h1
        exact ⟨a', fdat', ps', n, k1, k2, k3, hr, k4, k5⟩, T.gl, T.gdt, ⟨_, hr⟩, rfl, T.xt⟩
    refine ⟨_, sndSs (L := L) (passes_of rfl) ⟨rfl, rfl⟩ g fd.body ok, ⟨H, Hf, ρ, Hf⟩, Hf, ρ, fun _ => 0, _, m, ⟨⟨m, fi⟩, Pres.refl _ _ _, Sub.refl _, ⟨fi, slots_start r⟩, fun i xs e => ?_⟩, ?_⟩
    · exfalso
      rcases List.mem_append.mp (List.mem_of_getElem? e) with h | h
      · obtain ⟨u, _, e⟩ := List.mem_map.mp h; cases e
      · have := List.eq_of_mem_replicate h; cases this
    · rw [callN_succ h] at o
      unfold runFD at o
      rw [if_pos hl] at o
      cases he : evSs L (callN L P n) fd.body (us.map Sl.v ++ List.replicate (fd.N.length - us.length) .no) m with
      | bad => rw [he] at o; exact (o : False).elim
      | exc c x m1 =>
        rw [he] at o
        exact fun cls d σ' H' Hf' ρ' p f x => o cls d H' Hf' ρ' p f x
      | ok y m1 =>
        rw [he, R.bind_ok] at o
        obtain ⟨fl, env'⟩ := y
        intro σ' H' Hf' ρ' ω' s'
        cases fl with
        | nx => exact o _ H' Hf' ρ' s'.pres s'.at_.fine ⟨.non, rfl⟩
        | ret u => exact fun v rv => o v H' Hf' ρ' s'.pres s'.at_.fine rv
        | brk => exact (o : False).elim
        | cnt => exact (o : False).elim
end
end Eng

set_option Elab.async false
set_option linter.all false
set_option maxRecDepth 100000
set_option maxHeartbeats 1000000
/-! The end of a law: its def is called on the script, where no repr is under way. -/
namespace Eng
open PySem PySem.Spec PyProof.Rows L2

theorem dp_ints {K : PySem.W.Frag} {H : Hp} : ∀ ns : List Int, DpAll K H (ns.map V.int) (ns.map PyData.int)
  | [] => .nil
  | n :: ns => .cons (.int n) (dp_ints ns)
theorem sz_ints : ∀ ns : List Int, szAll (ns.map PyData.int) = true
  | [] => rfl
  | n :: ns => by show (true && szAll (ns.map PyData.int)) = true; rw [sz_ints ns]; rfl
/-- from a heap in which at most the script is tracked -/
theorem end_core {P : Program} {w : World} {K : PySem.W.Frag} {mg mb : Str → Option Value} {k : Nat} {fa a : Addr} {XR : XRel} {g : List U → Mem → R U} {s₁ : Shared} {vs : List Value} {ns : List Int} {H : Hp}
    (KX : K.In s₁.heap) (hns : s₁.heap.Ns mainGlobals mg) (hb : s₁.heap.Ns builtinsNs mb) (hbb : ∀ x : Str, x ≠ "__name__" → mb x = bootBuiltins x) (hlim : s₁.heap.NoLimit) (hg : s₁.gens = #[])
    (ha : s₁.heap.get? a = some { cls := .type "list", data := .seq vs.toArray }) (hl : ns.length ≤ sizeLine) (hr : Room k callerA)
    (F : ∀ base : Heap, K.In base → base.Ns mainGlobals mg → ∃ fd x, FnG P w K mg base k fa fd [x] (spC K XR g) ∧ ∀ u : Value, BindsTo s₁ fd ⟨[u], []⟩ [(x, u)])
    (hT : ∃ m', g [.dat (.list (ns.map .int))] [] = .ok (.dat (.bool true)) m')
    (hO : Only H) (hS : SqL K H a (ns.map V.int)) (hok : HOk P w H s₁.heap) (hA : ∀ b, H b ≠ none → b = a) (hK : H a ≠ none → K.lookup a = none) :
    codeAny (model P w) callerA (.call (.ref fa) ⟨[.ref a], []⟩) (fun r s' => r = .ok (.ret (.bool true)) ∧ OldK s₁.heap s'.heap ∧ s'.os = s₁.os ∧ AllBare s'.gens) s₁ := by
  have base_of : ∀ {b : Addr} {o : Obj}, s₁.heap.get? b = some o → H b = none → (hidT s₁.heap H).get? b = some o := fun e n => hidT_get e n
  have noA : ∀ {b : Addr} {o : Obj} {es : Array DictEntry} {ep : Nat}, s₁.heap.get? b = some o → o.data = .dict es ep → H b = none := fun {b o es ep} e d => by
    cases q : H b with
    | none => rfl
    | some u =>
      have e' : b = a := hA b (by rw [q]; simp)
      subst e'
      rw [ha] at e; cases e
      have d' : Data.seq vs.toArray _ = Data.dict es ep := d
      cases d'
  have nsK : ∀ {b : Addr} {m : Str → Option Value}, s₁.heap.Ns b m → (hidT s₁.heap H).Ns b m := fun {b m} ⟨o, es, ep, e, d, r⟩ => ⟨o, es, ep, base_of e (noA e d), d, r⟩
  have hKb : K.In (hidT s₁.heap H) := fun b o e => base_of (KX b o e) (by
    cases q : H b with
    | none => rfl
    | some u =>
      have e' : b = a := hA b (by rw [q]; simp)
      subst e'
      rw [hK (by rw [q]; simp)] at e; cases e)
  have hM : Mod K mg (hidT s₁.heap H) := ⟨hKb, nsK hns, ⟨mb, nsK hb, hbb⟩, let ⟨mc, h1, h2⟩ := hlim; ⟨mc, nsK h1, h2⟩⟩
  have e0 : Env0 P w K mg (hidT s₁.heap H) callerA [] s₁ H := ⟨rfl, hM, fun b o e => of_hidT e, Nat.le_of_eq (hidT_size _ _), trivial, fun b hb => absurd (show b ∈ ([] : List Addr) from hb) (by simp), hok, .of_eq hg⟩
  obtain ⟨m', hT⟩ := hT
  obtain ⟨fd, x, hF, hbind⟩ := F _ hKb (nsK hns)
  have sp : spC K XR g [.ref a] H (fun v _ => v = .bl true) fun _ _ _ => False := by
    refine ⟨H, [], [], [.dat (.list (ns.map .int))], ⟨Sub.refl _, List.nodup_nil, fun a h => absurd h (by simp), rfl, fun i a o e => by simp at e⟩, ⟨⟨.lst hS (dp_ints ns), sz_list.mpr ⟨by rw [List.length_map]; exact hl, sz_ints ns⟩⟩, trivial⟩, ?_⟩
    rw [hT]
    intro v H' Hf' ρ' _ _ r
    cases r.1; rfl
  refine codeAny_mono (hF.run callerA [] s₁ H ⟨[.ref a], []⟩ [.ref a] [.ref a] _ _ hr rfl e0 (hbind (.ref a)) (.cons rfl .nil) sp) fun r s' h => ?_
  cases r with
  | error e => obtain ⟨_, _, _, _, _, _, _, _, _, _, _, _, z⟩ := h; exact z.elim
  | ok fl =>
    cases fl with
    | next => exact False.elim h
    | brk => exact False.elim h
    | cont => exact False.elim h
    | ret u =>
      obtain ⟨v, H', os, bare, un, hok', r', q⟩ := h
      have q' : v = .bl true := q
      subst q'
      obtain rfl : u = Value.bool true := r'
      refine ⟨rfl, OldK.of_keep fun b o e => ?_, os, bare⟩
      cases q : H b with
      | none => exact un.keep b o e q (by intro z; exact absurd (show b ∈ ([] : List Addr) from z) (by simp)) (by simp)
      | some u =>
        rcases hO b with z | ⟨ob, xs, z⟩
        · rw [q] at z; cases z
        · have z2 := un.frzs b ob _ z
          obtain ⟨e1, _⟩ := hok b _ z
          obtain ⟨e2, _⟩ := hok' b _ z2
          rw [e] at e1; cases e1
          exact e2
theorem end_call {P : Program} {w : World} {K : PySem.W.Frag} {mg mb : Str → Option Value} {k : Nat} {fa a : Addr} {XR : XRel} {g : List U → Mem → R U} {s₁ : Shared} {vs : List Value} {ns : List Int}
    (KX : K.In s₁.heap) (hns : s₁.heap.Ns mainGlobals mg) (hb : s₁.heap.Ns builtinsNs mb) (hbb : ∀ x : Str, x ≠ "__name__" → mb x = bootBuiltins x) (hlim : s₁.heap.NoLimit) (hg : s₁.gens = #[])
    (ha : s₁.heap.get? a = some { cls := .type "list", data := .seq vs.toArray }) (hi : IntsAre vs ns) (hl : ns.length ≤ sizeLine) (hr : Room k callerA)
    (F : ∀ base : Heap, K.In base → base.Ns mainGlobals mg → ∃ fd x, FnG P w K mg base k fa fd [x] (spC K XR g) ∧ ∀ u : Value, BindsTo s₁ fd ⟨[u], []⟩ [(x, u)])
    (hT : ∃ m', g [.dat (.list (ns.map .int))] [] = .ok (.dat (.bool true)) m') :
    codeAny (model P w) callerA (.call (.ref fa) ⟨[.ref a], []⟩) (fun r s' => r = .ok (.ret (.bool true)) ∧ OldK s₁.heap s'.heap ∧ s'.os = s₁.os ∧ AllBare s'.gens) s₁ := by
  have rv := vals_ints hi
  have lenV := hi.length
  cases hk : K.lookup a with
  | some o =>
    have e := KX a o hk
    rw [ha] at e
    cases e
    exact end_core (H := fun _ => none) KX hns hb hbb hlim hg ha hl hr F hT (fun _ => .inl rfl) (.inr ⟨_, vs.toArray, _, hk, rfl, rfl, rfl, by rw [List.size_toArray, lenV]; exact hl, by simpa using rv⟩) (fun b u z => by have z' : (none : Option HO) = some u := z; cases z') (fun b z => absurd rfl z) fun z => absurd rfl z
  | none =>
    refine end_core (H := fun b => if b = a then some (.frz { cls := .type "list", data := .seq vs.toArray } (.lst (ns.map V.int))) else none) KX hns hb hbb hlim hg ha hl hr F hT (fun b => ?_) (.inl (.inr ⟨{ cls := .type "list", data := .seq vs.toArray }, if_pos rfl⟩)) (fun b u z => ?_) (fun b z => ?_) fun _ => hk
    · by_cases hb : b = a
      · exact .inr ⟨_, _, if_pos hb⟩
      · exact .inl (if_neg hb)
    · by_cases hb : b = a
      · have z' := (if_pos hb).symm.trans z
        cases z'
        subst hb
        exact ⟨ha, by rw [List.length_map]; exact hl, vs, _, rv, ha⟩
      · have z' := (if_neg hb).symm.trans z
        cases z'
    · by_cases hb : b = a
      · exact hb
      · exact absurd (if_neg hb) z
theorem walk_eng {l : PySem.W.OpenLaw} {n k lawId : Nat} {q : Program} {loose : List Str} {XP : (Str → Option Value) → Heap → Prop} {YP : World → Heap → Prop} {d : DefRec} {K : Params → PySem.W.Frag} {G : Cfg} {P : Prog} {L : Nat} {fd : FD}
    (hn : l.most = some n) (hn2 : n ≤ sizeLine) (hdf : d.params.defaults = []) (hr : Room k callerA)
    (hY : ∀ (w : World) (h : Heap), YP w h → (K w.params).In h)
    (T : ∀ (w : World) (mg : Str → Option Value) (h : Heap), (K w.params).In h → h.Ns mainGlobals mg → Tab l.prog w (K w.params) mg G P)
    (hfd : P lawId = some fd) (hnm : fd.name = d.name) (hnp : fd.np = 1)
    (hT : ∀ ns : List Int, ns.length ≤ n → ∃ m', callN L P k lawId [.dat (.list (ns.map .int))] [] = .ok (.dat (.bool true)) m') :
    PySem.W.WalkO q loose XP YP l.row.toRowW d [] (fun f vs => PySem.call f vs) := by
  refine Att.attach_call hn hdf fun w s₀ s₁ mg mb fa o pm cd doc a vs ns Gd Y ho hd hcd hmg hobj hints hlen hg => ?_
  have KX := hY w _ Y
  have Tb := T w mg _ KX Gd.T.g
  refine end_call (k := k) (XR := xrG (K w.params) mg G.cl) (g := callN L P k lawId) KX Gd.T.g Gd.T.b Gd.T.builtins Gd.T.nolimit hg hobj hints (Nat.le_trans hlen hn2) hr (fun base hKb hNb => ?_) (hT ns hlen)
  obtain ⟨a', fdat, ps, h1, h2, h3, h4, _, h6⟩ := fam (Pg := l.prog) (w := w) (base := base) (L := L) Tb k lawId fd hfd
  rw [hnm, hmg] at h1
  cases h1
  rw [hnp] at h6
  cases ps with
  | nil => cases h6
  | cons x r =>
    cases r with
    | cons _ _ => cases h6
    | nil =>
      refine ⟨fdat, x, h4, fun u => ?_⟩
      have := h3 s₁ [u] KX rfl
      exact this
end Eng

set_option Elab.async false
set_option linter.all false
set_option maxRecDepth 100000
set_option maxHeartbeats 1000000
/-! From the facts of a text's defs to its table. -/
namespace Eng
open PySem PySem.Spec PyProof.Rows L2

/-- a def of the text stands in the module as it was written -/
def DI (K : PySem.W.Frag) (x : Str) (st : Stmt) : Prop := ∃ (f : Addr) (fd : FuncData), PySem.W.nsIn K mainGlobals x = some (some (.ref f)) ∧ Fun K x x st f fd
theorem di_mk {K : PySem.W.Frag} {x : Str} {st : Stmt} {f : Addr} {oc : Value} {od an : Option Addr} {osl : Array (Option Value)} {kV doc pm cdv ct : Value} (a : PySem.W.nsIn K mainGlobals x = some (some (.ref f)))
    (l : K.lookup f = some ⟨oc, od, .func (PySem.W.fnOf x x (defArgs st) (defBody st) (defScope st) .none kV doc pm an cdv ct), osl⟩)
    (c : PySem.W.codeIn K cdv x = true) (k : PySem.W.keepIn K (.ref f) = true) : DI K x st := ⟨f, _, a, fun_mk l c k⟩
/-- what is checked of a def by its text alone -/
structure SD (G : Cfg) (f : Nat) (fd : FD) (st : Stmt) : Prop where
  len : (fd.N.take fd.np).length = fd.np
  sc : FnScope fd.N (fd.N.take fd.np) (defScope st)
  ok : okSs G fd.N ⟨defScope st, fun _ => true⟩ fd.body (defBody st) = true
  bind : ∀ (kV doc pm : Value) (an : Option Addr) (cdv ct : Value) (us : List Value), us.length = (fd.N.take fd.np).length → bindArgs (PySem.W.fnOf fd.name fd.name (defArgs st) (defBody st) (defScope st) .none kV doc pm an cdv ct) ⟨us, []⟩ = pure ((fd.N.take fd.np).zip us)
  kb : ∀ (kV doc pm : Value) (an : Option Addr) (cdv ct : Value) (na : Nat) (ks : List Str) (perm : List Nat), (f, na, ks, perm) ∈ G.kb → KB (PySem.W.fnOf fd.name fd.name (defArgs st) (defBody st) (defScope st) .none kV doc pm an cdv ct) (fd.N.take fd.np) na ks perm
abbrev Tb := List (Nat × FD × Stmt)
def Tb.prog (t : Tb) : Prog := fun f => (t.lookup f).map (·.1)
def Tb.nm (t : Tb) : Nat → Option Str := fun f => (t.lookup f).map (·.1.name)
def allDI (K : PySem.W.Frag) : Tb → Prop
  | [] => True
  | e :: r => DI K e.2.1.name e.2.2 ∧ allDI K r
def allSD (G : Cfg) : Tb → Prop
  | [] => True
  | e :: r => SD G e.1 e.2.1 e.2.2 ∧ allSD G r
theorem lookupN {α : Type} : ∀ {l : List (Nat × α)} {n : Nat} {c : α}, l.lookup n = some c → (n, c) ∈ l
  | [], _, _, h => by cases h
  | (k, v) :: r, n, c, h => by
    rw [List.lookup_cons] at h
    by_cases e : n = k
    · subst e; simp at h; subst h; exact List.mem_cons_self
    · rw [show (n == k) = false by simpa using e] at h
      exact List.mem_cons_of_mem _ (lookupN h)
theorem allDI.get {K : PySem.W.Frag} : ∀ {t : Tb}, allDI K t → ∀ e ∈ t, DI K e.2.1.name e.2.2
  | [], _, e, h => absurd h (by simp)
  | x :: r, a, e, h => by
    rcases List.mem_cons.mp h with rfl | h
    · exact a.1
    · exact allDI.get a.2 e h
theorem allSD.get {G : Cfg} : ∀ {t : Tb}, allSD G t → ∀ e ∈ t, SD G e.1 e.2.1 e.2.2
  | [], _, e, h => absurd h (by simp)
  | x :: r, a, e, h => by
    rcases List.mem_cons.mp h with rfl | h
    · exact a.1
    · exact allSD.get a.2 e h
def allNone (K : PySem.W.Frag) : List Str → Prop
  | [] => True
  | x :: r => PySem.W.nsIn K mainGlobals x = some none ∧ allNone K r
def glOk (K : PySem.W.Frag) (x : Str × PyData) : Prop := (∃ i t, x.2 = .int i ∧ PySem.W.nsIn K mainGlobals x.1 = some (some (.int i t))) ∨ ∃ z t, x.2 = .str z ∧ szOk (.str z) = true ∧ PySem.W.nsIn K mainGlobals x.1 = some (some (.str z t))
def allInts (K : PySem.W.Frag) : List (Str × PyData) → Prop
  | [] => True
  | x :: r => glOk K x ∧ allInts K r
def allKv (K : PySem.W.Frag) (a : Addr) : List (Str × Int) → Prop
  | [] => True
  | x :: r => (∃ t, PySem.W.nsIn K a x.1 = some (some (.int x.2 t))) ∧ allKv K a r
def allNk (K : PySem.W.Frag) (a : Addr) : List Str → Prop
  | [] => True
  | x :: r => PySem.W.nsIn K a x = some none ∧ allNk K a r
theorem allKv.get {K : PySem.W.Frag} {a : Addr} : ∀ {l : List (Str × Int)}, allKv K a l → ∀ k i, (k, i) ∈ l → ∃ t, PySem.W.nsIn K a k = some (some (.int i t))
  | [], _, k, i, h => absurd h (by simp)
  | x :: r, ⟨h1, h2⟩, k, i, h => by
    rcases List.mem_cons.mp h with e | h
    · rw [← e] at h1; exact h1
    · exact allKv.get h2 k i h
theorem allNk.get {K : PySem.W.Frag} {a : Addr} : ∀ {l : List Str}, allNk K a l → ∀ k ∈ l, PySem.W.nsIn K a k = some none
  | [], _, k, h => absurd h (by simp)
  | x :: r, ⟨h1, h2⟩, k, h => by
    rcases List.mem_cons.mp h with e | h
    · rw [e]; exact h1
    · exact allNk.get h2 k h
def gdOk (w : World) (K : PySem.W.Frag) (x : Str × List (Str × Int) × List Str) : Prop := ∃ a, PySem.W.nsIn K mainGlobals x.1 = some (some (.ref a)) ∧ He.dicW K a = some (He.keysIn w.params (x.2.1.map (·.1))) ∧ allKv K a x.2.1 ∧ allNk K a x.2.2
def allGd (w : World) (K : PySem.W.Frag) : List (Str × List (Str × Int) × List Str) → Prop
  | [] => True
  | x :: r => gdOk w K x ∧ allGd w K r
theorem gs_mk {K : PySem.W.Frag} {x z : Str} {t : Tok} (h : szOk (.str z) = true) (a : PySem.W.nsIn K mainGlobals x = some (some (.str z t))) : glOk K (x, PyData.str z) := .inr ⟨z, t, rfl, h, a⟩
theorem gi_mk {K : PySem.W.Frag} {x : Str} {i : Int} {t : Tok} (a : PySem.W.nsIn K mainGlobals x = some (some (.int i t))) : glOk K (x, PyData.int i) := .inl ⟨i, t, rfl, a⟩
theorem tab_of {Pg : Program} {w : World} {K : PySem.W.Frag} {mg : Str → Option Value} {h : Heap} {t : Tb} {G : Cfg} (KX : K.In h) (Gn : h.Ns mainGlobals mg) (hnm : G.nm = t.nm) (dI : allDI K t) (sD : allSD G t) (nI : allNone K bnames) (gI : allInts K G.gl) (dD : allGd w K G.gd) (xT : XTab Pg K mg G.cl G.ci) : Tab Pg w K mg G t.prog := by
  refine ⟨fun f fd hf => ?_, fun f x hx => ?_, fun x hx => ?_, fun x d hx => ?_, fun x kvs nks hx => ?_, xT⟩
  · unfold Tb.prog at hf
    rw [Option.map_eq_some_iff] at hf
    obtain ⟨⟨fd', st⟩, e, rfl⟩ := hf
    have hm := lookupN e
    obtain ⟨a, fdat, a1, F⟩ := dI.get _ hm
    have S := sD.get _ hm
    obtain ⟨oc, od, kV, doc, pm, an, cdv, ct, osl, rfl, lk, hcd⟩ := F.ex
    exact ⟨st, a, _, _, S.len, F, PySem.W.mg_of KX Gn a1, F.binds S.bind, S.sc, S.ok, fun na ks perm h => S.kb kV doc pm an cdv ct na ks perm h⟩
  · rw [hnm] at hx
    unfold Tb.nm at hx
    rw [Option.map_eq_some_iff] at hx
    obtain ⟨e, he, rfl⟩ := hx
    exact ⟨e.1, by unfold Tb.prog; rw [he]; rfl, rfl⟩
  · have : ∀ l : List Str, allNone K l → x ∈ l → mg x = none := fun l => by
      induction l with
      | nil => intro _ h; exact absurd h (by simp)
      | cons y r ih =>
        intro a h
        rcases List.mem_cons.mp h with rfl | h
        · exact PySem.W.mg_none_of KX Gn a.1
        · exact ih a.2 h
    exact this _ nI hx
  · have : ∀ l : List (Str × PyData), allInts K l → (x, d) ∈ l → glOk K (x, d) := fun l => by
      induction l with
      | nil => intro _ h; exact absurd h (by simp)
      | cons y r ih =>
        intro a h
        rcases List.mem_cons.mp h with e | h
        · rw [e]; exact a.1
        · exact ih a.2 h
    rcases this _ gI hx with ⟨i, tk, e0, e⟩ | ⟨z, tk, e0, hz, e⟩
    · have e0 : d = .int i := e0
      subst e0
      refine ⟨_, PySem.W.mg_of KX Gn e, fun v hv => ?_⟩
      cases v <;> simp only [sEq, Bool.false_eq_true] at hv
      rw [beq_iff_eq] at hv
      subst hv
      exact ⟨.int _, ⟨tk, rfl⟩, fun _ => .int _, rfl⟩
    · have e0 : d = .str z := e0
      subst e0
      refine ⟨_, PySem.W.mg_of KX Gn e, fun v hv => ?_⟩
      cases v <;> simp only [sEq, Bool.false_eq_true, decide_eq_true_eq] at hv
      subst hv
      exact ⟨.str _, ⟨tk, rfl⟩, fun _ => .str _, hz⟩
  · have : ∀ l : List (Str × List (Str × Int) × List Str), allGd w K l → (x, kvs, nks) ∈ l → gdOk w K (x, kvs, nks) := fun l => by
      induction l with
      | nil => intro _ h; exact absurd h (by simp)
      | cons y r ih =>
        intro a h
        rcases List.mem_cons.mp h with e | h
        · rw [e]; exact a.1
        · exact ih a.2 h
    obtain ⟨a, h1, h2, h3, h4⟩ := this _ dD hx
    obtain ⟨es, n, D⟩ := He.dicW_ok h2
    exact ⟨a, es, n, PySem.W.mg_of KX Gn h1, D, h3.get, h4.get⟩
/-! ### own errors: from the written part -/
theorem own_mk {Pg : Program} {K : PySem.W.Frag} {mg : Str → Option Value} {h : Heap} {x fld : Str} {C fI : Addr} (X : K.In h) (Gn : h.Ns mainGlobals mg)
    {nm q : Str} {N : Addr} {bs bm : List Value} {sn : List Str} {sub : List Value} {ab : Bool} {col : Option Bool} {dd : Option Addr} {m0 m1 m2 m3 m5 : Option Value}
    {oc : Value} {od : Option Addr} {qn msg : Str} {doc pm : Value} {an : Option Addr} {ct : Value} {osl : Array (Option Value)} {p1 p2 q0 q1 q2 q3 q4 q5 r1 r2 r3 r4 : Pos} {cda cc : Addr} {ccl cl : Value} {cdd cld : Option Addr} {vs : Array Value} {ccs csl : Array (Option Value)} {file : Str} {tf : Tok}
    (aC : PySem.W.nsIn K mainGlobals x = some (some (.ref C))) (aS : PySem.W.nsIn K mainGlobals "super" = some none) (nP : (Pg.main.scope.names.lookup ("super" : Str)).isSome = false)
    (xL : K.lookup C = some (excClassObj nm q C N bs bm true sn sub ab col dd m0 m1 m2 m3 m5 "ValueError.__new__")) (hbm : HandSPX.refsVE bm = true)
    (sa : PySem.W.findIn K (.ref C) "__setattr__" = some (some (.builtin "object.__setattr__"))) (ga : PySem.W.findIn K (.ref C) "__getattribute__" = some (some (.builtin "BaseException.__getattribute__"))) (gg : PySem.W.findIn K (.ref C) "__getattr__" = some none) (nb : PySem.W.findIn K (.ref C) fld = some none)
    (a1 : PySem.W.findIn K (.ref C) "__init__" = some (some (.ref fI))) (t1 : PySem.W.typeIn K (.ref fI) = some (.type "function"))
    (kC : PySem.W.keepIn K (.ref C) = true) (eC : PySem.W.subIn K (.ref C) (.type "BaseException") = some true) (vC : PySem.W.subIn K (.ref C) (.type "ValueError") = some true) (tC : PySem.W.typeIn K (.ref C) = some (.type "type")) (hC : PySem.W.hasDictIn K C = true)
    (sC : PySem.W.mroIn K C (.ref C) = some true) (su : PySem.W.ks_superIn K C C "__init__" = some (some (.builtin "ValueError.__init__"))) (tp : PySem.W.nsIn K cStatics "thirdparty.any" = some none) (nf : fld = ("at" : Str) ∨ fld = ("value" : Str))
    (l1 : K.lookup fI = some ⟨oc, od, .func (PySem.W.ksFn "__init__" qn (EngX.iA fld p1 p2) (EngX.iB fld msg q0 q1 q2 q3 q4 q5 r1 r2 r3 r4) (EngX.iS fld) .none .none doc pm an (.ref cda) ct cc), osl⟩) (c1 : PySem.W.codeIn K (.ref cda) qn = true)
    (l2 : K.lookup cda = some ⟨ccl, cdd, .fields vs, ccs⟩) (l3 : vs[2]? = some (.str file tf)) (l4 : ((Pg.main.file : Str) == file) = true) (l5 : K.lookup cc = some ⟨cl, cld, .cell (some (.ref C)), csl⟩) (l6 : (q2.endLine == q4.line) = true) :
    EngX.OwnTxt Pg K mg x fld C fI :=
  { gC := PySem.W.mg_of X Gn aC, nS := PySem.W.mg_none_of X Gn aS, nP := nP, cls := ⟨nm, q, N, bs, bm, sn, sub, ab, col, dd, m0, m1, m2, m3, m5, xL, hbm⟩, sa := sa, noN := nb, iC := a1, tC := t1, kC := kC, exC := eC, vaC := vC, tyC := tC, slf := sC, sup := su, tp := tp, nf := nf,
    xf := ⟨ga, gg, eC, hC⟩, fn := ⟨_, _, _, _, _, _, _, _, _, _, _, _, _, _, _, _, _, _, _, _, _, _, _, _, _, _, _, _, _, _, _, _, l1, c1, l2, l3, l4, l5, l6⟩ }
def allOwn (Pg : Program) (K : PySem.W.Frag) (mg : Str → Option Value) : List (Str × Str) → List Addr → Prop
  | [], [] => True
  | p :: r, a :: as => (∃ fI, EngX.OwnTxt Pg K mg p.1 p.2 a fI) ∧ allOwn Pg K mg r as
  | _, _ => False
theorem allOwn.get {Pg : Program} {K : PySem.W.Frag} {mg : Str → Option Value} : ∀ {cl : List (Str × Str)} {A : List Addr}, allOwn Pg K mg cl A → ∀ (k : Nat) (p : Str × Str), cl[k]? = some p → ∃ a, A[k]? = some a ∧ ∃ fI, EngX.OwnTxt Pg K mg p.1 p.2 a fI
  | [], [], _, k, p, h => by simp at h
  | [], _ :: _, h, _, _, _ => h.elim
  | _ :: _, [], h, _, _, _ => h.elim
  | q :: r, a :: as, ⟨h1, h2⟩, 0, p, h => by cases h; exact ⟨a, rfl, h1⟩
  | q :: r, a :: as, ⟨h1, h2⟩, k + 1, p, h => allOwn.get h2 k p h
def rowSub (K : PySem.W.Frag) (a : Addr) (i : Nat) : Nat → List Addr → Prop
  | _, [] => True
  | j, b :: r => PySem.W.subIn K (.ref a) (.ref b) = some (decide (i = j)) ∧ rowSub K a i (j + 1) r
def matSub (K : PySem.W.Frag) (all : List Addr) : Nat → List Addr → Prop
  | _, [] => True
  | i, a :: r => rowSub K a i 0 all ∧ matSub K all (i + 1) r
theorem rowSub.get {K : PySem.W.Frag} {a : Addr} {i : Nat} : ∀ {l : List Addr} {j : Nat}, rowSub K a i j l → ∀ (k : Nat) (b : Addr), l[k]? = some b → PySem.W.subIn K (.ref a) (.ref b) = some (decide (i = j + k))
  | [], _, _, k, b, h => by simp at h
  | x :: r, j, ⟨h1, h2⟩, 0, b, h => by cases h; exact h1
  | x :: r, j, ⟨h1, h2⟩, k + 1, b, h => by
    have := rowSub.get h2 k b h
    rw [show j + (k + 1) = j + 1 + k by omega]; exact this
theorem matSub.get {K : PySem.W.Frag} {all : List Addr} : ∀ {l : List Addr} {i : Nat}, matSub K all i l → ∀ (k : Nat) (a : Addr), l[k]? = some a → rowSub K a (i + k) 0 all
  | [], _, _, k, a, h => by simp at h
  | x :: r, i, ⟨h1, h2⟩, 0, a, h => by cases h; exact h1
  | x :: r, i, ⟨h1, h2⟩, k + 1, a, h => by
    have := matSub.get h2 k a h
    rw [show i + (k + 1) = i + 1 + k by omega]; exact this
def isxOk (K : PySem.W.Frag) (A : List Addr) (x : Nat × Str × Bool) : Prop := ∃ Ca Cd, A[x.1]? = some Ca ∧ PySem.W.nsIn K mainGlobals x.2.1 = some (some (.ref Cd)) ∧ PySem.W.kitOne K (.ref Ca) (.ref Cd) = some x.2.2 ∧
  PySem.W.findIn K (.ref Ca) "__class__" = some (some (.builtin "object.__class__")) ∧ PySem.W.specialIn K (.builtin "object.__class__") "__get__" = some (some (.builtin "getset_descriptor.__get__")) ∧ PySem.W.takesIn K (.builtin "object.__class__") = some true ∧ PySem.W.mroIn K Ca (.type "object") = some true
theorem isx_mk {K : PySem.W.Frag} {A : List Addr} {x : Nat × Str × Bool} {Ca Cd : Addr} (h1 : A[x.1]? = some Ca) (h2 : PySem.W.nsIn K mainGlobals x.2.1 = some (some (.ref Cd))) (h3 : PySem.W.kitOne K (.ref Ca) (.ref Cd) = some x.2.2)
    (h4 : PySem.W.findIn K (.ref Ca) "__class__" = some (some (.builtin "object.__class__"))) (h5 : PySem.W.specialIn K (.builtin "object.__class__") "__get__" = some (some (.builtin "getset_descriptor.__get__"))) (h6 : PySem.W.takesIn K (.builtin "object.__class__") = some true) (h7 : PySem.W.mroIn K Ca (.type "object") = some true) : isxOk K A x := ⟨Ca, Cd, h1, h2, h3, h4, h5, h6, h7⟩
def allIsx (K : PySem.W.Frag) (A : List Addr) : List (Nat × Str × Bool) → Prop
  | [] => True
  | x :: r => isxOk K A x ∧ allIsx K A r
theorem allIsx.get {K : PySem.W.Frag} {A : List Addr} : ∀ {l : List (Nat × Str × Bool)}, allIsx K A l → ∀ x ∈ l, isxOk K A x
  | [], _, x, h => absurd h (by simp)
  | y :: r, ⟨h1, h2⟩, x, h => by
    rcases List.mem_cons.mp h with rfl | h
    · exact h1
    · exact allIsx.get h2 x h
theorem xt_mk {Pg : Program} {K : PySem.W.Frag} {mg : Str → Option Value} {h : Heap} {cl : List (Str × Str)} {ci : List (Nat × Str × Bool)} (A : List Addr) (X : K.In h) (Gn : h.Ns mainGlobals mg) (o : allOwn Pg K mg cl A) (s : matSub K A 0 A) (i : allIsx K A ci) : XTab Pg K mg cl ci := by
  refine ⟨fun k p hk => ?_, fun k k' p p' Ca Cb hk hk' hm hm' => ?_, fun k D b p Ca hx hk hm => ?_⟩
  · obtain ⟨a, _, fI, T⟩ := o.get k p hk
    exact ⟨a, fI, T⟩
  · obtain ⟨a, ha, fI, T⟩ := o.get k p hk
    obtain ⟨a', ha', fI', T'⟩ := o.get k' p' hk'
    have e1 : a = Ca := by
      have := T.gC.symm.trans hm
      injection this with this
      injection this
    have e2 : a' = Cb := by
      have := T'.gC.symm.trans hm'
      injection this with this
      injection this
    subst e1 e2
    have := (s.get k a ha).get k' a' ha'
    rw [Nat.zero_add, Nat.zero_add] at this
    exact PySem.W.exm_ref T'.exC T'.xf.hdC T'.tyC this
  · obtain ⟨a, ha, fI, T⟩ := o.get k p hk
    have e1 : a = Ca := by
      have := T.gC.symm.trans hm
      injection this with this
      injection this
    subst e1
    obtain ⟨Ca', Cd, h1, h2, h3, h4, h5, h6, h7⟩ := i.get _ hx
    rw [ha] at h1
    cases h1
    obtain ⟨cd, hc, _⟩ := PySem.W.any_some T.xf.hdC
    exact ⟨Cd, PySem.W.mg_of X Gn h2, h3, ⟨by rw [hc]; rfl, T.xf.ga, T.xf.gg, T.exC, h4, h5, h6, h7⟩⟩
end Eng

set_option Elab.async false
set_option linter.all false
set_option maxRecDepth 100000
set_option maxHeartbeats 1000000
/-! The evaluator, step by step. -/
namespace Eng
open PySem
section
variable {C : Calls} {σ : Env} {m : Mem} {L : Nat}
@[simp] theorem ev_cst {d : PyData} : evE C (.cst d) σ m = .ok (.dat d) m := rfl
@[simp] theorem ev_glb {x : Str} {d : PyData} : evE C (.glb x d) σ m = .ok (.dat d) m := rfl
@[simp] theorem ev_var {i : Nat} : evE C (.var i) σ m = getV σ i m := rfl
@[simp] theorem ev_tup {es : Es} : evE C (.tup es) σ m = (evEs C es σ m).bind asTup := rfl
@[simp] theorem ev_lst {es : Es} : evE C (.lst es) σ m = (evEs C es σ m).bind asLst := rfl
@[simp] theorem ev_lmul {es : Es} {k : E} : evE C (.lmul es k) σ m = ((evEs C es σ m).bind asLst).bind fun x m1 => (evE C k σ m1).bind fun y m2 => d2 lmulV x y m2 := rfl
@[simp] theorem ev_sset {a : E} : evE C (.sset a) σ m = (evE C a σ m).bind (d1 ssetV) := rfl
@[simp] theorem bA_sset {a : E} : bA (.sset a) f σ m = f σ m := rfl
@[simp] theorem ev_sortk {a : E} : evE C (.sortk a) σ m = (evE C a σ m).bind sortKU := rfl
@[simp] theorem ev_dget {i : Nat} {es : Es} : evE C (.dget i es) σ m = ((getV σ i m).bind dctU).bind fun k m1 => (evEs C es σ m1).bind fun us m2 => dgetU k us m2 := rfl
@[simp] theorem ev_newD1 {k v : E} : evE C (.newD1 k v) σ m = (evE C k σ (m ++ [.dct []])).bind fun x m1 => (evE C v σ m1).bind fun y m2 => newD1U m.length x y m2 := rfl
@[simp] theorem ev_keysl {a : E} : evE C (.keysl a) σ m = (evE C a σ m).bind keysU := rfl
@[simp] theorem bA_newD1 {k v : E} : bA (.newD1 k v) f σ m = f σ m := rfl
@[simp] theorem bA_keysl {a : E} : bA (.keysl a) f σ m = f σ m := rfl
@[simp] theorem revD_tuple (xs : List PyData) : revD (.tuple xs) = some (.tuple xs.reverse) := rfl
@[simp] theorem ev_newD : evE C .newD σ m = .ok (.ref m.length) (m ++ [.dct []]) := rfl
@[simp] theorem ev_din {n : Bool} {a d : E} : evE C (.din n a d) σ m = (evE C a σ m).bind fun x m1 => (evE C d σ m1).bind fun y m2 => dinU n x y m2 := rfl
@[simp] theorem ev_newl {es : Es} : evE C (.newl es) σ m = (evEs C es σ m).bind asNew := rfl
@[simp] theorem ev_bin {o : BinO} {a b : E} : evE C (.bin o a b) σ m = (bA a (evE C a) σ m).bind fun x m1 => (bA b (evE C b) σ m1).bind fun y m2 => d2 (binVal o) x y m2 := rfl
@[simp] theorem ev_ladd {a b : E} : evE C (.ladd a b) σ m = (bA a (evE C a) σ m).bind fun x m1 => (bA b (evE C b) σ m1).bind fun y m2 => d2 (laddV) x y m2 := rfl
@[simp] theorem ev_neg {a : E} : evE C (.neg a) σ m = (evE C a σ m).bind (d1 negD) := rfl
@[simp] theorem ev_not {a : E} : evE C (.not a) σ m = ((evE C a σ m).bind asB).bind fun b m1 => .ok (.dat (.bool (!b))) m1 := rfl
@[simp] theorem ev_and {a b : E} : evE C (.and a b) σ m = ((evE C a σ m).bind asB).bind fun c m1 => if c = true then evE C b σ m1 else .ok (.dat (.bool false)) m1 := rfl
@[simp] theorem ev_or {a b : E} : evE C (.or a b) σ m = ((evE C a σ m).bind asB).bind fun c m1 => if c = true then .ok (.dat (.bool true)) m1 else evE C b σ m1 := rfl
@[simp] theorem ev_cmp {o : CmpO} {a b : E} : evE C (.cmp o a b) σ m = (bA a (evE C a) σ m).bind fun x m1 => (bA b (evE C b) σ m1).bind fun y m2 => d2 (cmpVal o) x y m2 := rfl
@[simp] theorem ev_chain {o o' : CmpO} {a b c : E} : evE C (.chain o o' a b c) σ m = (bA a (evE C a) σ m).bind fun x m1 => (bA b (evE C b) σ m1).bind fun y m2 => (c2 (cmpVal o) x y m2).bind fun k m3 =>
      if k = true then (bA c (evE C c) σ m3).bind fun z m4 => d2 (cmpVal o') y z m4 else .ok (.dat (.bool false)) m3 := rfl
@[simp] theorem ev_ite {t a b : E} : evE C (.ite t a b) σ m = ((evE C t σ m).bind asB).bind fun c m1 => if c = true then evE C a σ m1 else evE C b σ m1 := rfl
@[simp] theorem ev_call {f : Nat} {es : Es} : evE C (.call f es) σ m = (evEs C es σ m).bind fun us m1 => C f us m1 := rfl
@[simp] theorem ev_callk {f : Nat} {es ks : Es} {perm : List Nat} : evE C (.callk f es ks perm) σ m = (evEs C es σ m).bind fun us m1 => (evEs C ks σ m1).bind fun zs m2 => (R.ofO (permL (us ++ zs) perm) m2).bind fun ws m3 => C f ws m3 := rfl
@[simp] theorem ev_rev {a : E} : evE C (.rev a) σ m = (bA a (evE C a) σ m).bind (d1 revD) := rfl
@[simp] theorem ev_gd {o : GdO} {x : Str} {kvs : List (Str × Int)} {nks : List Str} {a : E} : evE C (.gd o x kvs nks a) σ m = (evE C a σ m).bind (d1 (gdVal o kvs nks)) := rfl
@[simp] theorem revD_list (xs : List PyData) : revD (.list xs) = some (.list xs.reverse) := rfl
@[simp] theorem ev_b1 {f : B1} {a : E} : evE C (.b1 f a) σ m = (bA a (evE C a) σ m).bind (d1 (b1Val f)) := rfl
@[simp] theorem ev_b2 {f : B2} {a b : E} : evE C (.b2 f a b) σ m = (evE C a σ m).bind fun x m1 => (evE C b σ m1).bind fun y m2 => d2 (b2Val f) x y m2 := rfl
@[simp] theorem ev_isi {a : E} {c : ClsT} : evE C (.isi a c) σ m = (evE C a σ m).bind (d1 fun d => some (.bool (clsVal c d))) := rfl
@[simp] theorem ev_isi2 {a : E} {c c' : ClsT} : evE C (.isi2 a c c') σ m = (evE C a σ m).bind (d1 fun d => some (.bool (clsVal c d || clsVal c' d))) := rfl
@[simp] theorem ev_ix {a i : E} : evE C (.ix a i) σ m = (bA a (evE C a) σ m).bind fun x m1 => (evE C i σ m1).bind fun y m2 => ixU x y m2 := rfl
@[simp] theorem ev_sl {a lo hi : E} : evE C (.sl a lo hi) σ m = (bA a (evE C a) σ m).bind fun x m1 => (oA lo (evE C lo) σ m1).bind fun l m2 => (oA hi (evE C hi) σ m2).bind fun h m3 => d1 (fun d => slVal d l h) x m3 := rfl
@[simp] theorem ev_nil : evEs C .nil σ m = .ok [] m := rfl
@[simp] theorem ev_cons {e : E} {es : Es} : evEs C (.cons e es) σ m = (evE C e σ m).bind fun u m1 => (evEs C es σ m1).bind fun us m2 => .ok (u :: us) m2 := rfl
@[simp] theorem bA_bv {i : Nat} {f : Env → Mem → R U} : bA (.bv i) f σ m = getB σ i m := rfl
@[simp] theorem it_seq {e : E} : evI C (.seq e) σ m = (evE C e σ m).bind seqU := rfl
@[simp] theorem it_rng1 {a : E} : evI C (.rng1 a) σ m = ((evE C a σ m).bind asInt).bind rng1U := rfl
@[simp] theorem it_rng2 {a b : E} : evI C (.rng2 a b) σ m = ((evE C a σ m).bind asInt).bind fun i m1 => ((evE C b σ m1).bind asInt).bind fun j m2 => rng2U i j m2 := rfl
@[simp] theorem it_enum {e : E} : evI C (.enum e) σ m = ((evE C e σ m).bind seqU).bind enumU := rfl
@[simp] theorem it_zip {a b : E} : evI C (.zip2 a b) σ m = (evE C a σ m).bind fun x m1 => (evE C b σ m1).bind fun y m2 => zipU x y m2 := rfl
section
variable {f : Env → Mem → R U}
@[simp] theorem bA_cst {d : PyData} : bA (.cst d) f σ m = f σ m := rfl
@[simp] theorem bA_rev {a : E} : bA (.rev a) f σ m = f σ m := rfl
@[simp] theorem bA_gd {o : GdO} {x : Str} {kvs : List (Str × Int)} {nks : List Str} {a : E} : bA (.gd o x kvs nks a) f σ m = f σ m := rfl
@[simp] theorem bA_glb {x : Str} {d : PyData} : bA (.glb x d) f σ m = f σ m := rfl
@[simp] theorem bA_var {i : Nat} : bA (.var i) f σ m = f σ m := rfl
@[simp] theorem bA_tup {es : Es} : bA (.tup es) f σ m = f σ m := rfl
@[simp] theorem bA_lst {es : Es} : bA (.lst es) f σ m = f σ m := rfl
@[simp] theorem bA_bin {o : BinO} {a b : E} : bA (.bin o a b) f σ m = f σ m := rfl
@[simp] theorem bA_neg {a : E} : bA (.neg a) f σ m = f σ m := rfl
@[simp] theorem bA_ite {a b c : E} : bA (.ite a b c) f σ m = f σ m := rfl
@[simp] theorem bA_cmp {o : CmpO} {a b : E} : bA (.cmp o a b) f σ m = f σ m := rfl
@[simp] theorem bA_call {k : Nat} {es : Es} : bA (.call k es) f σ m = f σ m := rfl
@[simp] theorem bA_callk {k : Nat} {es ks : Es} {p : List Nat} : bA (.callk k es ks p) f σ m = f σ m := rfl
@[simp] theorem bA_ladd {a b : E} : bA (.ladd a b) f σ m = f σ m := rfl
@[simp] theorem bA_lmul {es : Es} {k : E} : bA (.lmul es k) f σ m = f σ m := rfl
@[simp] theorem bA_dget {i : Nat} {es : Es} : bA (.dget i es) f σ m = f σ m := rfl
@[simp] theorem bA_sortk {a : E} : bA (.sortk a) f σ m = f σ m := rfl
@[simp] theorem bA_b1 {k : B1} {a : E} : bA (.b1 k a) f σ m = f σ m := rfl
@[simp] theorem bA_b2 {k : B2} {a b : E} : bA (.b2 k a b) f σ m = f σ m := rfl
@[simp] theorem bA_ix {a b : E} : bA (.ix a b) f σ m = f σ m := rfl
@[simp] theorem bA_sl {a b c : E} : bA (.sl a b c) f σ m = f σ m := rfl
end
theorem sizeU_ok {xs : List PyData} (h : xs.length ≤ sizeLine) : sizeU xs m = .ok xs m := if_pos h
/-- a list comprehension -/
theorem ev_comp {elt : E} {tg : Tg} {it : It} {cond : E} {own : List (Str × Nat)} {ds xs : List PyData} {m1 m2 : Mem} (hI : evI C it σ m = .ok ds m1) (hl : ds.length ≤ sizeLine)
    (hc : compGo (fun σ m => (evE C elt σ m).quiet) (cA cond (evE C cond)) tg (wipeE σ (own.map (·.2))) ds m1 = .ok xs m2) : evE C (.comp elt tg it cond own) σ m = .ok (.dat (.list xs)) m2 := by
  show (((evI C it σ m).bind sizeU).bind fun ds m1 => (compGo (fun σ m => (evE C elt σ m).quiet) (cA cond (evE C cond)) tg (wipeE σ (own.map (·.2))) ds m1).quiet.bind fun xs m2 => (R.ok (U.dat (.list xs)) m2 : R U)) = _
  rw [hI, R.bind_ok, sizeU_ok hl, R.bind_ok, hc]; rfl
theorem ev_comp2 {elt : E} {tg tg' : Tg} {it it' : It} {cond : E} {own : List (Str × Nat)} {ds xs : List PyData} {m1 m2 : Mem} (hI : evI C it σ m = .ok ds m1) (hl : ds.length ≤ sizeLine) (hx : xs.length ≤ sizeLine)
    (hc : comp2Go (fun σ m => (evE C elt σ m).quiet) (cA cond (evE C cond)) tg (fun σ m => (evI C it' σ m).quiet) tg' (wipeE σ (own.map (·.2))) ds m1 = .ok xs m2) : evE C (.comp2 elt tg it tg' it' cond own) σ m = .ok (.dat (.list xs)) m2 := by
  show (((evI C it σ m).bind sizeU).bind fun ds m1 => ((comp2Go (fun σ m => (evE C elt σ m).quiet) (cA cond (evE C cond)) tg (fun σ m => (evI C it' σ m).quiet) tg' (wipeE σ (own.map (·.2))) ds m1).quiet.bind sizeU).bind fun xs m2 => (R.ok (U.dat (.list xs)) m2 : R U)) = _
  rw [hI, R.bind_ok, sizeU_ok hl, R.bind_ok, hc, R.quiet_ok, R.bind_ok, sizeU_ok hx]; rfl
/-! statements -/
@[simp] theorem s_asgE {i : Nat} {e : E} : evS L C (.asg i e) σ m = (evE C e σ m).bind fun u m1 => match setE σ i (.v u) with
    | some σ' => .ok (.nx, σ') m1
    | none => .bad := rfl
@[simp] theorem s_ownE {i : Nat} {e : E} : evS L C (.own i e) σ m = (evE C e σ m).bind fun u m1 => match u with
    | .dat (.list xs) => match setE σ i (.own xs) with
      | some σ' => .ok (.nx, σ') m1
      | none => .bad
    | _ => .bad := rfl
@[simp] theorem s_frzE {i : Nat} : evS L C (.frz i) σ m = match σ[i]? with
    | some (.own xs) => .ok (.nx, σ.set i (.v (.dat (.list xs)))) m
    | some (.v u) => .ok (.nx, σ) m
    | _ => .bad := rfl
@[simp] theorem s_par2E {i j : Nat} {a b : E} : evS L C (.par2 i j a b) σ m = (evE C a σ m).bind fun x m1 => (evE C b σ m1).bind fun y m2 => match (setE σ i (.v x)).bind fun σ' => setE σ' j (.v y) with
    | some σ' => .ok (.nx, σ') m2
    | none => .bad := rfl
@[simp] theorem s_par2oE {i j : Nat} {a b : E} : evS L C (.par2o i j a b) σ m = (evE C a σ m).bind fun x m1 => (evE C b σ m1).bind fun y m2 => match y with
    | .dat (.list xs) => match (setE σ i (.v x)).bind fun σ' => setE σ' j (.own xs) with
      | some σ' => .ok (.nx, σ') m2
      | none => .bad
    | _ => .bad := rfl
@[simp] theorem s_par1oE {i j : Nat} {a b : E} : evS L C (.par1o i j a b) σ m = (evE C a σ m).bind fun x m1 => match x with
    | .dat (.list xs) => (evE C b σ m1).bind fun y m2 => match (setE σ i (.own xs)).bind fun σ' => setE σ' j (.v y) with
      | some σ' => .ok (.nx, σ') m2
      | none => .bad
    | _ => .bad := rfl
@[simp] theorem s_asgToE {i j : Nat} {a b : E} : evS L C (.asgTo i j a b) σ m = (evE C a σ m).bind fun x m1 => match x with
    | .dat (.list xs) => (evE C b σ m1).bind fun y m2 => match (setE σ i (.own xs)).bind fun σ' => setE σ' j (.v y) with
      | some σ' => .ok (.nx, σ') m2
      | none => .bad
    | _ => .bad := rfl
@[simp] theorem s_par2ooE {i j : Nat} {a b : E} : evS L C (.par2oo i j a b) σ m = (evE C a σ m).bind fun x m1 => match x with
    | .dat (.list xs) => (evE C b σ m1).bind fun y m2 => match y with
      | .dat (.list ys) => match (setE σ i (.own xs)).bind fun σ' => setE σ' j (.own ys) with
        | some σ' => .ok (.nx, σ') m2
        | none => .bad
      | _ => .bad
    | _ => .bad := rfl
@[simp] theorem s_par3oE {i j l : Nat} {a b c : E} : evS L C (.par3o i j l a b c) σ m = (evE C a σ m).bind fun x m1 => match x with
    | .dat (.list xs) => (evE C b σ m1).bind fun y m2 => (evE C c σ m2).bind fun z m3 => match ((setE σ i (.own xs)).bind fun σ' => setE σ' j (.v y)).bind fun σ' => setE σ' l (.v z) with
      | some σ' => .ok (.nx, σ') m3
      | none => .bad
    | _ => .bad := rfl
@[simp] theorem s_augOE {i : Nat} {ix e : E} {o : BinO} : evS L C (.augO i ix o e) σ m = match σ[i]? with
    | some (.own xs) => (evE C ix σ m).bind fun y m1 => match ixO xs y with
      | some p => (evE C e σ m1).bind fun u m2 => augOGo σ i o xs p u m2
      | none => .bad
    | _ => .bad := rfl
@[simp] theorem s_setOPE {i j : Nat} {ix e : E} : evS L C (.setOP i ix j e) σ m = (evE C e σ m).bind fun u m1 => match u with
    | .dat (.tuple [d, d2]) => match σ[i]? with
      | some (.own xs) => (evE C ix σ m1).bind fun y m2 => setOPGo σ i j xs d d2 y m2
      | _ => .bad
    | _ => .bad := rfl
@[simp] theorem s_setOE {i : Nat} {ix e : E} : evS L C (.setO i ix e) σ m = (evE C e σ m).bind fun u m1 => match σ[i]? with
    | some (.own xs) => (evE C ix σ m1).bind fun y m2 => setOGo σ i xs u y m2
    | _ => .bad := rfl
@[simp] theorem s_setME {r ix e : E} : evS L C (.setM r ix e) σ m = (evE C e σ m).bind fun u m1 => (evE C r σ m1).bind fun x m2 => (evE C ix σ m2).bind fun y m3 => setMGo σ u x y m3 := rfl
@[simp] theorem s_appE {i : Nat} {e : E} : evS L C (.app i e) σ m = match σ[i]? with
    | some (.own xs) => (evE C e σ m).bind fun u m1 => appGo σ i xs u m1
    | _ => .bad := rfl
@[simp] theorem s_extE {i : Nat} {e : E} : evS L C (.ext i e) σ m = match σ[i]? with
    | some (.own xs) => (evE C e σ m).bind fun u m1 => extGo σ i xs u m1
    | _ => .bad := rfl
@[simp] theorem s_setO2E {i : Nat} {ix ix2 e : E} : evS L C (.setO2 i ix ix2 e) σ m = (evE C e σ m).bind fun u m1 => match u with
    | .dat (.tuple [d, d2]) => match σ[i]? with
      | some (.own xs) => ((evE C ix σ m1).bind fun y m2 => setOGo σ i xs (.dat d) y m2).bind (setO2Go σ i d2 (evE C ix2))
      | _ => .bad
    | _ => .bad := rfl
@[simp] theorem s_popOE {i j : Nat} : evS L C (.popO i j) σ m = match σ[j]? with
    | some (.own xs) => popGo σ i j xs m
    | _ => .bad := rfl
@[simp] theorem s_augE {i : Nat} {o : BinO} {e : E} : evS L C (.aug i o e) σ m = match σ[i]? with
    | some (.v (.dat d)) => (evE C e σ m).bind fun u m1 => augGo σ i o d u m1
    | _ => .bad := rfl
@[simp] theorem s_raiseE {k : Nat} {e : E} : evS L C (.raise k e) σ m = (evE C e σ m).bind fun u m1 => .exc k u m1 := rfl
@[simp] theorem s_tryE {md : TM} {e : E} {i k : Nat} {hs : List HS} : evS L C (.tryX md e i k hs) σ m = tryGo md i k hs σ (evE C e σ m) := rfl
@[simp] theorem s_ifeE {c : E} {t f : Ss} : evS L C (.ife c t f) σ m = ((evE C c σ m).bind asB).bind fun b m1 => if b = true then evSs L C t σ m1 else evSs L C f σ m1 := rfl
@[simp] theorem s_forE {tg : Tg} {it : It} {body : Ss} : evS L C (.for_ tg it body) σ m = (evI C it σ m).bind fun ds m1 => forGo (fun σ m => evSs L C body σ m) tg ds σ m1 := rfl
@[simp] theorem s_retE {e : E} : evS L C (.ret e) σ m = (evE C e σ m).bind fun u m1 => .ok (.ret u, σ) m1 := rfl
@[simp] theorem s_exprE {e : E} : evS L C (.expr e) σ m = (evE C e σ m).bind fun _ m1 => .ok (.nx, σ) m1 := rfl
@[simp] theorem s_nil : evSs L C .nil σ m = .ok (.nx, σ) m := rfl
noncomputable def thenS (L : Nat) (C : Calls) (ss : Ss) (x : F × Env) (m : Mem) : R (F × Env) := match x.1 with
  | .nx => evSs L C ss x.2 m
  | _ => .ok x m
@[simp] theorem s_cons {s : S} {ss : Ss} : evSs L C (.cons s ss) σ m = (evS L C s σ m).bind (thenS L C ss) := rfl
@[simp] theorem then_nx {ss : Ss} : thenS L C ss (.nx, σ) m = evSs L C ss σ m := rfl
@[simp] theorem then_ret {ss : Ss} {u : U} : thenS L C ss (.ret u, σ) m = .ok (.ret u, σ) m := rfl
def finS (x : F × Env) (m : Mem) : R U := match x.1 with
  | .ret u => .ok u m
  | .nx => .ok (.dat .none) m
  | _ => .bad
@[simp] theorem fin_ret {u : U} : finS (.ret u, σ) m = .ok u m := rfl
theorem call_eq {P : Prog} {n f : Nat} {fd : FD} {us : List U} (h : P f = some fd) (hl : us.length = fd.np) : callN L P (n + 1) f us m = (evSs L (callN L P n) fd.body (us.map Sl.v ++ List.replicate (fd.N.length - us.length) .no) m).bind finS := by
  rw [callN_succ h]
  unfold runFD
  rw [if_pos hl]; rfl
/-- a loop with an invariant by the turn -/
theorem forGo_inv {body : Env → Mem → R (F × Env)} {tg : Tg} (ds : List PyData) (I : Nat → Env → Mem → Prop) (h : ∀ i d σ m, ds[i]? = some d → I i σ m → ∃ σ1 σ2 m2, asgTg tg d σ = some σ1 ∧ body σ1 m = .ok (.nx, σ2) m2 ∧ I (i + 1) σ2 m2) :
    ∀ {σ : Env} {m : Mem}, I 0 σ m → ∃ σ' m', forGo body tg ds σ m = .ok (.nx, σ') m' ∧ I ds.length σ' m' := by
  induction ds generalizing I with
  | nil => intro σ m hi; exact ⟨σ, m, rfl, hi⟩
  | cons d ds ih =>
    intro σ m hi
    obtain ⟨σ1, σ2, m2, h1, h2, h3⟩ := h 0 d σ m rfl hi
    obtain ⟨σ', m', k1, k2⟩ := ih (fun i => I (i + 1)) (fun i d σ m hd hi => h (i + 1) d σ m (by simpa using hd) hi) h3
    refine ⟨σ', m', ?_, k2⟩
    unfold forGo
    rw [h1]
    simp only [h2, R.bind_ok]
    exact k1
inductive All2 {α β : Type} (R : α → β → Prop) : List α → List β → Prop
  | nil : All2 R [] []
  | cons {a : α} {b : β} {as : List α} {bs : List β} : R a b → All2 R as bs → All2 R (a :: as) (b :: bs)
theorem All2.length {α β : Type} {R : α → β → Prop} : ∀ {as : List α} {bs : List β}, All2 R as bs → bs.length = as.length
  | _, _, .nil => rfl
  | _, _, .cons _ h => by rw [List.length_cons, List.length_cons, h.length]
theorem compGo_pure {elt : Env → Mem → R U} {tg : Tg} {σ : Env} {m : Mem} {f : PyData → PyData} : ∀ {ds : List PyData}, (∀ d ∈ ds, ∃ σ', asgTg tg d σ = some σ' ∧ elt σ' m = .ok (.dat (f d)) m) → compGo elt none tg σ ds m = .ok (ds.map f) m
  | [], _ => rfl
  | d :: ds, h => by
    obtain ⟨σ', h1, h2⟩ := h d List.mem_cons_self
    unfold compGo
    rw [h1]
    simp only [condGo, R.bind_ok, if_true, h2, asD_dat]
    rw [compGo_pure fun e he => h e (List.mem_cons_of_mem _ he)]
    rfl
theorem compGo_filt {elt : Env → Mem → R U} {c : Env → Mem → R U} {tg : Tg} {σ : Env} {m : Mem} {f : PyData → PyData} {p : PyData → Bool} : ∀ {ds : List PyData}, (∀ d ∈ ds, ∃ σ', asgTg tg d σ = some σ' ∧ c σ' m = .ok (.dat (.bool (p d))) m ∧ (p d = true → elt σ' m = .ok (.dat (f d)) m)) → compGo elt (some c) tg σ ds m = .ok ((ds.filter p).map f) m
  | [], _ => rfl
  | d :: ds, h => by
    obtain ⟨σ', h1, h2, h3⟩ := h d List.mem_cons_self
    unfold compGo
    rw [h1]
    have ih := compGo_filt fun e he => h e (List.mem_cons_of_mem _ he)
    simp only [condGo, h2, R.bind_ok, asB_bool]
    cases hp : p d with
    | true =>
      rw [if_pos rfl, h3 hp, List.filter_cons_of_pos hp]
      simp only [R.bind_ok, asD_dat, ih, List.map_cons]
    | false =>
      rw [if_neg (by simp), List.filter_cons_of_neg (by simp [hp]), ih]
theorem compGo_inv {elt : Env → Mem → R U} {tg : Tg} {σ : Env} {I : Mem → Prop} {Rr : PyData → PyData → Prop} : ∀ {ds : List PyData} {m : Mem}, I m → (∀ d ∈ ds, ∀ m, I m → ∃ σ' x m', asgTg tg d σ = some σ' ∧ elt σ' m = .ok (.dat x) m' ∧ I m' ∧ Rr d x) →
    ∃ xs m', compGo elt none tg σ ds m = .ok xs m' ∧ I m' ∧ All2 Rr ds xs
  | [], m, hi, _ => ⟨[], m, rfl, hi, .nil⟩
  | d :: ds, m, hi, h => by
    obtain ⟨σ', x, m1, h1, h2, h3, h4⟩ := h d List.mem_cons_self m hi
    obtain ⟨xs, m2, k1, k2, k3⟩ := compGo_inv h3 fun e he => h e (List.mem_cons_of_mem _ he)
    refine ⟨x :: xs, m2, ?_, k2, .cons h4 k3⟩
    unfold compGo
    rw [h1]
    simp only [condGo, R.bind_ok, if_true, h2, asD_dat, k1]
end
@[simp] theorem bv_addI (i j : Int) : binVal .add (.int i) (.int j) = some (.int (i + j)) := rfl
@[simp] theorem bv_subI (i j : Int) : binVal .sub (.int i) (.int j) = some (.int (i - j)) := rfl
theorem bv_modI {i j : Int} (h : 0 < j) : binVal .mod (.int i) (.int j) = some (.int (i % j)) := if_pos h
theorem bv_mulI {i j : Int} (h : L2.CMul i j) : binVal .mul (.int i) (.int j) = some (.int (i * j)) := if_pos h
theorem bv_fdivI {i j : Int} (h : L2.CDivW i j) : binVal .fdiv (.int i) (.int j) = some (.int (i / j)) := if_pos h
theorem bv_powI {i j : Int} (h : L2.CPow i j) : binVal .pow (.int i) (.int j) = some (.int (i ^ j.toNat)) := if_pos h
@[simp] theorem cv_eqI (i j : Int) : cmpVal .eq (.int i) (.int j) = some (.bool (decide (i = j))) := rfl
@[simp] theorem cv_neI (i j : Int) : cmpVal .ne (.int i) (.int j) = some (.bool (!decide (i = j))) := rfl
@[simp] theorem cv_ltI (i j : Int) : cmpVal .lt (.int i) (.int j) = some (.bool (decide (i < j))) := rfl
@[simp] theorem cv_leI (i j : Int) : cmpVal .le (.int i) (.int j) = some (.bool (decide (i ≤ j))) := rfl
@[simp] theorem cv_gtI (i j : Int) : cmpVal .gt (.int i) (.int j) = some (.bool (decide (j < i))) := rfl
@[simp] theorem cv_geI (i j : Int) : cmpVal .ge (.int i) (.int j) = some (.bool (decide (j ≤ i))) := rfl
@[simp] theorem cv_neS (i j : Str) : cmpVal .ne (.str i) (.str j) = some (.bool (!decide (i = j))) := rfl
@[simp] theorem b2_max (i j : Int) : b2Val .max (.int i) (.int j) = some (.int (if j > i then j else i)) := rfl
@[simp] theorem b2_min (i j : Int) : b2Val .min (.int i) (.int j) = some (.int (if j < i then j else i)) := rfl
@[simp] theorem b1_absI (i : Int) : b1Val .abs (.int i) = some (.int (if i < 0 then -i else i)) := rfl
@[simp] theorem b1_intI (i : Int) : b1Val .int (.int i) = some (.int i) := rfl
@[simp] theorem oA_def {a : E} {f : Env → Mem → R U} {σ : Env} {m : Mem} : oA a f σ m = match a with
  | .no => .ok none m
  | _ => ((f σ m).bind asInt).bind fun i m1 => .ok (some i) m1 := rfl
@[simp] theorem getV_def {σ : Env} {i : Nat} {m : Mem} : getV σ i m = match σ[i]? with
  | some (.v u) => .ok u m
  | _ => .bad := rfl
@[simp] theorem getB_def {σ : Env} {i : Nat} {m : Mem} : getB σ i m = match σ[i]? with
  | some (.v u) => .ok u m
  | some (.own xs) => .ok (.dat (.list xs)) m
  | _ => .bad := rfl
@[simp] theorem asTup_def {us : List U} {m : Mem} : asTup us m = R.dat ((datL us).map .tuple) m := rfl
@[simp] theorem asLst_def {us : List U} {m : Mem} : asLst us m = R.dat ((datL us).map .list) m := rfl
@[simp] theorem datL_nil : datL [] = some [] := rfl
@[simp] theorem datL_cons {d : PyData} {r : List U} : datL (.dat d :: r) = (datL r).map (d :: ·) := rfl
@[simp] theorem clsVal_def {c : ClsT} {d : PyData} : clsVal c d = match c, d with
  | .int, .int _ => true
  | .int, .bool _ => true
  | .bool, .bool _ => true
  | .str, .str _ => true
  | .list, .list _ => true
  | .tuple, .tuple _ => true
  | _, _ => false := rfl
@[simp] theorem wipeE_nil {σ : Env} : wipeE σ [] = σ := rfl
@[simp] theorem wipeE_cons {σ : Env} {v : Nat} {vs : List Nat} : wipeE σ (v :: vs) = (wipeE σ vs).set v .no := rfl
@[simp] theorem asgTg_nm {i : Nat} {d : PyData} {σ : Env} : asgTg (.nm i) d σ = if i < σ.length then some (σ.set i (.v (.dat d))) else none := rfl
@[simp] theorem asgTg_tp {ts : List Tg} {ds : List PyData} {σ : Env} : asgTg (.tp ts) (.tuple ds) σ = asgTgs ts ds σ := rfl
@[simp] theorem asgTgs_nil {σ : Env} : asgTgs [] [] σ = some σ := rfl
@[simp] theorem asgTgs_cons {t : Tg} {ts : List Tg} {d : PyData} {ds : List PyData} {σ : Env} : asgTgs (t :: ts) (d :: ds) σ = (asgTg t d σ).bind fun σ' => asgTgs ts ds σ' := rfl
@[simp] theorem setE_def {σ : Env} {i : Nat} {s : Sl} : setE σ i s = if i < σ.length then some (σ.set i s) else none := rfl
@[simp] theorem cA_def {a : E} {f : Env → Mem → R U} : cA a f = match a with
  | .no => none
  | _ => some fun σ m => (f σ m).quiet := rfl
@[simp] theorem isNoneD_def {d : PyData} : isNoneD d = match d with
  | .none => true
  | _ => false := rfl
end Eng

set_option Elab.async false
set_option linter.all false
set_option maxRecDepth 100000
set_option maxHeartbeats 1000000
/-! List comprehensions over mapped lists; steps of a list of its own. -/
namespace Eng
open PySem PySem.Spec PyProof.Rows L2
section
variable {α : Type} {C : Calls} {elt cond : E} {tg : Tg} {it : It} {own : List (Str × Nat)} {σ : Env} {m : Mem} {g f : α → PyData} {p : α → Bool} {l : List α}
theorem comp_map {el : Env → Mem → R U} : ∀ {l : List α}, (∀ a ∈ l, ∃ σ', asgTg tg (g a) σ = some σ' ∧ el σ' m = .ok (.dat (f a)) m) → compGo el none tg σ (l.map g) m = .ok (l.map f) m
  | [], _ => rfl
  | a :: l, h => by
    obtain ⟨σ', h1, h2⟩ := h a List.mem_cons_self
    rw [List.map_cons, List.map_cons]
    unfold compGo
    rw [h1]
    simp only [condGo, R.bind_ok, if_true, h2, asD_dat]
    rw [comp_map fun e he => h e (List.mem_cons_of_mem _ he)]
    rfl
theorem comp_filt {el c : Env → Mem → R U} : ∀ {l : List α}, (∀ a ∈ l, ∃ σ', asgTg tg (g a) σ = some σ' ∧ c σ' m = .ok (.dat (.bool (p a))) m ∧ (p a = true → el σ' m = .ok (.dat (f a)) m)) → compGo el (some c) tg σ (l.map g) m = .ok ((l.filter p).map f) m
  | [], _ => rfl
  | a :: l, h => by
    obtain ⟨σ', h1, h2, h3⟩ := h a List.mem_cons_self
    rw [List.map_cons]
    unfold compGo
    rw [h1]
    have ih := comp_filt fun e he => h e (List.mem_cons_of_mem _ he)
    simp only [condGo, h2, R.bind_ok, asB_bool]
    cases hp : p a with
    | true =>
      rw [if_pos rfl, h3 hp, List.filter_cons_of_pos hp]
      simp only [R.bind_ok, asD_dat, ih, List.map_cons]
    | false =>
      rw [if_neg (by simp), List.filter_cons_of_neg (by simp [hp]), ih]
theorem ev_compM (hI : evI C it σ m = .ok (l.map g) m) (hl : l.length ≤ 1000) (h : ∀ a ∈ l, ∃ σ', asgTg tg (g a) (wipeE σ (own.map (·.2))) = some σ' ∧ evE C elt σ' m = .ok (.dat (f a)) m) : evE C (.comp elt tg it .no own) σ m = .ok (.dat (.list (l.map f))) m := by
  refine ev_comp hI (by rw [List.length_map]; exact small1001 hl) ?_
  refine comp_map fun a ha => ?_
  obtain ⟨σ', h1, h2⟩ := h a ha
  exact ⟨σ', h1, by rw [h2]; rfl⟩
theorem ev_compF (hc : cA cond (evE C cond) = some fun σ m => (evE C cond σ m).quiet) (hI : evI C it σ m = .ok (l.map g) m) (hl : l.length ≤ 1000)
    (h : ∀ a ∈ l, ∃ σ', asgTg tg (g a) (wipeE σ (own.map (·.2))) = some σ' ∧ evE C cond σ' m = .ok (.dat (.bool (p a))) m ∧ (p a = true → evE C elt σ' m = .ok (.dat (f a)) m)) : evE C (.comp elt tg it cond own) σ m = .ok (.dat (.list ((l.filter p).map f))) m := by
  refine ev_comp hI (by rw [List.length_map]; exact small1001 hl) ?_
  rw [hc]
  refine comp_filt fun a ha => ?_
  obtain ⟨σ', h1, h2, h3⟩ := h a ha
  exact ⟨σ', h1, by rw [h2]; rfl, fun hp => by rw [h3 hp]; rfl⟩
end
@[simp] theorem s_asgTE {L : Nat} {C : Calls} {ts : List Tg} {e : E} {σ : Env} {m : Mem} : evS L C (.asgT ts e) σ m = (evE C e σ m).bind fun u m1 => match u with
    | .dat (.tuple ds) => match asgTgs ts ds σ with
      | some σ' => .ok (.nx, σ') m1
      | none => .bad
    | _ => .bad := rfl
theorem ext_ok {m : Mem} {σ : Env} {i : Nat} {xs ys : List PyData} (h : xs.length + ys.length ≤ 1000) : extGo σ i xs (.dat (.list ys)) m = .ok (.nx, σ.set i (.own (xs ++ ys))) m := if_pos (small1001 h)
end Eng

set_option Elab.async false
set_option linter.all false
set_option maxRecDepth 100000
set_option maxHeartbeats 1000000
/-! What repr, ==, in ask of data. -/
namespace Eng
open PySem PySem.Spec PyProof.Rows L2
structure Fac (d : PyData) (w k : Nat) : Prop where
  lay : d.canLay0 = true
  sh : d.showable = true
  ish : d.intsShort 13 = true
  wt : d.weight ≤ w
  dp : d.depth ≤ k
structure FacA (ds : List PyData) (n w k : Nat) : Prop where
  lay : PyData.canLayAll0 ds = true
  sh : PyData.showableAll ds = true
  ish : PyData.intsShortAll 13 ds = true
  wt : PyData.weightAll ds ≤ n * (w + 1)
  dp : PyData.depthAll ds ≤ k
section
variable {d e : PyData} {ds es : List PyData} {w w' k k' n : Nat}
theorem Fac.mono (h : Fac d w k) (h1 : w ≤ w') (h2 : k ≤ k') : Fac d w' k' := ⟨h.lay, h.sh, h.ish, Nat.le_trans h.wt h1, Nat.le_trans h.dp h2⟩
theorem Fac.all : ∀ {ds : List PyData}, (∀ d ∈ ds, Fac d w k) → FacA ds ds.length w k
  | [], _ => ⟨rfl, rfl, rfl, Nat.zero_le _, Nat.zero_le _⟩
  | d :: ds, h => by
    have h1 := h d List.mem_cons_self
    have h2 := Fac.all fun e he => h e (List.mem_cons_of_mem _ he)
    refine ⟨?_, ?_, ?_, ?_, ?_⟩
    · simp only [PyData.canLayAll0, h1.lay, h2.lay, Bool.and_self]
    · simp only [PyData.showableAll, h1.sh, h2.sh, Bool.and_self]
    · simp only [PyData.intsShortAll, h1.ish, h2.ish, Bool.and_self]
    · simp only [PyData.weightAll, List.length_cons, Nat.succ_mul]
      have := h1.wt
      have := h2.wt
      omega
    · simp only [PyData.depthAll]
      have := h1.dp
      have := h2.dp
      omega
theorem Fac.list (h : ∀ d ∈ ds, Fac d w k) (hn : ds.length ≤ n) : Fac (.list ds) (n * (w + 1)) (k + 1) := by
  have a := Fac.all h
  have hm : ds.length * (w + 1) ≤ n * (w + 1) := Nat.mul_le_mul_right _ hn
  refine ⟨by simp only [PyData.canLay0]; exact a.lay, by simp only [PyData.showable]; exact a.sh, by simp only [PyData.intsShort]; exact a.ish, ?_, ?_⟩
  · simp only [PyData.weight]; exact Nat.le_trans a.wt hm
  · simp only [PyData.depth]; have := a.dp; omega
theorem Fac.tuple (h : ∀ d ∈ ds, Fac d w k) (hn : ds.length ≤ n) : Fac (.tuple ds) (n * (w + 1)) (k + 1) := by
  have a := Fac.all h
  have hm : ds.length * (w + 1) ≤ n * (w + 1) := Nat.mul_le_mul_right _ hn
  refine ⟨by simp only [PyData.canLay0]; exact a.lay, by simp only [PyData.showable]; exact a.sh, by simp only [PyData.intsShort]; exact a.ish, ?_, ?_⟩
  · simp only [PyData.weight]; exact Nat.le_trans a.wt hm
  · simp only [PyData.depth]; have := a.dp; omega
theorem short_nat : ∀ i < 1001, ((PyData.int (i : Nat)).shown).length ≤ 13 := by decide +kernel
theorem Fac.int {i : Nat} (h : i < 1001) : Fac (.int (i : Int)) 11 0 := by
  have hl : i.log2 ≤ 10 := by
    rcases Nat.eq_zero_or_pos i with e | e
    · subst e; decide
    · have := (Nat.log2_lt (n := i) (k := 11) (by omega)).mpr (by omega)
      omega
  refine ⟨rfl, ?_, ?_, ?_, Nat.le_refl _⟩
  · simp only [PyData.showable, decide_eq_true_eq, Int.natAbs_natCast]; omega
  · simp only [PyData.intsShort, decide_eq_true_eq]; exact short_nat i h
  · simp only [PyData.weight, Int.natAbs_natCast]
    split <;> omega
theorem Fac.bool (b : Bool) : Fac (.bool b) 0 0 := ⟨rfl, rfl, rfl, Nat.zero_le _, Nat.le_refl _⟩
theorem Fac.none : Fac .none 0 0 := ⟨rfl, rfl, rfl, Nat.zero_le _, Nat.le_refl _⟩
theorem Fac.str {x : Str} (h : PyData.strOk x = true) (hw : x.cps.size ≤ w) : Fac (.str x) w 0 := ⟨by simp only [PyData.canLay0]; exact h, rfl, rfl, by simp only [PyData.weight]; exact hw, Nat.le_refl _⟩
/-- its text -/
theorem Fac.repr (h : Fac d w k) (hw : w ≤ 1000000) (hk : k ≤ 60) : ∃ z : Str, b1Val .repr d = some (.str z) := by
  have e : b1Val .repr d = if d.showable && decide (d.shown.length ≤ sizeLine) && decide (d.depth ≤ 60) then some (.str d.shown) else .none := by cases d <;> rfl
  have l : PyData.layable0 d = true := by
    have : (2 : Nat) ^ 20 = 1048576 := by decide
    have := h.wt
    have := h.dp
    show (d.canLay0 && decide (d.depth ≤ 64) && decide (d.weight ≤ 2 ^ 20)) = true
    rw [h.lay]
    simp only [Bool.true_and, Bool.and_eq_true, decide_eq_true_eq]
    exact ⟨by omega, by omega⟩
  have s := PyProof.Rows.shown_le13 l h.ish
  refine ⟨d.shown, ?_⟩
  rw [e, if_pos]
  have := h.dp
  simp only [Bool.and_eq_true, decide_eq_true_eq]
  exact ⟨⟨h.sh, by rw [sizeLine_eq]; omega⟩, by omega⟩
theorem Fac.shaped (h : Fac d w k) (hk : k ≤ 60) : SeqAt.shaped d = true := by
  have := h.dp
  show (d.canLay0 && decide (d.depth ≤ 64)) = true
  rw [h.lay, Bool.true_and, decide_eq_true_eq]; omega
/-! ### the same, exactly -/
mutual
/-- no truth value, no dict within -/
def plainD : PyData → Bool
  | .none | .int _ | .str _ => true
  | .bool _ | .dict _ => false
  | .list xs | .tuple xs => plainA xs
def plainA : List PyData → Bool
  | [] => true
  | x :: xs => plainD x && plainA xs
end
mutual
theorem eqv_iff : ∀ (d e : PyData), plainD d = true → plainD e = true → (PyData.eqv d e = true ↔ d = e)
  | .none, e, _, _ => by cases e <;> simp [PyData.eqv]
  | .int i, e, _, h => by
    cases e with
    | bool b => simp [plainD] at h
    | int j => simp [PyData.eqv]
    | _ => simp [PyData.eqv]
  | .str x, e, _, h => by
    cases e with
    | str y => simp [PyData.eqv]
    | _ => simp [PyData.eqv]
  | .bool b, e, h, _ => by simp [plainD] at h
  | .dict b, e, h, _ => by simp [plainD] at h
  | .list xs, e, h, h' => by
    simp only [plainD] at h
    cases e with
    | list ys =>
      simp only [plainD] at h'
      simp only [PyData.eqv, PyData.list.injEq]
      exact eqvA_iff xs ys h h'
    | _ => simp [PyData.eqv]
  | .tuple xs, e, h, h' => by
    simp only [plainD] at h
    cases e with
    | tuple ys =>
      simp only [plainD] at h'
      simp only [PyData.eqv, PyData.tuple.injEq]
      exact eqvA_iff xs ys h h'
    | _ => simp [PyData.eqv]
theorem eqvA_iff : ∀ (ds es : List PyData), plainA ds = true → plainA es = true → (PyData.eqvAll ds es = true ↔ ds = es)
  | [], [], _, _ => by simp [PyData.eqvAll]
  | [], _ :: _, _, _ => by simp [PyData.eqvAll]
  | _ :: _, [], _, _ => by simp [PyData.eqvAll]
  | x :: xs, y :: ys, h, h' => by
    simp only [plainA, Bool.and_eq_true] at h h'
    simp only [PyData.eqvAll, Bool.and_eq_true, List.cons.injEq]
    rw [eqv_iff x y h.1 h'.1, eqvA_iff xs ys h.2 h'.2]
end
/-- == of two data that are lists or tuples -/
def isSq : PyData → Bool
  | .list _ | .tuple _ => true
  | _ => false
theorem cmp_eqS (hd : Fac d w k) (he : Fac e w' k') (hk : k ≤ 60) (hk' : k' ≤ 60) (hs : isSq d = true) : cmpVal .eq d e = some (.bool (PyData.eqv d e)) := by
  have s1 := hd.shaped hk
  have s2 := he.shaped hk'
  cases d <;> simp only [isSq, Bool.false_eq_true] at hs
  all_goals cases e <;> exact if_pos ⟨s1, s2⟩
theorem cmp_neB (x y : Bool) : cmpVal .ne (.bool x) (.bool y) = some (.bool (!(x == y))) := by cases x <;> cases y <;> rfl
/-- x in a list of data -/
theorem cmp_inL (hd : Fac d w k) (hk : k ≤ 60) (hs : PyData.canLayAll0 ds = true) : cmpVal .in_ d (.list ds) = some (.bool (ds.any fun z => PyData.eqv z d)) := by
  have := hd.dp
  have e : cmpVal .in_ d (.list ds) = if d.canLay0 = true ∧ PyData.canLayAll0 ds = true ∧ d.depth ≤ 60 then some (.bool (ds.any fun z => PyData.eqv z d)) else .none := by cases d <;> rfl
  rw [e, if_pos ⟨hd.lay, hs, by omega⟩]
theorem cmp_notinL (hd : Fac d w k) (hk : k ≤ 60) (hs : PyData.canLayAll0 ds = true) : cmpVal .notin d (.list ds) = some (.bool (!ds.any fun z => PyData.eqv z d)) := by
  have := hd.dp
  have e : cmpVal .notin d (.list ds) = if d.canLay0 = true ∧ PyData.canLayAll0 ds = true ∧ d.depth ≤ 60 then some (.bool (!ds.any fun z => PyData.eqv z d)) else .none := by cases d <;> rfl
  rw [e, if_pos ⟨hd.lay, hs, by omega⟩]
theorem any_eqv {α : Type} [DecidableEq α] {f : α → PyData} {l : List α} {a : α} (hp : ∀ x, x ∈ l ∨ x = a → plainD (f x) = true) (hf : ∀ x ∈ l, f x = f a → x = a) : ((l.map f).any fun z => PyData.eqv z (f a)) = decide (a ∈ l) := by
  rw [List.any_map, Bool.eq_iff_iff, List.any_eq_true, decide_eq_true_eq]
  constructor
  · rintro ⟨x, hx, q⟩
    have := (eqv_iff _ _ (hp x (.inl hx)) (hp a (.inr rfl))).mp q
    rw [← hf x hx this]; exact hx
  · intro h
    exact ⟨a, h, (eqv_iff _ _ (hp a (.inr rfl)) (hp a (.inr rfl))).mpr rfl⟩
end
end Eng

set_option Elab.async false
set_option linter.all false
set_option maxRecDepth 100000
set_option maxHeartbeats 4000000
namespace K23
open PySem PySem.Spec PyProof.Rows L2 Eng
/-! ### the defs -/
def d_is_integer : FD := ⟨"is_integer", 1, ["value"],
    (.cons (.ret (.and (.isi (.var 0) .int) (.not (.isi (.var 0) .bool))))
      .nil)⟩
def d_is_number : FD := ⟨"is_number", 1, ["value"],
    (.cons (.ret (.and (.call 0 (.cons (.var 0) .nil)) (.cmp .ge (.var 0) (.cst (.int 0)))))
      .nil)⟩
def d_is_below : FD := ⟨"is_below", 2, ["value", "most"],
    (.cons (.ret (.and (.call 1 (.cons (.var 0) .nil)) (.cmp .lt (.var 0) (.var 1))))
      .nil)⟩
def d_is_positive : FD := ⟨"is_positive", 1, ["value"],
    (.cons (.ret (.and (.call 0 (.cons (.var 0) .nil)) (.cmp .ge (.var 0) (.cst (.int 1)))))
      .nil)⟩
def d_is_sequence : FD := ⟨"is_sequence", 1, ["value"],
    (.cons (.ret (.isi2 (.var 0) .list .tuple))
      .nil)⟩
def d_is_string : FD := ⟨"is_string", 1, ["value"],
    (.cons (.ret (.isi (.var 0) .str))
      .nil)⟩
def e_is_ascending_1 : E := (.cmp .lt (.var 1) (.var 2))
def c_is_ascending_1 : E := (.comp e_is_ascending_1 (.tp [(.nm 1), (.nm 2)]) (.zip2 (.var 0) (.sl (.var 0) (.cst (.int 1)) .no)) .no [("one", 1), ("other", 2)])
theorem bA_c_is_ascending_1 {f : Eng.Env → Mem → R U} {σ : Eng.Env} {m : Mem} : bA c_is_ascending_1 f σ m = f σ m := rfl
def d_is_ascending : FD := ⟨"is_ascending", 1, ["value", "one", "other"],
    (.cons (.ret (.b1 .all c_is_ascending_1))
      .nil)⟩
def e_is_lot_1 : E := (.call 2 (.cons (.var 2) (.cons (.var 1) .nil)))
def c_is_lot_1 : E := (.comp e_is_lot_1 (.nm 2) (.seq (.var 0)) .no [("one", 2)])
theorem bA_c_is_lot_1 {f : Eng.Env → Mem → R U} {σ : Eng.Env} {m : Mem} : bA c_is_lot_1 f σ m = f σ m := rfl
def d_is_lot : FD := ⟨"is_lot", 2, ["value", "most", "one"],
    (.cons (.ret (.and (.call 4 (.cons (.var 0) .nil)) (.and (.b1 .all c_is_lot_1) (.call 6 (.cons (.var 0) .nil)))))
      .nil)⟩
def e_are_below_1 : E := (.call 2 (.cons (.var 2) (.cons (.var 1) .nil)))
def c_are_below_1 : E := (.comp e_are_below_1 (.nm 2) (.seq (.var 0)) .no [("one", 2)])
theorem bA_c_are_below_1 {f : Eng.Env → Mem → R U} {σ : Eng.Env} {m : Mem} : bA c_are_below_1 f σ m = f σ m := rfl
def d_are_below : FD := ⟨"are_below", 2, ["value", "most", "one"],
    (.cons (.ret (.and (.call 4 (.cons (.var 0) .nil)) (.b1 .all c_are_below_1)))
      .nil)⟩
def d_is_hands : FD := ⟨"is_hands", 1, ["value"],
    (.cons (.ret (.and (.call 3 (.cons (.var 0) .nil)) (.cmp .le (.var 0) (.glb "MOST_HANDS" (.int 4)))))
      .nil)⟩
def d_is_map : FD := ⟨"is_map", 2, ["value", "boards"],
    (.cons (.ret (.and (.call 8 (.cons (.var 0) (.cons (.var 1) .nil))) (.cmp .eq (.b1 .len (.var 0)) (.var 1))))
      .nil)⟩
def e_are_deeds_1 : E := (.call 10 (.cons (.var 2) (.cons (.var 1) .nil)))
def c_are_deeds_1 : E := (.comp e_are_deeds_1 (.nm 2) (.seq (.var 0)) .no [("one", 2)])
theorem bA_c_are_deeds_1 {f : Eng.Env → Mem → R U} {σ : Eng.Env} {m : Mem} : bA c_are_deeds_1 f σ m = f σ m := rfl
def d_are_deeds : FD := ⟨"are_deeds", 1, ["value", "boards", "one"],
    (.cons (.ife (.or (.not (.call 4 (.cons (.var 0) .nil))) (.or (.not (.chain .le .le (.cst (.int 1)) (.b1 .len (.var 0)) (.glb "MOST_DEEDS" (.int 6)))) (.not (.call 4 (.cons (.ix (.var 0) (.cst (.int 0))) .nil))))) (.cons (.ret (.cst (.bool false)))
      .nil) .nil)
      (.cons (.asg 1 (.b1 .len (.ix (.var 0) (.cst (.int 0)))))
      (.cons (.ret (.and (.chain .le .le (.cst (.int 1)) (.var 1) (.glb "MOST_BOARDS" (.int 8))) (.b1 .all c_are_deeds_1)))
      .nil)))⟩
def e_check_machine_1 : E := (.b1 .tuple (.var 1))
def c_check_machine_1 : E := (.comp e_check_machine_1 (.nm 1) (.seq (.ix (.var 0) (.cst (.int 1)))) .no [("one", 1)])
theorem bA_c_check_machine_1 {f : Eng.Env → Mem → R U} {σ : Eng.Env} {m : Mem} : bA c_check_machine_1 f σ m = f σ m := rfl
def d_check_machine : FD := ⟨"check_machine", 1, ["value", "one"],
    (.cons (.ife (.or (.not (.call 4 (.cons (.var 0) .nil))) (.cmp .ne (.b1 .len (.var 0)) (.cst (.int 2)))) (.cons (.raise 0 .no)
      .nil) .nil)
      (.cons (.ife (.not (.call 11 (.cons (.ix (.var 0) (.cst (.int 1))) .nil))) (.cons (.raise 0 .no)
      .nil) .nil)
      (.cons (.ife (.not (.call 2 (.cons (.ix (.var 0) (.cst (.int 0))) (.cons (.b1 .len (.ix (.ix (.var 0) (.cst (.int 1))) (.cst (.int 0)))) .nil)))) (.cons (.raise 0 .no)
      .nil) .nil)
      (.cons (.ret (.tup (.cons (.ix (.var 0) (.cst (.int 0))) (.cons (.b1 .tuple c_check_machine_1) .nil))))
      .nil))))⟩
def d_need_deed : FD := ⟨"need_deed", 2, ["machine", "deed"],
    (.cons (.ife (.not (.call 2 (.cons (.var 1) (.cons (.b1 .len (.ix (.var 0) (.cst (.int 1)))) .nil)))) (.cons (.raise 0 .no)
      .nil) .nil)
      (.cons (.ret (.var 1))
      .nil))⟩
def d_need_hands : FD := ⟨"need_hands", 1, ["value"],
    (.cons (.ife (.not (.call 9 (.cons (.var 0) .nil))) (.cons (.raise 0 (.var 0))
      .nil) .nil)
      (.cons (.ret (.var 0))
      .nil))⟩
def d_is_letter : FD := ⟨"is_letter", 3, ["value", "hands", "deeds"],
    (.cons (.ret (.and (.call 4 (.cons (.var 0) .nil)) (.and (.cmp .eq (.b1 .len (.var 0)) (.cst (.int 2))) (.and (.call 2 (.cons (.ix (.var 0) (.cst (.int 0))) (.cons (.var 1) .nil))) (.call 2 (.cons (.ix (.var 0) (.cst (.int 1))) (.cons (.var 2) .nil)))))))
      .nil)⟩
def b_check_row_1 : Ss := (.cons (.ife (.not (.call 15 (.cons (.var 4) (.cons (.var 0) (.cons (.var 1) .nil))))) (.cons (.raise 0 .no)
      .nil) .nil)
      .nil)
def l_check_row_1 : S := (.for_ (.tp [(.nm 3), (.nm 4)]) (.enum (.var 2)) b_check_row_1)
def e_check_row_1 : E := (.b1 .tuple (.var 4))
def c_check_row_1 : E := (.comp e_check_row_1 (.nm 4) (.seq (.var 2)) .no [("letter", 4)])
theorem bA_c_check_row_1 {f : Eng.Env → Mem → R U} {σ : Eng.Env} {m : Mem} : bA c_check_row_1 f σ m = f σ m := rfl
def d_check_row : FD := ⟨"check_row", 3, ["hands", "deeds", "value", "at", "letter"],
    (.cons (.expr (.call 14 (.cons (.var 0) .nil)))
      (.cons (.ife (.not (.call 4 (.cons (.var 2) .nil))) (.cons (.raise 0 .no)
      .nil) .nil)
      (.cons l_check_row_1
      (.cons (.ret (.b1 .tuple c_check_row_1))
      .nil))))⟩
def d_check_history : FD := ⟨"check_history", 3, ["machine", "hands", "value", "rules"],
    (.cons (.asg 3 (.call 12 (.cons (.var 0) .nil)))
      (.cons (.ret (.call 16 (.cons (.var 1) (.cons (.b1 .len (.ix (.var 3) (.cst (.int 1)))) (.cons (.var 2) .nil)))))
      .nil))⟩
def d_check_lot : FD := ⟨"check_lot", 2, ["machine", "lot", "told"],
    (.cons (.asg 2 (.call 12 (.cons (.var 0) .nil)))
      (.cons (.ife (.not (.call 7 (.cons (.var 1) (.cons (.b1 .len (.ix (.ix (.var 2) (.cst (.int 1))) (.cst (.int 0)))) .nil)))) (.cons (.raise 0 (.var 1))
      .nil) .nil)
      (.cons (.ret (.b1 .tuple (.var 1)))
      .nil)))⟩
def e_like_on_1 : E := (.var 6)
def e_like_on_2 : E := (.cmp .eq (.ix (.ix (.var 4) (.var 6)) (.var 7)) (.ix (.var 5) (.var 7)))
def c_like_on_1 : E := (.comp e_like_on_2 (.nm 7) (.seq (.var 3)) .no [("board", 7)])
theorem bA_c_like_on_1 {f : Eng.Env → Mem → R U} {σ : Eng.Env} {m : Mem} : bA c_like_on_1 f σ m = f σ m := rfl
def t_like_on_1 : E := (.b1 .all c_like_on_1)
def c_like_on_2 : E := (.comp e_like_on_1 (.nm 6) (.rng1 (.b1 .len (.var 4))) t_like_on_1 [("one", 6)])
theorem bA_c_like_on_2 {f : Eng.Env → Mem → R U} {σ : Eng.Env} {m : Mem} : bA c_like_on_2 f σ m = f σ m := rfl
def d_like_on : FD := ⟨"like_on", 3, ["machine", "lot", "deed", "boards", "deeds", "told", "one", "board"],
    (.cons (.asg 3 (.call 18 (.cons (.var 0) (.cons (.var 1) .nil))))
      (.cons (.asg 4 (.ix (.call 12 (.cons (.var 0) .nil)) (.cst (.int 1))))
      (.cons (.asg 5 (.ix (.var 4) (.call 13 (.cons (.var 0) (.cons (.var 2) .nil)))))
      (.cons (.ret (.b1 .tuple c_like_on_2))
      .nil))))⟩
def e_are_counts_1 : E := (.call 1 (.cons (.var 1) .nil))
def c_are_counts_1 : E := (.comp e_are_counts_1 (.nm 1) (.seq (.var 0)) .no [("many", 1)])
theorem bA_c_are_counts_1 {f : Eng.Env → Mem → R U} {σ : Eng.Env} {m : Mem} : bA c_are_counts_1 f σ m = f σ m := rfl
def d_are_counts : FD := ⟨"are_counts", 1, ["value", "many"],
    (.cons (.ret (.and (.call 4 (.cons (.var 0) .nil)) (.and (.chain .le .le (.cst (.int 1)) (.b1 .len (.var 0)) (.glb "MOST_HANDS" (.int 4))) (.b1 .all c_are_counts_1))))
      .nil)⟩
def d_need_counts : FD := ⟨"need_counts", 1, ["value"],
    (.cons (.ife (.not (.call 20 (.cons (.var 0) .nil))) (.cons (.raise 0 (.var 0))
      .nil) .nil)
      (.cons (.ret (.b1 .tuple (.var 0)))
      .nil))⟩
def e_vectors_1 : E := (.bin .add (.var 3) (.tup (.cons (.var 4) .nil)))
def c_vectors_1 : E := (.comp2 e_vectors_1 (.nm 3) (.seq (.var 1)) (.nm 4) (.rng1 (.bin .add (.var 2) (.cst (.int 1)))) .no [("vector", 3), ("here", 4)])
def b_vectors_1 : Ss := (.cons (.own 1 c_vectors_1)
      (.cons (.frz 1)
      .nil))
def l_vectors_1 : S := (.for_ (.nm 2) (.seq (.call 21 (.cons (.var 0) .nil))) b_vectors_1)
def d_vectors : FD := ⟨"vectors", 1, ["counts", "found", "many", "vector", "here"],
    (.cons (.asg 1 (.lst (.cons (.tup .nil) .nil)))
      (.cons l_vectors_1
      (.cons (.ret (.b1 .tuple (.var 1)))
      .nil)))⟩
def e_is_vector_1 : E := (.call 2 (.cons (.var 2) (.cons (.bin .add (.var 3) (.cst (.int 1))) .nil)))
def c_is_vector_1 : E := (.comp e_is_vector_1 (.tp [(.nm 2), (.nm 3)]) (.zip2 (.var 1) (.var 0)) .no [("here", 2), ("many", 3)])
theorem bA_c_is_vector_1 {f : Eng.Env → Mem → R U} {σ : Eng.Env} {m : Mem} : bA c_is_vector_1 f σ m = f σ m := rfl
def d_is_vector : FD := ⟨"is_vector", 2, ["counts", "value", "here", "many"],
    (.cons (.ife (.or (.not (.call 4 (.cons (.var 1) .nil))) (.cmp .ne (.b1 .len (.var 1)) (.b1 .len (.var 0)))) (.cons (.ret (.cst (.bool false)))
      .nil) .nil)
      (.cons (.ret (.b1 .all c_is_vector_1))
      .nil))⟩
def b_place_of_1 : Ss := (.cons (.asg 3 (.bin .add (.bin .mul (.var 3) (.bin .add (.var 5) (.cst (.int 1)))) (.var 4)))
      .nil)
def l_place_of_1 : S := (.for_ (.tp [(.nm 4), (.nm 5)]) (.zip2 (.var 1) (.var 2)) b_place_of_1)
def d_place_of : FD := ⟨"place_of", 2, ["counts", "vector", "told", "found", "here", "many"],
    (.cons (.asg 2 (.call 21 (.cons (.var 0) .nil)))
      (.cons (.ife (.not (.call 23 (.cons (.var 2) (.cons (.var 1) .nil)))) (.cons (.raise 0 (.var 1))
      .nil) .nil)
      (.cons (.asg 3 (.cst (.int 0)))
      (.cons l_place_of_1
      (.cons (.ret (.var 3))
      .nil)))))⟩
def d_first_table : FD := ⟨"first_table", 2, ["machine", "hands", "told"],
    (.cons (.asg 2 (.call 12 (.cons (.var 0) .nil)))
      (.cons (.expr (.call 17 (.cons (.var 2) (.cons (.var 1) (.cons (.tup .nil) .nil)))))
      (.cons (.ret (.tup (.cons (.bin .mul (.tup (.cons (.cst (.int 0)) .nil)) (.var 1)) (.cons (.tup (.cons (.ix (.var 2) (.cst (.int 0))) .nil)) .nil))))
      .nil)))⟩
def e_grown_1 : E := (.ite (.cmp .eq (.var 9) (.var 2)) (.bin .add (.var 10) (.cst (.int 1))) (.var 10))
def c_grown_1 : E := (.comp e_grown_1 (.tp [(.nm 9), (.nm 10)]) (.enum (.ix (.var 1) (.cst (.int 0)))) .no [("place", 9), ("many", 10)])
theorem bA_c_grown_1 {f : Eng.Env → Mem → R U} {σ : Eng.Env} {m : Mem} : bA c_grown_1 f σ m = f σ m := rfl
def b_grown_1 : Ss := (.cons (.ife (.cmp .lt (.ix (.var 5) (.var 2)) (.ix (.var 4) (.var 2))) (.cons (.app 7 (.ix (.ix (.var 1) (.cst (.int 1))) (.call 24 (.cons (.ix (.var 1) (.cst (.int 0))) (.cons (.var 5) .nil)))))
      .nil) (.cons (.asg 8 (.bin .add (.bin .add (.sl (.var 5) .no (.var 2)) (.tup (.cons (.bin .sub (.ix (.var 5) (.var 2)) (.cst (.int 1))) .nil))) (.sl (.var 5) (.bin .add (.var 2) (.cst (.int 1))) .no)))
      (.cons (.app 7 (.ix (.var 6) (.ix (.ix (.var 1) (.cst (.int 1))) (.call 24 (.cons (.ix (.var 1) (.cst (.int 0))) (.cons (.var 8) .nil))))))
      .nil)))
      .nil)
def l_grown_1 : S := (.for_ (.nm 5) (.seq (.call 22 (.cons (.var 4) .nil))) b_grown_1)
def d_grown : FD := ⟨"grown", 4, ["machine", "told", "hand", "deed", "counts", "vector", "step", "found", "less", "place", "many"],
    (.cons (.asg 4 (.b1 .tuple c_grown_1))
      (.cons (.par2o 6 7 (.ix (.ix (.var 0) (.cst (.int 1))) (.var 3)) (.lst .nil))
      (.cons l_grown_1
      (.cons (.ret (.tup (.cons (.var 4) (.cons (.b1 .tuple (.bv 7)) .nil))))
      .nil))))⟩
def b_table_of_1 : Ss := (.cons (.asg 4 (.call 26 (.cons (.var 3) (.cons (.var 4) (.cons (.var 5) (.cons (.var 6) .nil))))))
      .nil)
def l_table_of_1 : S := (.for_ (.tp [(.nm 5), (.nm 6)]) (.seq (.call 17 (.cons (.var 3) (.cons (.var 1) (.cons (.var 2) .nil))))) b_table_of_1)
def d_table_of : FD := ⟨"table_of", 3, ["machine", "hands", "history", "rules", "found", "hand", "deed"],
    (.cons (.asg 3 (.call 12 (.cons (.var 0) .nil)))
      (.cons (.asg 4 (.call 25 (.cons (.var 3) (.cons (.var 1) .nil))))
      (.cons l_table_of_1
      (.cons (.ret (.var 4))
      .nil))))⟩
def e_lot_ahead_1 : E := (.cmp .eq (.ix (.var 8) (.var 10)) (.ix (.var 6) (.var 10)))
def c_lot_ahead_1 : E := (.comp e_lot_ahead_1 (.nm 10) (.seq (.var 4)) .no [("hand", 10)])
theorem bA_c_lot_ahead_1 {f : Eng.Env → Mem → R U} {σ : Eng.Env} {m : Mem} : bA c_lot_ahead_1 f σ m = f σ m := rfl
def b_lot_ahead_1 : Ss := (.cons (.ife (.and (.cmp .notin (.var 9) (.bv 5)) (.b1 .all c_lot_ahead_1)) (.cons (.app 5 (.var 9))
      .nil) .nil)
      .nil)
def l_lot_ahead_1 : S := (.for_ (.tp [(.nm 8), (.nm 9)]) (.zip2 (.call 22 (.cons (.var 6) .nil)) (.var 7)) b_lot_ahead_1)
def d_lot_ahead : FD := ⟨"lot_ahead", 5, ["rules", "hands", "told", "at", "whole", "found", "counts", "boards", "vector", "board", "hand"],
    (.cons (.asgT [(.nm 6), (.nm 7)] (.call 27 (.cons (.var 0) (.cons (.var 1) (.cons (.sl (.var 2) .no (.var 3)) .nil)))))
      (.cons (.own 5 (.lst .nil))
      (.cons l_lot_ahead_1
      (.cons (.ret (.b1 .tuple (.b1 .sorted (.bv 5))))
      .nil))))⟩
def d_is_step : FD := ⟨"is_step", 3, ["rules", "told", "value"],
    (.cons (.ife (.or (.not (.call 4 (.cons (.var 2) .nil))) (.or (.cmp .eq (.b1 .len (.var 2)) (.cst (.int 0))) (.not (.call 5 (.cons (.ix (.var 2) (.cst (.int 0))) .nil))))) (.cons (.ret (.cst (.bool false)))
      .nil) .nil)
      (.cons (.ife (.cmp .eq (.ix (.var 2) (.cst (.int 0))) (.glb "EXCHANGE" (.str "exchange"))) (.cons (.ret (.and (.cmp .eq (.b1 .len (.var 2)) (.cst (.int 2))) (.and (.call 2 (.cons (.ix (.var 2) (.cst (.int 1))) (.cons (.bin .sub (.b1 .len (.var 1)) (.cst (.int 1))) .nil))) (.cmp .ne (.ix (.ix (.var 1) (.ix (.var 2) (.cst (.int 1)))) (.cst (.int 0))) (.ix (.ix (.var 1) (.bin .add (.ix (.var 2) (.cst (.int 1))) (.cst (.int 1)))) (.cst (.int 0)))))))
      .nil) .nil)
      (.cons (.ife (.or (.cmp .ne (.ix (.var 2) (.cst (.int 0))) (.glb "PUT" (.str "put"))) (.or (.cmp .ne (.b1 .len (.var 2)) (.cst (.int 3))) (.not (.call 2 (.cons (.ix (.var 2) (.cst (.int 1))) (.cons (.b1 .len (.var 1)) .nil)))))) (.cons (.ret (.cst (.bool false)))
      .nil) .nil)
      (.cons (.ret (.and (.call 2 (.cons (.ix (.var 2) (.cst (.int 2))) (.cons (.b1 .len (.ix (.var 0) (.cst (.int 1)))) .nil))) (.cmp .ne (.ix (.var 2) (.cst (.int 2))) (.ix (.ix (.var 1) (.ix (.var 2) (.cst (.int 1)))) (.cst (.int 1))))))
      .nil))))⟩
def e_commute_on_1 : E := (.cmp .eq (.ix (.var 4) (.ix (.var 5) (.var 6))) (.ix (.var 5) (.ix (.var 4) (.var 6))))
def c_commute_on_1 : E := (.comp e_commute_on_1 (.nm 6) (.seq (.var 1)) .no [("board", 6)])
theorem bA_c_commute_on_1 {f : Eng.Env → Mem → R U} {σ : Eng.Env} {m : Mem} : bA c_commute_on_1 f σ m = f σ m := rfl
def d_commute_on : FD := ⟨"commute_on", 4, ["rules", "lot", "deed", "other", "first", "second", "board"],
    (.cons (.asgT [(.nm 4), (.nm 5)] (.tup (.cons (.ix (.ix (.var 0) (.cst (.int 1))) (.var 2)) (.cons (.ix (.ix (.var 0) (.cst (.int 1))) (.var 3)) .nil))))
      (.cons (.ret (.b1 .all c_commute_on_1))
      .nil))⟩
def d_is_unseen : FD := ⟨"is_unseen", 4, ["rules", "hands", "told", "step", "at", "hand", "deed", "later", "other"],
    (.cons (.asg 4 (.ix (.var 3) (.cst (.int 1))))
      (.cons (.asgT [(.nm 5), (.nm 6)] (.ix (.var 2) (.var 4)))
      (.cons (.ife (.cmp .eq (.ix (.var 3) (.cst (.int 0))) (.glb "PUT" (.str "put"))) (.cons (.ret (.cmp .in_ (.ix (.var 3) (.cst (.int 2))) (.call 19 (.cons (.var 0) (.cons (.call 28 (.cons (.var 0) (.cons (.var 1) (.cons (.var 2) (.cons (.var 4) (.cons (.tup (.cons (.var 5) .nil)) .nil)))))) (.cons (.var 6) .nil))))))
      .nil) .nil)
      (.cons (.asgT [(.nm 7), (.nm 8)] (.ix (.var 2) (.bin .add (.var 4) (.cst (.int 1)))))
      (.cons (.ret (.call 30 (.cons (.var 0) (.cons (.call 28 (.cons (.var 0) (.cons (.var 1) (.cons (.var 2) (.cons (.var 4) (.cons (.tup (.cons (.var 5) (.cons (.var 7) .nil))) .nil)))))) (.cons (.var 6) (.cons (.var 8) .nil))))))
      .nil)))))⟩
def d_behind_step : FD := ⟨"behind_step", 2, ["told", "step", "found", "at"],
    (.cons (.par1o 2 3 (.b1 .list (.var 0)) (.ix (.var 1) (.cst (.int 1))))
      (.cons (.ife (.cmp .eq (.ix (.var 1) (.cst (.int 0))) (.glb "PUT" (.str "put"))) (.cons (.setO 2 (.var 3) (.tup (.cons (.ix (.ix (.var 0) (.var 3)) (.cst (.int 0))) (.cons (.ix (.var 1) (.cst (.int 2))) .nil))))
      .nil) (.cons (.setO2 2 (.var 3) (.bin .add (.var 3) (.cst (.int 1))) (.tup (.cons (.ix (.var 0) (.bin .add (.var 3) (.cst (.int 1)))) (.cons (.ix (.var 0) (.var 3)) .nil))))
      .nil))
      (.cons (.ret (.b1 .tuple (.bv 2)))
      .nil)))⟩
def e_unseen_steps_1 : E := (.tup (.cons (.glb "EXCHANGE" (.str "exchange")) (.cons (.var 6) .nil)))
def c_unseen_steps_1 : E := (.comp e_unseen_steps_1 (.nm 6) (.rng1 (.bin .sub (.b1 .len (.var 4)) (.cst (.int 1)))) .no [("at", 6)])
def e_unseen_steps_2 : E := (.tup (.cons (.glb "PUT" (.str "put")) (.cons (.var 6) (.cons (.var 7) .nil))))
def c_unseen_steps_2 : E := (.comp2 e_unseen_steps_2 (.nm 6) (.rng1 (.b1 .len (.var 4))) (.nm 7) (.rng1 (.b1 .len (.ix (.var 3) (.cst (.int 1))))) .no [("at", 6), ("deed", 7)])
def e_unseen_steps_3 : E := (.var 8)
def t_unseen_steps_1 : E := (.and (.call 29 (.cons (.var 3) (.cons (.var 4) (.cons (.var 8) .nil)))) (.call 31 (.cons (.var 3) (.cons (.var 1) (.cons (.var 4) (.cons (.var 8) .nil))))))
def c_unseen_steps_3 : E := (.comp e_unseen_steps_3 (.nm 8) (.seq (.var 5)) t_unseen_steps_1 [("step", 8)])
theorem bA_c_unseen_steps_3 {f : Eng.Env → Mem → R U} {σ : Eng.Env} {m : Mem} : bA c_unseen_steps_3 f σ m = f σ m := rfl
def d_unseen_steps : FD := ⟨"unseen_steps", 3, ["machine", "hands", "history", "rules", "told", "some", "at", "deed", "step"],
    (.cons (.asg 3 (.call 12 (.cons (.var 0) .nil)))
      (.cons (.asg 4 (.call 17 (.cons (.var 3) (.cons (.var 1) (.cons (.var 2) .nil)))))
      (.cons (.own 5 c_unseen_steps_1)
      (.cons (.ext 5 c_unseen_steps_2)
      (.cons (.frz 5)
      (.cons (.ret (.b1 .tuple c_unseen_steps_3))
      .nil))))))⟩
def d_stepped : FD := ⟨"stepped", 4, ["machine", "hands", "history", "step", "rules", "told"],
    (.cons (.asg 4 (.call 12 (.cons (.var 0) .nil)))
      (.cons (.asg 5 (.call 17 (.cons (.var 4) (.cons (.var 1) (.cons (.var 2) .nil)))))
      (.cons (.ife (.or (.not (.call 29 (.cons (.var 4) (.cons (.var 5) (.cons (.var 3) .nil))))) (.not (.call 31 (.cons (.var 4) (.cons (.var 1) (.cons (.var 5) (.cons (.var 3) .nil))))))) (.cons (.raise 0 (.var 3))
      .nil) .nil)
      (.cons (.ret (.call 32 (.cons (.var 5) (.cons (.var 3) .nil))))
      .nil))))⟩
def d__law_box : FD := ⟨"_law_box", 2, ["_law_script", "_law_k", "_law_cell", "_law_great"],
    (.cons (.asg 2 (.bin .add (.bin .mul (.cst (.int 10267)) (.var 1)) (.cst (.int 5323))))
      (.cons (.ife (.cmp .lt (.var 1) (.b1 .len (.var 0))) (.cons (.asg 2 (.b1 .abs (.b1 .int (.ix (.var 0) (.var 1)))))
      .nil) (.cons (.ife (.cmp .gt (.b1 .len (.var 0)) (.cst (.int 0))) (.cons (.asg 2 (.bin .add (.var 2) (.bin .mul (.bin .mod (.b1 .int (.b1 .abs (.b1 .int (.ix (.var 0) (.bin .mod (.b1 .int (.var 1)) (.b1 .len (.var 0))))))) (.cst (.int 2147483563))) (.cst (.int 54001)))))
      .nil) .nil)
      .nil))
      (.cons (.asg 3 (.ite (.cmp .ge (.var 2) (.bin .pow (.cst (.int 10)) (.cst (.int 18)))) (.var 2) (.cst (.int 0))))
      (.cons (.ret (.newl (.cons (.var 3) (.cons (.bin .add (.bin .mod (.b1 .int (.bin .add (.bin .mul (.bin .mod (.b1 .int (.var 2)) (.cst (.int 2147483563))) (.cst (.int 40014))) (.bin .mul (.cst (.int 5323)) (.var 1)))) (.cst (.int 2147483563))) (.cst (.int 1))) .nil))))
      .nil))))⟩
def d__law_take : FD := ⟨"_law_take", 2, ["_law_box_here", "_law_many", "_law_raw", "_law_digit"],
    (.cons (.ife (.cmp .gt (.ix (.var 0) (.cst (.int 0))) (.cst (.int 0))) (.cons (.asg 3 (.bin .mod (.b1 .int (.ix (.var 0) (.cst (.int 0)))) (.var 1)))
      (.cons (.setM (.var 0) (.cst (.int 0)) (.bin .fdiv (.ix (.var 0) (.cst (.int 0))) (.var 1)))
      (.cons (.ret (.var 3))
      .nil))) .nil)
      (.cons (.asg 2 (.bin .mod (.b1 .int (.bin .add (.bin .mul (.ix (.var 0) (.cst (.int 1))) (.cst (.int 39373))) (.cst (.int 61)))) (.cst (.int 2147483647))))
      (.cons (.setM (.var 0) (.cst (.int 1)) (.bin .add (.bin .mod (.b1 .int (.bin .add (.bin .mul (.var 2) (.cst (.int 40692))) (.cst (.int 74)))) (.cst (.int 2147483399))) (.cst (.int 1))))
      (.cons (.ret (.bin .mod (.b1 .int (.bin .fdiv (.bin .add (.bin .mul (.var 2) (.cst (.int 2147483629))) (.ix (.var 0) (.cst (.int 1)))) (.cst (.int 8209)))) (.var 1)))
      .nil))))⟩
def d__law_pick : FD := ⟨"_law_pick", 2, ["_law_box_here", "_law_some"],
    (.cons (.ret (.ix (.var 1) (.call 36 (.cons (.var 0) (.cons (.b1 .len (.var 1)) .nil)))))
      .nil)⟩
def e__law_machine_1 : E := (.ite (.cmp .lt (.call 36 (.cons (.var 0) (.cons (.cst (.int 4)) .nil))) (.var 6)) (.var 8) (.call 36 (.cons (.var 0) (.cons (.var 3) .nil))))
def c__law_machine_1 : E := (.comp e__law_machine_1 (.nm 8) (.rng1 (.var 3)) .no [("_law_board_here", 8)])
def b__law_machine_1 : Ss := (.cons (.own 7 c__law_machine_1)
      (.cons (.ife (.and (.cmp .gt (.b1 .len (.bv 5)) (.cst (.int 0))) (.cmp .eq (.call 36 (.cons (.var 0) (.cons (.cst (.int 2)) .nil))) (.cst (.int 0)))) (.cons (.own 7 (.b1 .list (.ix (.bv 5) (.call 36 (.cons (.var 0) (.cons (.b1 .len (.bv 5)) .nil))))))
      (.cons (.setO 7 (.call 36 (.cons (.var 0) (.cons (.var 3) .nil))) (.call 36 (.cons (.var 0) (.cons (.var 3) .nil))))
      .nil)) .nil)
      (.cons (.app 5 (.b1 .tuple (.bv 7)))
      .nil)))
def l__law_machine_1 : S := (.for_ (.nm 4) (.rng1 (.call 37 (.cons (.var 0) (.cons (.lst (.cons (.bin .add (.cst (.int 1)) (.call 36 (.cons (.var 0) (.cons (.var 2) .nil)))) (.cons (.var 2) .nil))) .nil)))) b__law_machine_1)
def d__law_machine : FD := ⟨"_law_machine", 3, ["_law_box_here", "_law_boards", "_law_deeds", "_law_many", "_law_deed", "_law_maps", "_law_still", "_law_row", "_law_board_here"],
    (.cons (.asg 3 (.bin .add (.cst (.int 1)) (.call 37 (.cons (.var 0) (.cons (.lst (.cons (.call 36 (.cons (.var 0) (.cons (.var 1) .nil))) (.cons (.bin .sub (.var 1) (.cst (.int 1))) .nil))) .nil)))))
      (.cons (.asgTo 5 6 (.lst .nil) (.call 36 (.cons (.var 0) (.cons (.cst (.int 3)) .nil))))
      (.cons l__law_machine_1
      (.cons (.ret (.tup (.cons (.call 36 (.cons (.var 0) (.cons (.var 3) .nil))) (.cons (.b1 .tuple (.bv 5)) .nil))))
      .nil))))⟩
def b__law_history_1 : Ss := (.cons (.app 4 (.tup (.cons (.call 36 (.cons (.var 0) (.cons (.var 2) .nil))) (.cons (.call 36 (.cons (.var 0) (.cons (.b1 .len (.ix (.var 1) (.cst (.int 1)))) .nil))) .nil))))
      .nil)
def l__law_history_1 : S := (.for_ (.nm 5) (.rng1 (.var 3)) b__law_history_1)
def d__law_history : FD := ⟨"_law_history", 4, ["_law_box_here", "_law_machine_here", "_law_hands", "_law_many", "_law_found", "_law_turn"],
    (.cons (.own 4 (.lst .nil))
      (.cons l__law_history_1
      (.cons (.ret (.b1 .tuple (.bv 4)))
      .nil)))⟩
def e__law_counts_1 : E := (.cst (.int 1))
def t__law_counts_1 : E := (.cmp .eq (.ix (.var 3) (.cst (.int 0))) (.var 2))
def c__law_counts_1 : E := (.comp e__law_counts_1 (.nm 3) (.seq (.var 1)) t__law_counts_1 [("_law_letter", 3)])
theorem bA_c__law_counts_1 {f : Eng.Env → Mem → R U} {σ : Eng.Env} {m : Mem} : bA c__law_counts_1 f σ m = f σ m := rfl
def e__law_counts_2 : E := (.b1 .len c__law_counts_1)
def c__law_counts_2 : E := (.comp e__law_counts_2 (.nm 2) (.rng1 (.var 0)) .no [("_law_hand", 2)])
theorem bA_c__law_counts_2 {f : Eng.Env → Mem → R U} {σ : Eng.Env} {m : Mem} : bA c__law_counts_2 f σ m = f σ m := rfl
def d__law_counts : FD := ⟨"_law_counts", 2, ["_law_hands", "_law_history_here", "_law_hand", "_law_letter"],
    (.cons (.ret (.b1 .tuple c__law_counts_2))
      .nil)⟩
def e__law_vectors_1 : E := (.bin .add (.var 4) (.tup (.cons (.var 5) .nil)))
def c__law_vectors_1 : E := (.comp e__law_vectors_1 (.nm 5) (.rng1 (.bin .add (.var 2) (.cst (.int 1)))) .no [("_law_here", 5)])
theorem bA_c__law_vectors_1 {f : Eng.Env → Mem → R U} {σ : Eng.Env} {m : Mem} : bA c__law_vectors_1 f σ m = f σ m := rfl
def b__law_vectors_1 : Ss := (.cons (.asg 3 (.bin .add (.var 3) c__law_vectors_1))
      .nil)
def l__law_vectors_1 : S := (.for_ (.nm 4) (.seq (.var 1)) b__law_vectors_1)
def b__law_vectors_2 : Ss := (.cons (.asg 3 (.lst .nil))
      (.cons l__law_vectors_1
      (.cons (.asg 1 (.var 3))
      .nil)))
def l__law_vectors_2 : S := (.for_ (.nm 2) (.seq (.var 0)) b__law_vectors_2)
def d__law_vectors : FD := ⟨"_law_vectors", 1, ["_law_counts_here", "_law_found", "_law_many", "_law_later", "_law_vector", "_law_here"],
    (.cons (.asg 1 (.lst (.cons (.tup .nil) .nil)))
      (.cons l__law_vectors_2
      (.cons (.ret (.var 1))
      .nil)))⟩
def b__law_board_1 : Ss := (.cons (.ife (.cmp .gt (.ix (.bv 4) (.var 5)) (.cst (.int 0))) (.cons (.setO 4 (.var 5) (.bin .sub (.ix (.bv 4) (.var 5)) (.cst (.int 1))))
      (.cons (.asg 3 (.ix (.ix (.ix (.var 0) (.cst (.int 1))) (.var 6)) (.var 3)))
      .nil)) .nil)
      .nil)
def l__law_board_1 : S := (.for_ (.tp [(.nm 5), (.nm 6)]) (.seq (.var 1)) b__law_board_1)
def d__law_board : FD := ⟨"_law_board", 3, ["_law_machine_here", "_law_history_here", "_law_vector", "_law_board_here", "_law_left", "_law_hand", "_law_deed"],
    (.cons (.par2o 3 4 (.ix (.var 0) (.cst (.int 0))) (.b1 .list (.var 2)))
      (.cons l__law_board_1
      (.cons (.ret (.var 3))
      .nil)))⟩
def e__law_table_1 : E := (.call 42 (.cons (.var 0) (.cons (.var 2) (.cons (.var 3) .nil))))
def c__law_table_1 : E := (.comp e__law_table_1 (.nm 3) (.seq (.call 41 (.cons (.call 40 (.cons (.var 1) (.cons (.var 2) .nil))) .nil))) .no [("_law_vector", 3)])
theorem bA_c__law_table_1 {f : Eng.Env → Mem → R U} {σ : Eng.Env} {m : Mem} : bA c__law_table_1 f σ m = f σ m := rfl
def d__law_table : FD := ⟨"_law_table", 3, ["_law_machine_here", "_law_hands", "_law_history_here", "_law_vector"],
    (.cons (.ret c__law_table_1)
      .nil)⟩
def e__law_candidates_1 : E := (.tup (.cons (.cst (.str "exchange")) (.cons (.var 3) .nil)))
def t__law_candidates_1 : E := (.cmp .ne (.ix (.ix (.var 1) (.var 3)) (.cst (.int 0))) (.ix (.ix (.var 1) (.bin .add (.var 3) (.cst (.int 1)))) (.cst (.int 0))))
def c__law_candidates_1 : E := (.comp e__law_candidates_1 (.nm 3) (.rng1 (.bin .sub (.b1 .len (.var 1)) (.cst (.int 1)))) t__law_candidates_1 [("_law_at", 3)])
def e__law_candidates_2 : E := (.tup (.cons (.cst (.str "put")) (.cons (.var 3) (.cons (.var 4) .nil))))
def t__law_candidates_2 : E := (.cmp .ne (.var 4) (.ix (.ix (.var 1) (.var 3)) (.cst (.int 1))))
def c__law_candidates_2 : E := (.comp e__law_candidates_2 (.nm 4) (.rng1 (.b1 .len (.ix (.var 0) (.cst (.int 1))))) t__law_candidates_2 [("_law_deed", 4)])
theorem bA_c__law_candidates_2 {f : Eng.Env → Mem → R U} {σ : Eng.Env} {m : Mem} : bA c__law_candidates_2 f σ m = f σ m := rfl
def b__law_candidates_1 : Ss := (.cons (.asg 2 (.bin .add (.var 2) c__law_candidates_2))
      .nil)
def l__law_candidates_1 : S := (.for_ (.nm 3) (.rng1 (.b1 .len (.var 1))) b__law_candidates_1)
def d__law_candidates : FD := ⟨"_law_candidates", 2, ["_law_machine_here", "_law_history_here", "_law_found", "_law_at", "_law_deed"],
    (.cons (.own 2 c__law_candidates_1)
      (.cons (.frz 2)
      (.cons l__law_candidates_1
      (.cons (.ret (.var 2))
      .nil))))⟩
def d__law_behind : FD := ⟨"_law_behind", 2, ["_law_history_here", "_law_step", "_law_at", "_law_found"],
    (.cons (.par2o 2 3 (.ix (.var 1) (.cst (.int 1))) (.b1 .list (.var 0)))
      (.cons (.ife (.cmp .eq (.ix (.var 1) (.cst (.int 0))) (.cst (.str "put"))) (.cons (.setO 3 (.var 2) (.tup (.cons (.ix (.ix (.var 0) (.var 2)) (.cst (.int 0))) (.cons (.ix (.var 1) (.cst (.int 2))) .nil))))
      .nil) (.cons (.setO 3 (.var 2) (.ix (.var 0) (.bin .add (.var 2) (.cst (.int 1)))))
      (.cons (.setO 3 (.bin .add (.var 2) (.cst (.int 1))) (.ix (.var 0) (.var 2)))
      .nil)))
      (.cons (.ret (.b1 .tuple (.bv 3)))
      .nil)))⟩
def e__law_unseen_1 : E := (.var 4)
def t__law_unseen_1 : E := (.cmp .eq (.call 43 (.cons (.var 0) (.cons (.var 1) (.cons (.call 45 (.cons (.var 2) (.cons (.var 4) .nil))) .nil)))) (.var 3))
def c__law_unseen_1 : E := (.comp e__law_unseen_1 (.nm 4) (.seq (.call 44 (.cons (.var 0) (.cons (.var 2) .nil)))) t__law_unseen_1 [("_law_step", 4)])
theorem bA_c__law_unseen_1 {f : Eng.Env → Mem → R U} {σ : Eng.Env} {m : Mem} : bA c__law_unseen_1 f σ m = f σ m := rfl
def d__law_unseen : FD := ⟨"_law_unseen", 3, ["_law_machine_here", "_law_hands", "_law_history_here", "_law_due", "_law_step"],
    (.cons (.asg 3 (.call 43 (.cons (.var 0) (.cons (.var 1) (.cons (.var 2) .nil)))))
      (.cons (.ret c__law_unseen_1)
      .nil))⟩
def e__law_lists_1 : E := (.call 47 (.cons (.var 1) .nil))
def c__law_lists_1 : E := (.comp e__law_lists_1 (.nm 1) (.seq (.var 0)) .no [("_law_part", 1)])
def d__law_lists : FD := ⟨"_law_lists", 1, ["_law_value", "_law_part"],
    (.cons (.ret (.ite (.isi (.var 0) .tuple) c__law_lists_1 (.var 0)))
      .nil)⟩
def e__law_ahead_1 : E := (.var 7)
def e__law_ahead_2 : E := (.cst (.int 1))
def t__law_ahead_1 : E := (.cmp .lt (.ix (.var 7) (.var 8)) (.ix (.var 5) (.var 8)))
def c__law_ahead_1 : E := (.comp e__law_ahead_2 (.nm 8) (.seq (.var 4)) t__law_ahead_1 [("_law_hand", 8)])
theorem bA_c__law_ahead_1 {f : Eng.Env → Mem → R U} {σ : Eng.Env} {m : Mem} : bA c__law_ahead_1 f σ m = f σ m := rfl
def t__law_ahead_2 : E := (.cmp .eq c__law_ahead_1 (.lst .nil))
def c__law_ahead_2 : E := (.comp e__law_ahead_1 (.nm 7) (.seq (.call 41 (.cons (.var 5) .nil))) t__law_ahead_2 [("_law_vector", 7)])
def e__law_ahead_3 : E := (.call 42 (.cons (.var 0) (.cons (.sl (.var 2) .no (.var 3)) (.cons (.var 7) .nil))))
def c__law_ahead_3 : E := (.comp e__law_ahead_3 (.nm 7) (.seq (.var 6)) .no [("_law_vector", 7)])
def d__law_ahead : FD := ⟨"_law_ahead", 5, ["_law_machine_here", "_law_hands", "_law_history_here", "_law_at", "_law_whole", "_law_counts_here", "_law_some", "_law_vector", "_law_hand"],
    (.cons (.asg 5 (.call 40 (.cons (.var 1) (.cons (.sl (.var 2) .no (.var 3)) .nil))))
      (.cons (.own 6 c__law_ahead_2)
      (.cons (.frz 6)
      (.cons (.ret (.sset c__law_ahead_3))
      .nil))))⟩
def e__law_fits_1 : E := (.cst (.int 1))
def t__law_fits_1 : E := (.cmp .ne (.ix (.ix (.var 6) (.var 8)) (.var 11)) (.ix (.ix (.var 6) (.ix (.var 3) (.cst (.int 2)))) (.var 11)))
def c__law_fits_1 : E := (.comp e__law_fits_1 (.nm 11) (.seq (.call 48 (.cons (.var 0) (.cons (.var 1) (.cons (.var 2) (.cons (.var 5) (.cons (.lst (.cons (.var 7) .nil)) .nil))))))) t__law_fits_1 [("_law_board_here", 11)])
theorem bA_c__law_fits_1 {f : Eng.Env → Mem → R U} {σ : Eng.Env} {m : Mem} : bA c__law_fits_1 f σ m = f σ m := rfl
def e__law_fits_2 : E := (.cst (.int 1))
def t__law_fits_2 : E := (.cmp .ne (.ix (.ix (.var 6) (.var 8)) (.ix (.ix (.var 6) (.var 10)) (.var 11))) (.ix (.ix (.var 6) (.var 10)) (.ix (.ix (.var 6) (.var 8)) (.var 11))))
def c__law_fits_2 : E := (.comp e__law_fits_2 (.nm 11) (.seq (.var 4)) t__law_fits_2 [("_law_board_here", 11)])
theorem bA_c__law_fits_2 {f : Eng.Env → Mem → R U} {σ : Eng.Env} {m : Mem} : bA c__law_fits_2 f σ m = f σ m := rfl
def d__law_fits : FD := ⟨"_law_fits", 4, ["_law_machine_here", "_law_hands", "_law_history_here", "_law_step", "_law_some", "_law_at", "_law_deeds", "_law_hand", "_law_deed", "_law_later", "_law_other", "_law_board_here"],
    (.cons (.asgT [(.nm 5), (.nm 6)] (.tup (.cons (.ix (.var 3) (.cst (.int 1))) (.cons (.ix (.var 0) (.cst (.int 1))) .nil))))
      (.cons (.asgT [(.nm 7), (.nm 8)] (.ix (.var 2) (.var 5)))
      (.cons (.ife (.cmp .eq (.ix (.var 3) (.cst (.int 0))) (.cst (.str "put"))) (.cons (.ret (.cmp .eq c__law_fits_1 (.lst .nil)))
      .nil) .nil)
      (.cons (.asgT [(.nm 9), (.nm 10)] (.ix (.var 2) (.bin .add (.var 5) (.cst (.int 1)))))
      (.cons (.asg 4 (.call 48 (.cons (.var 0) (.cons (.var 1) (.cons (.var 2) (.cons (.var 5) (.cons (.lst (.cons (.var 7) (.cons (.var 9) .nil))) .nil)))))))
      (.cons (.ret (.cmp .eq c__law_fits_2 (.lst .nil)))
      .nil))))))⟩
def d__law_refused : FD := ⟨"_law_refused", 4, ["_law_machine_here", "_law_hands", "_law_history_here", "_law_step", "fault"],
    (.cons (.tryX .ex (.call 34 (.cons (.var 0) (.cons (.var 1) (.cons (.var 2) (.cons (.var 3) .nil))))) 4 0 [.ret (.and (.cmp .eq (.rep .fld) (.rep (.var 3))) (.and (.isx "OwnError" true) (.nt (.isx "TooGreat" false))))])
      (.cons (.ret (.cst (.bool false)))
      .nil))⟩
def e_law_1 : E := (.var 11)
def t_law_1 : E := (.cmp .ne (.call 49 (.cons (.var 9) (.cons (.var 10) (.cons (.var 4) (.cons (.var 11) .nil))))) (.cmp .in_ (.var 11) (.var 5)))
def c_law_1 : E := (.comp e_law_1 (.nm 11) (.seq (.var 7)) t_law_1 [("_law_step", 11)])
theorem bA_c_law_1 {f : Eng.Env → Mem → R U} {σ : Eng.Env} {m : Mem} : bA c_law_1 f σ m = f σ m := rfl
def b_law_1 : Ss := (.cons (.asg 11 (.call 37 (.cons (.var 2) (.cons (.var 7) .nil))))
      (.cons (.ife (.cmp .notin (.var 11) (.var 5)) (.cons (.ife (.not (.call 50 (.cons (.var 9) (.cons (.var 10) (.cons (.var 4) (.cons (.var 11) .nil)))))) (.cons (.ret (.cst (.bool false)))
      .nil) .nil)
      .nil) (.cons (.ife (.cmp .ne (.b1 .repr (.call 34 (.cons (.var 9) (.cons (.var 10) (.cons (.var 4) (.cons (.call 37 (.cons (.var 2) (.cons (.lst (.cons (.var 11) (.cons (.b1 .list (.var 11)) .nil))) .nil))) .nil)))))) (.b1 .repr (.call 45 (.cons (.var 4) (.cons (.var 11) .nil))))) (.cons (.ret (.cst (.bool false)))
      .nil) .nil)
      .nil))
      .nil))
def l_law_1 : S := (.for_ (.nm 8) (.rng1 (.b2 .min (.b1 .len (.var 7)) (.cst (.int 5)))) b_law_1)
def b_law_2 : Ss := (.cons (.asg 2 (.call 35 (.cons (.var 0) (.cons (.var 1) .nil))))
      (.cons (.asgT [(.nm 9), (.nm 10)] (.tup (.cons (.call 38 (.cons (.var 2) (.cons (.cst (.int 4)) (.cons (.cst (.int 3)) .nil)))) (.cons (.bin .add (.cst (.int 1)) (.call 36 (.cons (.var 2) (.cons (.cst (.int 4)) .nil)))) .nil))))
      (.cons (.asg 3 (.call 36 (.cons (.var 2) (.cons (.cst (.int 7)) .nil))))
      (.cons (.ife (.cmp .eq (.call 36 (.cons (.var 2) (.cons (.cst (.int 6)) .nil))) (.cst (.int 0))) (.cons (.asgT [(.nm 10), (.nm 3)] (.tup (.cons (.cst (.int 2)) (.cons (.bin .add (.cst (.int 7)) (.call 36 (.cons (.var 2) (.cons (.cst (.int 4)) .nil)))) .nil))))
      .nil) .nil)
      (.cons (.asg 4 (.call 39 (.cons (.var 2) (.cons (.var 9) (.cons (.var 10) (.cons (.var 3) .nil))))))
      (.cons (.asg 5 (.call 46 (.cons (.var 9) (.cons (.var 10) (.cons (.var 4) .nil)))))
      (.cons (.asg 6 (.call 33 (.cons (.call 47 (.cons (.var 9) .nil)) (.cons (.var 10) (.cons (.call 47 (.cons (.var 4) .nil)) .nil)))))
      (.cons (.ife (.or (.cmp .ne (.b1 .repr (.var 6)) (.b1 .repr (.b1 .tuple (.var 5)))) (.cmp .ne (.b1 .repr (.callk 33 .nil (.cons (.var 4) (.cons (.var 10) (.cons (.var 9) .nil))) [2, 1, 0])) (.b1 .repr (.var 6)))) (.cons (.ret (.cst (.bool false)))
      .nil) .nil)
      (.cons (.asg 7 (.call 44 (.cons (.var 9) (.cons (.var 4) .nil))))
      (.cons (.ife (.cmp .ne c_law_1 (.lst .nil)) (.cons (.ret (.cst (.bool false)))
      .nil) .nil)
      (.cons l_law_1
      .nil)))))))))))
def l_law_2 : S := (.for_ (.nm 1) (.rng1 (.b2 .max (.cst (.int 4)) (.b2 .min (.b1 .len (.var 0)) (.cst (.int 9))))) b_law_2)
def d_law : FD := ⟨"law", 1, ["_law_script", "_law_k", "_law_box_here", "_law_many", "_law_history_here", "_law_due", "_law_told", "_law_some", "_law_turn", "_law_machine_here", "_law_hands", "_law_step"],
    (.cons l_law_2
      (.cons (.ret (.cst (.bool true)))
      .nil))⟩
def topS (i : Nat) : Stmt := PySem.Challenge.pw_ownback_k23_whole_steps_that_nobody_sees.main.body.getD i (.Pass ⟨0, 0, 0, 0⟩)
abbrev s_is_integer : Stmt := topS 11
abbrev s_is_number : Stmt := topS 12
abbrev s_is_below : Stmt := topS 13
abbrev s_is_positive : Stmt := topS 14
abbrev s_is_sequence : Stmt := topS 15
abbrev s_is_string : Stmt := topS 16
abbrev s_is_ascending : Stmt := topS 17
abbrev s_is_lot : Stmt := topS 18
abbrev s_are_below : Stmt := topS 19
abbrev s_is_hands : Stmt := topS 20
abbrev s_is_map : Stmt := topS 22
abbrev s_are_deeds : Stmt := topS 23
abbrev s_check_machine : Stmt := topS 24
abbrev s_need_deed : Stmt := topS 25
abbrev s_need_hands : Stmt := topS 27
abbrev s_is_letter : Stmt := topS 28
abbrev s_check_row : Stmt := topS 29
abbrev s_check_history : Stmt := topS 30
abbrev s_check_lot : Stmt := topS 32
abbrev s_like_on : Stmt := topS 33
abbrev s_are_counts : Stmt := topS 35
abbrev s_need_counts : Stmt := topS 36
abbrev s_vectors : Stmt := topS 37
abbrev s_is_vector : Stmt := topS 38
abbrev s_place_of : Stmt := topS 39
abbrev s_first_table : Stmt := topS 40
abbrev s_grown : Stmt := topS 41
abbrev s_table_of : Stmt := topS 42
abbrev s_lot_ahead : Stmt := topS 46
abbrev s_is_step : Stmt := topS 47
abbrev s_commute_on : Stmt := topS 48
abbrev s_is_unseen : Stmt := topS 49
abbrev s_behind_step : Stmt := topS 50
abbrev s_unseen_steps : Stmt := topS 51
abbrev s_stepped : Stmt := topS 52
abbrev s__law_box : Stmt := topS 54
abbrev s__law_take : Stmt := topS 55
abbrev s__law_pick : Stmt := topS 56
abbrev s__law_machine : Stmt := topS 57
abbrev s__law_history : Stmt := topS 58
abbrev s__law_counts : Stmt := topS 59
abbrev s__law_vectors : Stmt := topS 60
abbrev s__law_board : Stmt := topS 61
abbrev s__law_table : Stmt := topS 62
abbrev s__law_candidates : Stmt := topS 63
abbrev s__law_behind : Stmt := topS 64
abbrev s__law_unseen : Stmt := topS 65
abbrev s__law_lists : Stmt := topS 66
abbrev s__law_ahead : Stmt := topS 67
abbrev s__law_fits : Stmt := topS 68
abbrev s__law_refused : Stmt := topS 69
abbrev s_law : Stmt := topS 70
def tb : Tb := [(0, d_is_integer, s_is_integer), (1, d_is_number, s_is_number), (2, d_is_below, s_is_below), (3, d_is_positive, s_is_positive), (4, d_is_sequence, s_is_sequence), (5, d_is_string, s_is_string), (6, d_is_ascending, s_is_ascending), (7, d_is_lot, s_is_lot), (8, d_are_below, s_are_below), (9, d_is_hands, s_is_hands), (10, d_is_map, s_is_map), (11, d_are_deeds, s_are_deeds), (12, d_check_machine, s_check_machine), (13, d_need_deed, s_need_deed), (14, d_need_hands, s_need_hands), (15, d_is_letter, s_is_letter), (16, d_check_row, s_check_row), (17, d_check_history, s_check_history), (18, d_check_lot, s_check_lot), (19, d_like_on, s_like_on), (20, d_are_counts, s_are_counts), (21, d_need_counts, s_need_counts), (22, d_vectors, s_vectors), (23, d_is_vector, s_is_vector), (24, d_place_of, s_place_of), (25, d_first_table, s_first_table), (26, d_grown, s_grown), (27, d_table_of, s_table_of), (28, d_lot_ahead, s_lot_ahead), (29, d_is_step, s_is_step), (30, d_commute_on, s_commute_on), (31, d_is_unseen, s_is_unseen), (32, d_behind_step, s_behind_step), (33, d_unseen_steps, s_unseen_steps), (34, d_stepped, s_stepped), (35, d__law_box, s__law_box), (36, d__law_take, s__law_take), (37, d__law_pick, s__law_pick), (38, d__law_machine, s__law_machine), (39, d__law_history, s__law_history), (40, d__law_counts, s__law_counts), (41, d__law_vectors, s__law_vectors), (42, d__law_board, s__law_board), (43, d__law_table, s__law_table), (44, d__law_candidates, s__law_candidates), (45, d__law_behind, s__law_behind), (46, d__law_unseen, s__law_unseen), (47, d__law_lists, s__law_lists), (48, d__law_ahead, s__law_ahead), (49, d__law_fits, s__law_fits), (50, d__law_refused, s__law_refused), (51, d_law, s_law)]
abbrev P : Prog := tb.prog
def gl : List (Str × PyData) := [("EXCHANGE", .str "exchange"), ("PUT", .str "put"), ("MOST_HANDS", .int 4), ("MOST_DEEDS", .int 6), ("MOST_BOARDS", .int 8)]
def gdt : List (Str × List (Str × Int) × List Str) := []
def kb : List (Nat × Nat × List Str × List Nat) := [(33, 0, ["history", "hands", "machine"], [2, 1, 0])]
def cl : List (Str × Str) := [("Refused", "value")]
def ci : List (Nat × Str × Bool) := [(0, "TooGreat", false), (0, "OwnError", true)]
def G : Cfg := ⟨tb.nm, gl, kb, gdt, cl, ci⟩
/-! ### the checks -/
set_option maxRecDepth 100000 in
theorem ok_is_integer : okSs G d_is_integer.N ⟨defScope s_is_integer, fun _ => true⟩ d_is_integer.body (defBody s_is_integer) = true := by decide +kernel
theorem sc_is_integer : FnScope d_is_integer.N (d_is_integer.N.take d_is_integer.np) (defScope s_is_integer) := ⟨rfl, rfl, rfl, by decide +kernel, rfl, by decide +kernel, by decide +kernel⟩
theorem sd_is_integer : SD G 0 d_is_integer s_is_integer := ⟨rfl, sc_is_integer, ok_is_integer, fun _ _ _ _ _ _ us hl => match us, hl with | [_], _ => rfl, fun kV doc pm an cdv ct na ks perm h => by
    simp only [G, kb, List.mem_cons, List.not_mem_nil, or_false, Prod.mk.injEq, Nat.reduceEqDiff, false_and] at h
    done⟩
set_option maxRecDepth 100000 in
theorem ok_is_number : okSs G d_is_number.N ⟨defScope s_is_number, fun _ => true⟩ d_is_number.body (defBody s_is_number) = true := by decide +kernel
theorem sc_is_number : FnScope d_is_number.N (d_is_number.N.take d_is_number.np) (defScope s_is_number) := ⟨rfl, rfl, rfl, by decide +kernel, rfl, by decide +kernel, by decide +kernel⟩
theorem sd_is_number : SD G 1 d_is_number s_is_number := ⟨rfl, sc_is_number, ok_is_number, fun _ _ _ _ _ _ us hl => match us, hl with | [_], _ => rfl, fun kV doc pm an cdv ct na ks perm h => by
    simp only [G, kb, List.mem_cons, List.not_mem_nil, or_false, Prod.mk.injEq, Nat.reduceEqDiff, false_and] at h
    done⟩
set_option maxRecDepth 100000 in
theorem ok_is_below : okSs G d_is_below.N ⟨defScope s_is_below, fun _ => true⟩ d_is_below.body (defBody s_is_below) = true := by decide +kernel
theorem sc_is_below : FnScope d_is_below.N (d_is_below.N.take d_is_below.np) (defScope s_is_below) := ⟨rfl, rfl, rfl, by decide +kernel, rfl, by decide +kernel, by decide +kernel⟩
theorem sd_is_below : SD G 2 d_is_below s_is_below := ⟨rfl, sc_is_below, ok_is_below, fun _ _ _ _ _ _ us hl => match us, hl with | [_, _], _ => rfl, fun kV doc pm an cdv ct na ks perm h => by
    simp only [G, kb, List.mem_cons, List.not_mem_nil, or_false, Prod.mk.injEq, Nat.reduceEqDiff, false_and] at h
    done⟩
set_option maxRecDepth 100000 in
theorem ok_is_positive : okSs G d_is_positive.N ⟨defScope s_is_positive, fun _ => true⟩ d_is_positive.body (defBody s_is_positive) = true := by decide +kernel
theorem sc_is_positive : FnScope d_is_positive.N (d_is_positive.N.take d_is_positive.np) (defScope s_is_positive) := ⟨rfl, rfl, rfl, by decide +kernel, rfl, by decide +kernel, by decide +kernel⟩
theorem sd_is_positive : SD G 3 d_is_positive s_is_positive := ⟨rfl, sc_is_positive, ok_is_positive, fun _ _ _ _ _ _ us hl => match us, hl with | [_], _ => rfl, fun kV doc pm an cdv ct na ks perm h => by
    simp only [G, kb, List.mem_cons, List.not_mem_nil, or_false, Prod.mk.injEq, Nat.reduceEqDiff, false_and] at h
    done⟩
set_option maxRecDepth 100000 in
theorem ok_is_sequence : okSs G d_is_sequence.N ⟨defScope s_is_sequence, fun _ => true⟩ d_is_sequence.body (defBody s_is_sequence) = true := by decide +kernel
theorem sc_is_sequence : FnScope d_is_sequence.N (d_is_sequence.N.take d_is_sequence.np) (defScope s_is_sequence) := ⟨rfl, rfl, rfl, by decide +kernel, rfl, by decide +kernel, by decide +kernel⟩
theorem sd_is_sequence : SD G 4 d_is_sequence s_is_sequence := ⟨rfl, sc_is_sequence, ok_is_sequence, fun _ _ _ _ _ _ us hl => match us, hl with | [_], _ => rfl, fun kV doc pm an cdv ct na ks perm h => by
    simp only [G, kb, List.mem_cons, List.not_mem_nil, or_false, Prod.mk.injEq, Nat.reduceEqDiff, false_and] at h
    done⟩
set_option maxRecDepth 100000 in
theorem ok_is_string : okSs G d_is_string.N ⟨defScope s_is_string, fun _ => true⟩ d_is_string.body (defBody s_is_string) = true := by decide +kernel
theorem sc_is_string : FnScope d_is_string.N (d_is_string.N.take d_is_string.np) (defScope s_is_string) := ⟨rfl, rfl, rfl, by decide +kernel, rfl, by decide +kernel, by decide +kernel⟩
theorem sd_is_string : SD G 5 d_is_string s_is_string := ⟨rfl, sc_is_string, ok_is_string, fun _ _ _ _ _ _ us hl => match us, hl with | [_], _ => rfl, fun kV doc pm an cdv ct na ks perm h => by
    simp only [G, kb, List.mem_cons, List.not_mem_nil, or_false, Prod.mk.injEq, Nat.reduceEqDiff, false_and] at h
    done⟩
set_option maxRecDepth 100000 in
theorem ok_is_ascending : okSs G d_is_ascending.N ⟨defScope s_is_ascending, fun _ => true⟩ d_is_ascending.body (defBody s_is_ascending) = true := by decide +kernel
theorem sc_is_ascending : FnScope d_is_ascending.N (d_is_ascending.N.take d_is_ascending.np) (defScope s_is_ascending) := ⟨rfl, rfl, rfl, by decide +kernel, rfl, by decide +kernel, by decide +kernel⟩
theorem sd_is_ascending : SD G 6 d_is_ascending s_is_ascending := ⟨rfl, sc_is_ascending, ok_is_ascending, fun _ _ _ _ _ _ us hl => match us, hl with | [_], _ => rfl, fun kV doc pm an cdv ct na ks perm h => by
    simp only [G, kb, List.mem_cons, List.not_mem_nil, or_false, Prod.mk.injEq, Nat.reduceEqDiff, false_and] at h
    done⟩
set_option maxRecDepth 100000 in
theorem ok_is_lot : okSs G d_is_lot.N ⟨defScope s_is_lot, fun _ => true⟩ d_is_lot.body (defBody s_is_lot) = true := by decide +kernel
theorem sc_is_lot : FnScope d_is_lot.N (d_is_lot.N.take d_is_lot.np) (defScope s_is_lot) := ⟨rfl, rfl, rfl, by decide +kernel, rfl, by decide +kernel, by decide +kernel⟩
theorem sd_is_lot : SD G 7 d_is_lot s_is_lot := ⟨rfl, sc_is_lot, ok_is_lot, fun _ _ _ _ _ _ us hl => match us, hl with | [_, _], _ => rfl, fun kV doc pm an cdv ct na ks perm h => by
    simp only [G, kb, List.mem_cons, List.not_mem_nil, or_false, Prod.mk.injEq, Nat.reduceEqDiff, false_and] at h
    done⟩
set_option maxRecDepth 100000 in
theorem ok_are_below : okSs G d_are_below.N ⟨defScope s_are_below, fun _ => true⟩ d_are_below.body (defBody s_are_below) = true := by decide +kernel
theorem sc_are_below : FnScope d_are_below.N (d_are_below.N.take d_are_below.np) (defScope s_are_below) := ⟨rfl, rfl, rfl, by decide +kernel, rfl, by decide +kernel, by decide +kernel⟩
theorem sd_are_below : SD G 8 d_are_below s_are_below := ⟨rfl, sc_are_below, ok_are_below, fun _ _ _ _ _ _ us hl => match us, hl with | [_, _], _ => rfl, fun kV doc pm an cdv ct na ks perm h => by
    simp only [G, kb, List.mem_cons, List.not_mem_nil, or_false, Prod.mk.injEq, Nat.reduceEqDiff, false_and] at h
    done⟩
set_option maxRecDepth 100000 in
theorem ok_is_hands : okSs G d_is_hands.N ⟨defScope s_is_hands, fun _ => true⟩ d_is_hands.body (defBody s_is_hands) = true := by decide +kernel
theorem sc_is_hands : FnScope d_is_hands.N (d_is_hands.N.take d_is_hands.np) (defScope s_is_hands) := ⟨rfl, rfl, rfl, by decide +kernel, rfl, by decide +kernel, by decide +kernel⟩
theorem sd_is_hands : SD G 9 d_is_hands s_is_hands := ⟨rfl, sc_is_hands, ok_is_hands, fun _ _ _ _ _ _ us hl => match us, hl with | [_], _ => rfl, fun kV doc pm an cdv ct na ks perm h => by
    simp only [G, kb, List.mem_cons, List.not_mem_nil, or_false, Prod.mk.injEq, Nat.reduceEqDiff, false_and] at h
    done⟩
set_option maxRecDepth 100000 in
theorem ok_is_map : okSs G d_is_map.N ⟨defScope s_is_map, fun _ => true⟩ d_is_map.body (defBody s_is_map) = true := by decide +kernel
theorem sc_is_map : FnScope d_is_map.N (d_is_map.N.take d_is_map.np) (defScope s_is_map) := ⟨rfl, rfl, rfl, by decide +kernel, rfl, by decide +kernel, by decide +kernel⟩
theorem sd_is_map : SD G 10 d_is_map s_is_map := ⟨rfl, sc_is_map, ok_is_map, fun _ _ _ _ _ _ us hl => match us, hl with | [_, _], _ => rfl, fun kV doc pm an cdv ct na ks perm h => by
    simp only [G, kb, List.mem_cons, List.not_mem_nil, or_false, Prod.mk.injEq, Nat.reduceEqDiff, false_and] at h
    done⟩
set_option maxRecDepth 100000 in
theorem ok_are_deeds : okSs G d_are_deeds.N ⟨defScope s_are_deeds, fun _ => true⟩ d_are_deeds.body (defBody s_are_deeds) = true := by decide +kernel
theorem sc_are_deeds : FnScope d_are_deeds.N (d_are_deeds.N.take d_are_deeds.np) (defScope s_are_deeds) := ⟨rfl, rfl, rfl, by decide +kernel, rfl, by decide +kernel, by decide +kernel⟩
theorem sd_are_deeds : SD G 11 d_are_deeds s_are_deeds := ⟨rfl, sc_are_deeds, ok_are_deeds, fun _ _ _ _ _ _ us hl => match us, hl with | [_], _ => rfl, fun kV doc pm an cdv ct na ks perm h => by
    simp only [G, kb, List.mem_cons, List.not_mem_nil, or_false, Prod.mk.injEq, Nat.reduceEqDiff, false_and] at h
    done⟩
set_option maxRecDepth 100000 in
theorem ok_check_machine : okSs G d_check_machine.N ⟨defScope s_check_machine, fun _ => true⟩ d_check_machine.body (defBody s_check_machine) = true := by decide +kernel
theorem sc_check_machine : FnScope d_check_machine.N (d_check_machine.N.take d_check_machine.np) (defScope s_check_machine) := ⟨rfl, rfl, rfl, by decide +kernel, rfl, by decide +kernel, by decide +kernel⟩
theorem sd_check_machine : SD G 12 d_check_machine s_check_machine := ⟨rfl, sc_check_machine, ok_check_machine, fun _ _ _ _ _ _ us hl => match us, hl with | [_], _ => rfl, fun kV doc pm an cdv ct na ks perm h => by
    simp only [G, kb, List.mem_cons, List.not_mem_nil, or_false, Prod.mk.injEq, Nat.reduceEqDiff, false_and] at h
    done⟩
set_option maxRecDepth 100000 in
theorem ok_need_deed : okSs G d_need_deed.N ⟨defScope s_need_deed, fun _ => true⟩ d_need_deed.body (defBody s_need_deed) = true := by decide +kernel
theorem sc_need_deed : FnScope d_need_deed.N (d_need_deed.N.take d_need_deed.np) (defScope s_need_deed) := ⟨rfl, rfl, rfl, by decide +kernel, rfl, by decide +kernel, by decide +kernel⟩
theorem sd_need_deed : SD G 13 d_need_deed s_need_deed := ⟨rfl, sc_need_deed, ok_need_deed, fun _ _ _ _ _ _ us hl => match us, hl with | [_, _], _ => rfl, fun kV doc pm an cdv ct na ks perm h => by
    simp only [G, kb, List.mem_cons, List.not_mem_nil, or_false, Prod.mk.injEq, Nat.reduceEqDiff, false_and] at h
    done⟩
set_option maxRecDepth 100000 in
theorem ok_need_hands : okSs G d_need_hands.N ⟨defScope s_need_hands, fun _ => true⟩ d_need_hands.body (defBody s_need_hands) = true := by decide +kernel
theorem sc_need_hands : FnScope d_need_hands.N (d_need_hands.N.take d_need_hands.np) (defScope s_need_hands) := ⟨rfl, rfl, rfl, by decide +kernel, rfl, by decide +kernel, by decide +kernel⟩
theorem sd_need_hands : SD G 14 d_need_hands s_need_hands := ⟨rfl, sc_need_hands, ok_need_hands, fun _ _ _ _ _ _ us hl => match us, hl with | [_], _ => rfl, fun kV doc pm an cdv ct na ks perm h => by
    simp only [G, kb, List.mem_cons, List.not_mem_nil, or_false, Prod.mk.injEq, Nat.reduceEqDiff, false_and] at h
    done⟩
set_option maxRecDepth 100000 in
theorem ok_is_letter : okSs G d_is_letter.N ⟨defScope s_is_letter, fun _ => true⟩ d_is_letter.body (defBody s_is_letter) = true := by decide +kernel
theorem sc_is_letter : FnScope d_is_letter.N (d_is_letter.N.take d_is_letter.np) (defScope s_is_letter) := ⟨rfl, rfl, rfl, by decide +kernel, rfl, by decide +kernel, by decide +kernel⟩
theorem sd_is_letter : SD G 15 d_is_letter s_is_letter := ⟨rfl, sc_is_letter, ok_is_letter, fun _ _ _ _ _ _ us hl => match us, hl with | [_, _, _], _ => rfl, fun kV doc pm an cdv ct na ks perm h => by
    simp only [G, kb, List.mem_cons, List.not_mem_nil, or_false, Prod.mk.injEq, Nat.reduceEqDiff, false_and] at h
    done⟩
set_option maxRecDepth 100000 in
theorem ok_check_row : okSs G d_check_row.N ⟨defScope s_check_row, fun _ => true⟩ d_check_row.body (defBody s_check_row) = true := by decide +kernel
theorem sc_check_row : FnScope d_check_row.N (d_check_row.N.take d_check_row.np) (defScope s_check_row) := ⟨rfl, rfl, rfl, by decide +kernel, rfl, by decide +kernel, by decide +kernel⟩
theorem sd_check_row : SD G 16 d_check_row s_check_row := ⟨rfl, sc_check_row, ok_check_row, fun _ _ _ _ _ _ us hl => match us, hl with | [_, _, _], _ => rfl, fun kV doc pm an cdv ct na ks perm h => by
    simp only [G, kb, List.mem_cons, List.not_mem_nil, or_false, Prod.mk.injEq, Nat.reduceEqDiff, false_and] at h
    done⟩
set_option maxRecDepth 100000 in
theorem ok_check_history : okSs G d_check_history.N ⟨defScope s_check_history, fun _ => true⟩ d_check_history.body (defBody s_check_history) = true := by decide +kernel
theorem sc_check_history : FnScope d_check_history.N (d_check_history.N.take d_check_history.np) (defScope s_check_history) := ⟨rfl, rfl, rfl, by decide +kernel, rfl, by decide +kernel, by decide +kernel⟩
theorem sd_check_history : SD G 17 d_check_history s_check_history := ⟨rfl, sc_check_history, ok_check_history, fun _ _ _ _ _ _ us hl => match us, hl with | [_, _, _], _ => rfl, fun kV doc pm an cdv ct na ks perm h => by
    simp only [G, kb, List.mem_cons, List.not_mem_nil, or_false, Prod.mk.injEq, Nat.reduceEqDiff, false_and] at h
    done⟩
set_option maxRecDepth 100000 in
theorem ok_check_lot : okSs G d_check_lot.N ⟨defScope s_check_lot, fun _ => true⟩ d_check_lot.body (defBody s_check_lot) = true := by decide +kernel
theorem sc_check_lot : FnScope d_check_lot.N (d_check_lot.N.take d_check_lot.np) (defScope s_check_lot) := ⟨rfl, rfl, rfl, by decide +kernel, rfl, by decide +kernel, by decide +kernel⟩
theorem sd_check_lot : SD G 18 d_check_lot s_check_lot := ⟨rfl, sc_check_lot, ok_check_lot, fun _ _ _ _ _ _ us hl => match us, hl with | [_, _], _ => rfl, fun kV doc pm an cdv ct na ks perm h => by
    simp only [G, kb, List.mem_cons, List.not_mem_nil, or_false, Prod.mk.injEq, Nat.reduceEqDiff, false_and] at h
    done⟩
set_option maxRecDepth 100000 in
theorem ok_like_on : okSs G d_like_on.N ⟨defScope s_like_on, fun _ => true⟩ d_like_on.body (defBody s_like_on) = true := by decide +kernel
theorem sc_like_on : FnScope d_like_on.N (d_like_on.N.take d_like_on.np) (defScope s_like_on) := ⟨rfl, rfl, rfl, by decide +kernel, rfl, by decide +kernel, by decide +kernel⟩
theorem sd_like_on : SD G 19 d_like_on s_like_on := ⟨rfl, sc_like_on, ok_like_on, fun _ _ _ _ _ _ us hl => match us, hl with | [_, _, _], _ => rfl, fun kV doc pm an cdv ct na ks perm h => by
    simp only [G, kb, List.mem_cons, List.not_mem_nil, or_false, Prod.mk.injEq, Nat.reduceEqDiff, false_and] at h
    done⟩
set_option maxRecDepth 100000 in
theorem ok_are_counts : okSs G d_are_counts.N ⟨defScope s_are_counts, fun _ => true⟩ d_are_counts.body (defBody s_are_counts) = true := by decide +kernel
theorem sc_are_counts : FnScope d_are_counts.N (d_are_counts.N.take d_are_counts.np) (defScope s_are_counts) := ⟨rfl, rfl, rfl, by decide +kernel, rfl, by decide +kernel, by decide +kernel⟩
theorem sd_are_counts : SD G 20 d_are_counts s_are_counts := ⟨rfl, sc_are_counts, ok_are_counts, fun _ _ _ _ _ _ us hl => match us, hl with | [_], _ => rfl, fun kV doc pm an cdv ct na ks perm h => by
    simp only [G, kb, List.mem_cons, List.not_mem_nil, or_false, Prod.mk.injEq, Nat.reduceEqDiff, false_and] at h
    done⟩
set_option maxRecDepth 100000 in
theorem ok_need_counts : okSs G d_need_counts.N ⟨defScope s_need_counts, fun _ => true⟩ d_need_counts.body (defBody s_need_counts) = true := by decide +kernel
theorem sc_need_counts : FnScope d_need_counts.N (d_need_counts.N.take d_need_counts.np) (defScope s_need_counts) := ⟨rfl, rfl, rfl, by decide +kernel, rfl, by decide +kernel, by decide +kernel⟩
theorem sd_need_counts : SD G 21 d_need_counts s_need_counts := ⟨rfl, sc_need_counts, ok_need_counts, fun _ _ _ _ _ _ us hl => match us, hl with | [_], _ => rfl, fun kV doc pm an cdv ct na ks perm h => by
    simp only [G, kb, List.mem_cons, List.not_mem_nil, or_false, Prod.mk.injEq, Nat.reduceEqDiff, false_and] at h
    done⟩
set_option maxRecDepth 100000 in
theorem ok_vectors : okSs G d_vectors.N ⟨defScope s_vectors, fun _ => true⟩ d_vectors.body (defBody s_vectors) = true := by decide +kernel
theorem sc_vectors : FnScope d_vectors.N (d_vectors.N.take d_vectors.np) (defScope s_vectors) := ⟨rfl, rfl, rfl, by decide +kernel, rfl, by decide +kernel, by decide +kernel⟩
theorem sd_vectors : SD G 22 d_vectors s_vectors := ⟨rfl, sc_vectors, ok_vectors, fun _ _ _ _ _ _ us hl => match us, hl with | [_], _ => rfl, fun kV doc pm an cdv ct na ks perm h => by
    simp only [G, kb, List.mem_cons, List.not_mem_nil, or_false, Prod.mk.injEq, Nat.reduceEqDiff, false_and] at h
    done⟩
set_option maxRecDepth 100000 in
theorem ok_is_vector : okSs G d_is_vector.N ⟨defScope s_is_vector, fun _ => true⟩ d_is_vector.body (defBody s_is_vector) = true := by decide +kernel
theorem sc_is_vector : FnScope d_is_vector.N (d_is_vector.N.take d_is_vector.np) (defScope s_is_vector) := ⟨rfl, rfl, rfl, by decide +kernel, rfl, by decide +kernel, by decide +kernel⟩
theorem sd_is_vector : SD G 23 d_is_vector s_is_vector := ⟨rfl, sc_is_vector, ok_is_vector, fun _ _ _ _ _ _ us hl => match us, hl with | [_, _], _ => rfl, fun kV doc pm an cdv ct na ks perm h => by
    simp only [G, kb, List.mem_cons, List.not_mem_nil, or_false, Prod.mk.injEq, Nat.reduceEqDiff, false_and] at h
    done⟩
set_option maxRecDepth 100000 in
theorem ok_place_of : okSs G d_place_of.N ⟨defScope s_place_of, fun _ => true⟩ d_place_of.body (defBody s_place_of) = true := by decide +kernel
theorem sc_place_of : FnScope d_place_of.N (d_place_of.N.take d_place_of.np) (defScope s_place_of) := ⟨rfl, rfl, rfl, by decide +kernel, rfl, by decide +kernel, by decide +kernel⟩
theorem sd_place_of : SD G 24 d_place_of s_place_of := ⟨rfl, sc_place_of, ok_place_of, fun _ _ _ _ _ _ us hl => match us, hl with | [_, _], _ => rfl, fun kV doc pm an cdv ct na ks perm h => by
    simp only [G, kb, List.mem_cons, List.not_mem_nil, or_false, Prod.mk.injEq, Nat.reduceEqDiff, false_and] at h
    done⟩
set_option maxRecDepth 100000 in
theorem ok_first_table : okSs G d_first_table.N ⟨defScope s_first_table, fun _ => true⟩ d_first_table.body (defBody s_first_table) = true := by decide +kernel
theorem sc_first_table : FnScope d_first_table.N (d_first_table.N.take d_first_table.np) (defScope s_first_table) := ⟨rfl, rfl, rfl, by decide +kernel, rfl, by decide +kernel, by decide +kernel⟩
theorem sd_first_table : SD G 25 d_first_table s_first_table := ⟨rfl, sc_first_table, ok_first_table, fun _ _ _ _ _ _ us hl => match us, hl with | [_, _], _ => rfl, fun kV doc pm an cdv ct na ks perm h => by
    simp only [G, kb, List.mem_cons, List.not_mem_nil, or_false, Prod.mk.injEq, Nat.reduceEqDiff, false_and] at h
    done⟩
set_option maxRecDepth 100000 in
theorem ok_grown : okSs G d_grown.N ⟨defScope s_grown, fun _ => true⟩ d_grown.body (defBody s_grown) = true := by decide +kernel
theorem sc_grown : FnScope d_grown.N (d_grown.N.take d_grown.np) (defScope s_grown) := ⟨rfl, rfl, rfl, by decide +kernel, rfl, by decide +kernel, by decide +kernel⟩
theorem sd_grown : SD G 26 d_grown s_grown := ⟨rfl, sc_grown, ok_grown, fun _ _ _ _ _ _ us hl => match us, hl with | [_, _, _, _], _ => rfl, fun kV doc pm an cdv ct na ks perm h => by
    simp only [G, kb, List.mem_cons, List.not_mem_nil, or_false, Prod.mk.injEq, Nat.reduceEqDiff, false_and] at h
    done⟩
set_option maxRecDepth 100000 in
theorem ok_table_of : okSs G d_table_of.N ⟨defScope s_table_of, fun _ => true⟩ d_table_of.body (defBody s_table_of) = true := by decide +kernel
theorem sc_table_of : FnScope d_table_of.N (d_table_of.N.take d_table_of.np) (defScope s_table_of) := ⟨rfl, rfl, rfl, by decide +kernel, rfl, by decide +kernel, by decide +kernel⟩
theorem sd_table_of : SD G 27 d_table_of s_table_of := ⟨rfl, sc_table_of, ok_table_of, fun _ _ _ _ _ _ us hl => match us, hl with | [_, _, _], _ => rfl, fun kV doc pm an cdv ct na ks perm h => by
    simp only [G, kb, List.mem_cons, List.not_mem_nil, or_false, Prod.mk.injEq, Nat.reduceEqDiff, false_and] at h
    done⟩
set_option maxRecDepth 100000 in
theorem ok_lot_ahead : okSs G d_lot_ahead.N ⟨defScope s_lot_ahead, fun _ => true⟩ d_lot_ahead.body (defBody s_lot_ahead) = true := by decide +kernel
theorem sc_lot_ahead : FnScope d_lot_ahead.N (d_lot_ahead.N.take d_lot_ahead.np) (defScope s_lot_ahead) := ⟨rfl, rfl, rfl, by decide +kernel, rfl, by decide +kernel, by decide +kernel⟩
theorem sd_lot_ahead : SD G 28 d_lot_ahead s_lot_ahead := ⟨rfl, sc_lot_ahead, ok_lot_ahead, fun _ _ _ _ _ _ us hl => match us, hl with | [_, _, _, _, _], _ => rfl, fun kV doc pm an cdv ct na ks perm h => by
    simp only [G, kb, List.mem_cons, List.not_mem_nil, or_false, Prod.mk.injEq, Nat.reduceEqDiff, false_and] at h
    done⟩
set_option maxRecDepth 100000 in
theorem ok_is_step : okSs G d_is_step.N ⟨defScope s_is_step, fun _ => true⟩ d_is_step.body (defBody s_is_step) = true := by decide +kernel
theorem sc_is_step : FnScope d_is_step.N (d_is_step.N.take d_is_step.np) (defScope s_is_step) := ⟨rfl, rfl, rfl, by decide +kernel, rfl, by decide +kernel, by decide +kernel⟩
theorem sd_is_step : SD G 29 d_is_step s_is_step := ⟨rfl, sc_is_step, ok_is_step, fun _ _ _ _ _ _ us hl => match us, hl with | [_, _, _], _ => rfl, fun kV doc pm an cdv ct na ks perm h => by
    simp only [G, kb, List.mem_cons, List.not_mem_nil, or_false, Prod.mk.injEq, Nat.reduceEqDiff, false_and] at h
    done⟩
set_option maxRecDepth 100000 in
theorem ok_commute_on : okSs G d_commute_on.N ⟨defScope s_commute_on, fun _ => true⟩ d_commute_on.body (defBody s_commute_on) = true := by decide +kernel
theorem sc_commute_on : FnScope d_commute_on.N (d_commute_on.N.take d_commute_on.np) (defScope s_commute_on) := ⟨rfl, rfl, rfl, by decide +kernel, rfl, by decide +kernel, by decide +kernel⟩
theorem sd_commute_on : SD G 30 d_commute_on s_commute_on := ⟨rfl, sc_commute_on, ok_commute_on, fun _ _ _ _ _ _ us hl => match us, hl with | [_, _, _, _], _ => rfl, fun kV doc pm an cdv ct na ks perm h => by
    simp only [G, kb, List.mem_cons, List.not_mem_nil, or_false, Prod.mk.injEq, Nat.reduceEqDiff, false_and] at h
    done⟩
set_option maxRecDepth 100000 in
theorem ok_is_unseen : okSs G d_is_unseen.N ⟨defScope s_is_unseen, fun _ => true⟩ d_is_unseen.body (defBody s_is_unseen) = true := by decide +kernel
theorem sc_is_unseen : FnScope d_is_unseen.N (d_is_unseen.N.take d_is_unseen.np) (defScope s_is_unseen) := ⟨rfl, rfl, rfl, by decide +kernel, rfl, by decide +kernel, by decide +kernel⟩
theorem sd_is_unseen : SD G 31 d_is_unseen s_is_unseen := ⟨rfl, sc_is_unseen, ok_is_unseen, fun _ _ _ _ _ _ us hl => match us, hl with | [_, _, _, _], _ => rfl, fun kV doc pm an cdv ct na ks perm h => by
    simp only [G, kb, List.mem_cons, List.not_mem_nil, or_false, Prod.mk.injEq, Nat.reduceEqDiff, false_and] at h
    done⟩
set_option maxRecDepth 100000 in
theorem ok_behind_step : okSs G d_behind_step.N ⟨defScope s_behind_step, fun _ => true⟩ d_behind_step.body (defBody s_behind_step) = true := by decide +kernel
theorem sc_behind_step : FnScope d_behind_step.N (d_behind_step.N.take d_behind_step.np) (defScope s_behind_step) := ⟨rfl, rfl, rfl, by decide +kernel, rfl, by decide +kernel, by decide +kernel⟩
theorem sd_behind_step : SD G 32 d_behind_step s_behind_step := ⟨rfl, sc_behind_step, ok_behind_step, fun _ _ _ _ _ _ us hl => match us, hl with | [_, _], _ => rfl, fun kV doc pm an cdv ct na ks perm h => by
    simp only [G, kb, List.mem_cons, List.not_mem_nil, or_false, Prod.mk.injEq, Nat.reduceEqDiff, false_and] at h
    done⟩
set_option maxRecDepth 100000 in
theorem ok_unseen_steps : okSs G d_unseen_steps.N ⟨defScope s_unseen_steps, fun _ => true⟩ d_unseen_steps.body (defBody s_unseen_steps) = true := by decide +kernel
theorem sc_unseen_steps : FnScope d_unseen_steps.N (d_unseen_steps.N.take d_unseen_steps.np) (defScope s_unseen_steps) := ⟨rfl, rfl, rfl, by decide +kernel, rfl, by decide +kernel, by decide +kernel⟩
theorem sd_unseen_steps : SD G 33 d_unseen_steps s_unseen_steps := ⟨rfl, sc_unseen_steps, ok_unseen_steps, fun _ _ _ _ _ _ us hl => match us, hl with | [_, _, _], _ => rfl, fun kV doc pm an cdv ct na ks perm h => by
    simp only [G, kb, List.mem_cons, List.not_mem_nil, or_false, Prod.mk.injEq, Nat.reduceEqDiff, false_and, true_and, eq_self, false_or] at h
    rcases h with ⟨rfl, rfl, rfl⟩
    · exact fun us hl => match us, hl with | [x0, x1, x2], _ => ⟨[x2, x1, x0], rfl, rfl, rfl⟩
    ⟩
set_option maxRecDepth 100000 in
theorem ok_stepped : okSs G d_stepped.N ⟨defScope s_stepped, fun _ => true⟩ d_stepped.body (defBody s_stepped) = true := by decide +kernel
theorem sc_stepped : FnScope d_stepped.N (d_stepped.N.take d_stepped.np) (defScope s_stepped) := ⟨rfl, rfl, rfl, by decide +kernel, rfl, by decide +kernel, by decide +kernel⟩
theorem sd_stepped : SD G 34 d_stepped s_stepped := ⟨rfl, sc_stepped, ok_stepped, fun _ _ _ _ _ _ us hl => match us, hl with | [_, _, _, _], _ => rfl, fun kV doc pm an cdv ct na ks perm h => by
    simp only [G, kb, List.mem_cons, List.not_mem_nil, or_false, Prod.mk.injEq, Nat.reduceEqDiff, false_and] at h
    done⟩
set_option maxRecDepth 100000 in
theorem ok__law_box : okSs G d__law_box.N ⟨defScope s__law_box, fun _ => true⟩ d__law_box.body (defBody s__law_box) = true := by decide +kernel
theorem sc__law_box : FnScope d__law_box.N (d__law_box.N.take d__law_box.np) (defScope s__law_box) := ⟨rfl, rfl, rfl, by decide +kernel, rfl, by decide +kernel, by decide +kernel⟩
theorem sd__law_box : SD G 35 d__law_box s__law_box := ⟨rfl, sc__law_box, ok__law_box, fun _ _ _ _ _ _ us hl => match us, hl with | [_, _], _ => rfl, fun kV doc pm an cdv ct na ks perm h => by
    simp only [G, kb, List.mem_cons, List.not_mem_nil, or_false, Prod.mk.injEq, Nat.reduceEqDiff, false_and] at h
    done⟩
set_option maxRecDepth 100000 in
theorem ok__law_take : okSs G d__law_take.N ⟨defScope s__law_take, fun _ => true⟩ d__law_take.body (defBody s__law_take) = true := by decide +kernel
theorem sc__law_take : FnScope d__law_take.N (d__law_take.N.take d__law_take.np) (defScope s__law_take) := ⟨rfl, rfl, rfl, by decide +kernel, rfl, by decide +kernel, by decide +kernel⟩
theorem sd__law_take : SD G 36 d__law_take s__law_take := ⟨rfl, sc__law_take, ok__law_take, fun _ _ _ _ _ _ us hl => match us, hl with | [_, _], _ => rfl, fun kV doc pm an cdv ct na ks perm h => by
    simp only [G, kb, List.mem_cons, List.not_mem_nil, or_false, Prod.mk.injEq, Nat.reduceEqDiff, false_and] at h
    done⟩
set_option maxRecDepth 100000 in
theorem ok__law_pick : okSs G d__law_pick.N ⟨defScope s__law_pick, fun _ => true⟩ d__law_pick.body (defBody s__law_pick) = true := by decide +kernel
theorem sc__law_pick : FnScope d__law_pick.N (d__law_pick.N.take d__law_pick.np) (defScope s__law_pick) := ⟨rfl, rfl, rfl, by decide +kernel, rfl, by decide +kernel, by decide +kernel⟩
theorem sd__law_pick : SD G 37 d__law_pick s__law_pick := ⟨rfl, sc__law_pick, ok__law_pick, fun _ _ _ _ _ _ us hl => match us, hl with | [_, _], _ => rfl, fun kV doc pm an cdv ct na ks perm h => by
    simp only [G, kb, List.mem_cons, List.not_mem_nil, or_false, Prod.mk.injEq, Nat.reduceEqDiff, false_and] at h
    done⟩
set_option maxRecDepth 100000 in
theorem ok__law_machine : okSs G d__law_machine.N ⟨defScope s__law_machine, fun _ => true⟩ d__law_machine.body (defBody s__law_machine) = true := by decide +kernel
theorem sc__law_machine : FnScope d__law_machine.N (d__law_machine.N.take d__law_machine.np) (defScope s__law_machine) := ⟨rfl, rfl, rfl, by decide +kernel, rfl, by decide +kernel, by decide +kernel⟩
theorem sd__law_machine : SD G 38 d__law_machine s__law_machine := ⟨rfl, sc__law_machine, ok__law_machine, fun _ _ _ _ _ _ us hl => match us, hl with | [_, _, _], _ => rfl, fun kV doc pm an cdv ct na ks perm h => by
    simp only [G, kb, List.mem_cons, List.not_mem_nil, or_false, Prod.mk.injEq, Nat.reduceEqDiff, false_and] at h
    done⟩
set_option maxRecDepth 100000 in
theorem ok__law_history : okSs G d__law_history.N ⟨defScope s__law_history, fun _ => true⟩ d__law_history.body (defBody s__law_history) = true := by decide +kernel
theorem sc__law_history : FnScope d__law_history.N (d__law_history.N.take d__law_history.np) (defScope s__law_history) := ⟨rfl, rfl, rfl, by decide +kernel, rfl, by decide +kernel, by decide +kernel⟩
theorem sd__law_history : SD G 39 d__law_history s__law_history := ⟨rfl, sc__law_history, ok__law_history, fun _ _ _ _ _ _ us hl => match us, hl with | [_, _, _, _], _ => rfl, fun kV doc pm an cdv ct na ks perm h => by
    simp only [G, kb, List.mem_cons, List.not_mem_nil, or_false, Prod.mk.injEq, Nat.reduceEqDiff, false_and] at h
    done⟩
set_option maxRecDepth 100000 in
theorem ok__law_counts : okSs G d__law_counts.N ⟨defScope s__law_counts, fun _ => true⟩ d__law_counts.body (defBody s__law_counts) = true := by decide +kernel
theorem sc__law_counts : FnScope d__law_counts.N (d__law_counts.N.take d__law_counts.np) (defScope s__law_counts) := ⟨rfl, rfl, rfl, by decide +kernel, rfl, by decide +kernel, by decide +kernel⟩
theorem sd__law_counts : SD G 40 d__law_counts s__law_counts := ⟨rfl, sc__law_counts, ok__law_counts, fun _ _ _ _ _ _ us hl => match us, hl with | [_, _], _ => rfl, fun kV doc pm an cdv ct na ks perm h => by
    simp only [G, kb, List.mem_cons, List.not_mem_nil, or_false, Prod.mk.injEq, Nat.reduceEqDiff, false_and] at h
    done⟩
set_option maxRecDepth 100000 in
theorem ok__law_vectors : okSs G d__law_vectors.N ⟨defScope s__law_vectors, fun _ => true⟩ d__law_vectors.body (defBody s__law_vectors) = true := by decide +kernel
theorem sc__law_vectors : FnScope d__law_vectors.N (d__law_vectors.N.take d__law_vectors.np) (defScope s__law_vectors) := ⟨rfl, rfl, rfl, by decide +kernel, rfl, by decide +kernel, by decide +kernel⟩
theorem sd__law_vectors : SD G 41 d__law_vectors s__law_vectors := ⟨rfl, sc__law_vectors, ok__law_vectors, fun _ _ _ _ _ _ us hl => match us, hl with | [_], _ => rfl, fun kV doc pm an cdv ct na ks perm h => by
    simp only [G, kb, List.mem_cons, List.not_mem_nil, or_false, Prod.mk.injEq, Nat.reduceEqDiff, false_and] at h
    done⟩
set_option maxRecDepth 100000 in
theorem ok__law_board : okSs G d__law_board.N ⟨defScope s__law_board, fun _ => true⟩ d__law_board.body (defBody s__law_board) = true := by decide +kernel
theorem sc__law_board : FnScope d__law_board.N (d__law_board.N.take d__law_board.np) (defScope s__law_board) := ⟨rfl, rfl, rfl, by decide +kernel, rfl, by decide +kernel, by decide +kernel⟩
theorem sd__law_board : SD G 42 d__law_board s__law_board := ⟨rfl, sc__law_board, ok__law_board, fun _ _ _ _ _ _ us hl => match us, hl with | [_, _, _], _ => rfl, fun kV doc pm an cdv ct na ks perm h => by
    simp only [G, kb, List.mem_cons, List.not_mem_nil, or_false, Prod.mk.injEq, Nat.reduceEqDiff, false_and] at h
    done⟩
set_option maxRecDepth 100000 in
theorem ok__law_table : okSs G d__law_table.N ⟨defScope s__law_table, fun _ => true⟩ d__law_table.body (defBody s__law_table) = true := by decide +kernel
theorem sc__law_table : FnScope d__law_table.N (d__law_table.N.take d__law_table.np) (defScope s__law_table) := ⟨rfl, rfl, rfl, by decide +kernel, rfl, by decide +kernel, by decide +kernel⟩
theorem sd__law_table : SD G 43 d__law_table s__law_table := ⟨rfl, sc__law_table, ok__law_table, fun _ _ _ _ _ _ us hl => match us, hl with | [_, _, _], _ => rfl, fun kV doc pm an cdv ct na ks perm h => by
    simp only [G, kb, List.mem_cons, List.not_mem_nil, or_false, Prod.mk.injEq, Nat.reduceEqDiff, false_and] at h
    done⟩
set_option maxRecDepth 100000 in
theorem ok__law_candidates : okSs G d__law_candidates.N ⟨defScope s__law_candidates, fun _ => true⟩ d__law_candidates.body (defBody s__law_candidates) = true := by decide +kernel
theorem sc__law_candidates : FnScope d__law_candidates.N (d__law_candidates.N.take d__law_candidates.np) (defScope s__law_candidates) := ⟨rfl, rfl, rfl, by decide +kernel, rfl, by decide +kernel, by decide +kernel⟩
theorem sd__law_candidates : SD G 44 d__law_candidates s__law_candidates := ⟨rfl, sc__law_candidates, ok__law_candidates, fun _ _ _ _ _ _ us hl => match us, hl with | [_, _], _ => rfl, fun kV doc pm an cdv ct na ks perm h => by
    simp only [G, kb, List.mem_cons, List.not_mem_nil, or_false, Prod.mk.injEq, Nat.reduceEqDiff, false_and] at h
    done⟩
set_option maxRecDepth 100000 in
theorem ok__law_behind : okSs G d__law_behind.N ⟨defScope s__law_behind, fun _ => true⟩ d__law_behind.body (defBody s__law_behind) = true := by decide +kernel
theorem sc__law_behind : FnScope d__law_behind.N (d__law_behind.N.take d__law_behind.np) (defScope s__law_behind) := ⟨rfl, rfl, rfl, by decide +kernel, rfl, by decide +kernel, by decide +kernel⟩
theorem sd__law_behind : SD G 45 d__law_behind s__law_behind := ⟨rfl, sc__law_behind, ok__law_behind, fun _ _ _ _ _ _ us hl => match us, hl with | [_, _], _ => rfl, fun kV doc pm an cdv ct na ks perm h => by
    simp only [G, kb, List.mem_cons, List.not_mem_nil, or_false, Prod.mk.injEq, Nat.reduceEqDiff, false_and] at h
    done⟩
set_option maxRecDepth 100000 in
theorem ok__law_unseen : okSs G d__law_unseen.N ⟨defScope s__law_unseen, fun _ => true⟩ d__law_unseen.body (defBody s__law_unseen) = true := by decide +kernel
theorem sc__law_unseen : FnScope d__law_unseen.N (d__law_unseen.N.take d__law_unseen.np) (defScope s__law_unseen) := ⟨rfl, rfl, rfl, by decide +kernel, rfl, by decide +kernel, by decide +kernel⟩
theorem sd__law_unseen : SD G 46 d__law_unseen s__law_unseen := ⟨rfl, sc__law_unseen, ok__law_unseen, fun _ _ _ _ _ _ us hl => match us, hl with | [_, _, _], _ => rfl, fun kV doc pm an cdv ct na ks perm h => by
    simp only [G, kb, List.mem_cons, List.not_mem_nil, or_false, Prod.mk.injEq, Nat.reduceEqDiff, false_and] at h
    done⟩
set_option maxRecDepth 100000 in
theorem ok__law_lists : okSs G d__law_lists.N ⟨defScope s__law_lists, fun _ => true⟩ d__law_lists.body (defBody s__law_lists) = true := by decide +kernel
theorem sc__law_lists : FnScope d__law_lists.N (d__law_lists.N.take d__law_lists.np) (defScope s__law_lists) := ⟨rfl, rfl, rfl, by decide +kernel, rfl, by decide +kernel, by decide +kernel⟩
theorem sd__law_lists : SD G 47 d__law_lists s__law_lists := ⟨rfl, sc__law_lists, ok__law_lists, fun _ _ _ _ _ _ us hl => match us, hl with | [_], _ => rfl, fun kV doc pm an cdv ct na ks perm h => by
    simp only [G, kb, List.mem_cons, List.not_mem_nil, or_false, Prod.mk.injEq, Nat.reduceEqDiff, false_and] at h
    done⟩
set_option maxRecDepth 100000 in
theorem ok__law_ahead : okSs G d__law_ahead.N ⟨defScope s__law_ahead, fun _ => true⟩ d__law_ahead.body (defBody s__law_ahead) = true := by decide +kernel
theorem sc__law_ahead : FnScope d__law_ahead.N (d__law_ahead.N.take d__law_ahead.np) (defScope s__law_ahead) := ⟨rfl, rfl, rfl, by decide +kernel, rfl, by decide +kernel, by decide +kernel⟩
theorem sd__law_ahead : SD G 48 d__law_ahead s__law_ahead := ⟨rfl, sc__law_ahead, ok__law_ahead, fun _ _ _ _ _ _ us hl => match us, hl with | [_, _, _, _, _], _ => rfl, fun kV doc pm an cdv ct na ks perm h => by
    simp only [G, kb, List.mem_cons, List.not_mem_nil, or_false, Prod.mk.injEq, Nat.reduceEqDiff, false_and] at h
    done⟩
set_option maxRecDepth 100000 in
theorem ok__law_fits : okSs G d__law_fits.N ⟨defScope s__law_fits, fun _ => true⟩ d__law_fits.body (defBody s__law_fits) = true := by decide +kernel
theorem sc__law_fits : FnScope d__law_fits.N (d__law_fits.N.take d__law_fits.np) (defScope s__law_fits) := ⟨rfl, rfl, rfl, by decide +kernel, rfl, by decide +kernel, by decide +kernel⟩
theorem sd__law_fits : SD G 49 d__law_fits s__law_fits := ⟨rfl, sc__law_fits, ok__law_fits, fun _ _ _ _ _ _ us hl => match us, hl with | [_, _, _, _], _ => rfl, fun kV doc pm an cdv ct na ks perm h => by
    simp only [G, kb, List.mem_cons, List.not_mem_nil, or_false, Prod.mk.injEq, Nat.reduceEqDiff, false_and] at h
    done⟩
set_option maxRecDepth 100000 in
theorem ok__law_refused : okSs G d__law_refused.N ⟨defScope s__law_refused, fun _ => true⟩ d__law_refused.body (defBody s__law_refused) = true := by decide +kernel
theorem sc__law_refused : FnScope d__law_refused.N (d__law_refused.N.take d__law_refused.np) (defScope s__law_refused) := ⟨rfl, rfl, rfl, by decide +kernel, rfl, by decide +kernel, by decide +kernel⟩
theorem sd__law_refused : SD G 50 d__law_refused s__law_refused := ⟨rfl, sc__law_refused, ok__law_refused, fun _ _ _ _ _ _ us hl => match us, hl with | [_, _, _, _], _ => rfl, fun kV doc pm an cdv ct na ks perm h => by
    simp only [G, kb, List.mem_cons, List.not_mem_nil, or_false, Prod.mk.injEq, Nat.reduceEqDiff, false_and] at h
    done⟩
set_option maxRecDepth 100000 in
theorem ok_law : okSs G d_law.N ⟨defScope s_law, fun _ => true⟩ d_law.body (defBody s_law) = true := by decide +kernel
theorem sc_law : FnScope d_law.N (d_law.N.take d_law.np) (defScope s_law) := ⟨rfl, rfl, rfl, by decide +kernel, rfl, by decide +kernel, by decide +kernel⟩
theorem sd_law : SD G 51 d_law s_law := ⟨rfl, sc_law, ok_law, fun _ _ _ _ _ _ us hl => match us, hl with | [_], _ => rfl, fun kV doc pm an cdv ct na ks perm h => by
    simp only [G, kb, List.mem_cons, List.not_mem_nil, or_false, Prod.mk.injEq, Nat.reduceEqDiff, false_and] at h
    done⟩
theorem sd : allSD G tb := ⟨sd_is_integer, sd_is_number, sd_is_below, sd_is_positive, sd_is_sequence, sd_is_string, sd_is_ascending, sd_is_lot, sd_are_below, sd_is_hands, sd_is_map, sd_are_deeds, sd_check_machine, sd_need_deed, sd_need_hands, sd_is_letter, sd_check_row, sd_check_history, sd_check_lot, sd_like_on, sd_are_counts, sd_need_counts, sd_vectors, sd_is_vector, sd_place_of, sd_first_table, sd_grown, sd_table_of, sd_lot_ahead, sd_is_step, sd_commute_on, sd_is_unseen, sd_behind_step, sd_unseen_steps, sd_stepped, sd__law_box, sd__law_take, sd__law_pick, sd__law_machine, sd__law_history, sd__law_counts, sd__law_vectors, sd__law_board, sd__law_table, sd__law_candidates, sd__law_behind, sd__law_unseen, sd__law_lists, sd__law_ahead, sd__law_fits, sd__law_refused, sd_law, trivial⟩
theorem P_is_integer : P 0 = some d_is_integer := rfl
theorem P_is_number : P 1 = some d_is_number := rfl
theorem P_is_below : P 2 = some d_is_below := rfl
theorem P_is_positive : P 3 = some d_is_positive := rfl
theorem P_is_sequence : P 4 = some d_is_sequence := rfl
theorem P_is_string : P 5 = some d_is_string := rfl
theorem P_is_ascending : P 6 = some d_is_ascending := rfl
theorem P_is_lot : P 7 = some d_is_lot := rfl
theorem P_are_below : P 8 = some d_are_below := rfl
theorem P_is_hands : P 9 = some d_is_hands := rfl
theorem P_is_map : P 10 = some d_is_map := rfl
theorem P_are_deeds : P 11 = some d_are_deeds := rfl
theorem P_check_machine : P 12 = some d_check_machine := rfl
theorem P_need_deed : P 13 = some d_need_deed := rfl
theorem P_need_hands : P 14 = some d_need_hands := rfl
theorem P_is_letter : P 15 = some d_is_letter := rfl
theorem P_check_row : P 16 = some d_check_row := rfl
theorem P_check_history : P 17 = some d_check_history := rfl
theorem P_check_lot : P 18 = some d_check_lot := rfl
theorem P_like_on : P 19 = some d_like_on := rfl
theorem P_are_counts : P 20 = some d_are_counts := rfl
theorem P_need_counts : P 21 = some d_need_counts := rfl
theorem P_vectors : P 22 = some d_vectors := rfl
theorem P_is_vector : P 23 = some d_is_vector := rfl
theorem P_place_of : P 24 = some d_place_of := rfl
theorem P_first_table : P 25 = some d_first_table := rfl
theorem P_grown : P 26 = some d_grown := rfl
theorem P_table_of : P 27 = some d_table_of := rfl
theorem P_lot_ahead : P 28 = some d_lot_ahead := rfl
theorem P_is_step : P 29 = some d_is_step := rfl
theorem P_commute_on : P 30 = some d_commute_on := rfl
theorem P_is_unseen : P 31 = some d_is_unseen := rfl
theorem P_behind_step : P 32 = some d_behind_step := rfl
theorem P_unseen_steps : P 33 = some d_unseen_steps := rfl
theorem P_stepped : P 34 = some d_stepped := rfl
theorem P__law_box : P 35 = some d__law_box := rfl
theorem P__law_take : P 36 = some d__law_take := rfl
theorem P__law_pick : P 37 = some d__law_pick := rfl
theorem P__law_machine : P 38 = some d__law_machine := rfl
theorem P__law_history : P 39 = some d__law_history := rfl
theorem P__law_counts : P 40 = some d__law_counts := rfl
theorem P__law_vectors : P 41 = some d__law_vectors := rfl
theorem P__law_board : P 42 = some d__law_board := rfl
theorem P__law_table : P 43 = some d__law_table := rfl
theorem P__law_candidates : P 44 = some d__law_candidates := rfl
theorem P__law_behind : P 45 = some d__law_behind := rfl
theorem P__law_unseen : P 46 = some d__law_unseen := rfl
theorem P__law_lists : P 47 = some d__law_lists := rfl
theorem P__law_ahead : P 48 = some d__law_ahead := rfl
theorem P__law_fits : P 49 = some d__law_fits := rfl
theorem P__law_refused : P 50 = some d__law_refused := rfl
theorem P_law : P 51 = some d_law := rfl
end K23
-- DEFS 52 GL 5

set_option Elab.async false
set_option linter.all false
set_option maxRecDepth 100000
set_option maxHeartbeats 2000000
namespace K23
open PySem PySem.Spec PyProof.Rows L2 Eng
variable {L n : Nat} {m : Mem}
def isI : PyData → Bool
  | .int _ => true
  | _ => false
theorem is_integer_ok (d : PyData) : callN L P (n + 1) 0 [.dat d] m = .ok (.dat (.bool (isI d))) m := by
  rw [call_eq P_is_integer rfl]
  cases d <;> simp [d_is_integer, isI]
theorem is_number_int (i : Int) : callN L P (n + 2) 1 [.dat (.int i)] m = .ok (.dat (.bool (decide (0 ≤ i)))) m := by
  rw [call_eq P_is_number rfl]
  simp [d_is_number, is_integer_ok, isI]
theorem is_below_int (i j : Int) : callN L P (n + 3) 2 [.dat (.int i), .dat (.int j)] m = .ok (.dat (.bool (decide (0 ≤ i) && decide (i < j)))) m := by
  rw [call_eq P_is_below rfl]
  simp [d_is_below, is_number_int]
  by_cases h : 0 ≤ i <;> simp [h]
def iD (l : List Nat) : List PyData := l.map fun (x : Nat) => .int (x : Int)
def tI (l : List Nat) : PyData := .tuple (iD l)
def mkS (t : Bool) (xs : List PyData) : PyData := if t then .tuple xs else .list xs
@[simp] theorem iD_len (l : List Nat) : (iD l).length = l.length := by unfold iD; rw [List.length_map]
theorem is_sequence_S (t : Bool) (xs : List PyData) : callN L P (n + 1) 4 [.dat (mkS t xs)] m = .ok (.dat (.bool true)) m := by
  rw [call_eq P_is_sequence rfl]
  cases t <;> simp [d_is_sequence, mkS]
@[simp] theorem len_S (t : Bool) (xs : List PyData) : b1Val .len (mkS t xs) = some (.int xs.length) := by cases t <;> rfl
@[simp] theorem tup_S (t : Bool) (xs : List PyData) : b1Val .tuple (mkS t xs) = some (.tuple xs) := by cases t <;> rfl
@[simp] theorem lst_S (t : Bool) (xs : List PyData) : b1Val .list (mkS t xs) = some (.list xs) := by cases t <;> rfl
@[simp] theorem seq_S (t : Bool) (xs : List PyData) (m : Mem) : seqU (.dat (mkS t xs)) m = .ok xs m := by cases t <;> rfl
@[simp] theorem ix_S (t : Bool) (xs : List PyData) (i : Int) : ixVal (mkS t xs) (.int i) = L2.atI xs i := by cases t <;> rfl
@[simp] theorem len_T (xs : List PyData) : b1Val .len (.tuple xs) = some (.int xs.length) := rfl
@[simp] theorem len_L (xs : List PyData) : b1Val .len (.list xs) = some (.int xs.length) := rfl
@[simp] theorem tup_L (xs : List PyData) : b1Val .tuple (.list xs) = some (.tuple xs) := rfl
@[simp] theorem tup_T (xs : List PyData) : b1Val .tuple (.tuple xs) = some (.tuple xs) := rfl
@[simp] theorem ix_T (xs : List PyData) (i : Int) : ixVal (.tuple xs) (.int i) = L2.atI xs i := rfl
@[simp] theorem ix_L (xs : List PyData) (i : Int) : ixVal (.list xs) (.int i) = L2.atI xs i := rfl
theorem atI_nat {xs : List PyData} {i : Nat} {d : PyData} (h : xs[i]? = some d) : L2.atI xs (i : Int) = some d := by
  have hi := (List.getElem?_eq_some_iff.mp h).1
  unfold L2.atI L2.ixN
  rw [if_pos (by omega), if_pos (by omega)]
  simpa using h
@[simp] theorem atI_0 (d : PyData) (xs : List PyData) : L2.atI (d :: xs) 0 = some d := atI_nat (i := 0) rfl
@[simp] theorem atI_1 (c d : PyData) (xs : List PyData) : L2.atI (c :: d :: xs) 1 = some d := atI_nat (i := 1) rfl
theorem asBools_rep (k : Nat) : asBools (List.replicate k (PyData.bool true)) = some (List.replicate k true) := by
  induction k with
  | zero => rfl
  | succ k ih => rw [List.replicate_succ]; simp [asBools, ih, List.replicate_succ]
theorem all_true {α : Type} (l : List α) : b1Val .all (.list (l.map fun _ => PyData.bool true)) = some (.bool true) := by
  rw [List.map_const']
  simp [b1Val, asBools_rep]
theorem all_comp {C : Calls} {elt e : E} {σ : Eng.Env} {i : Nat} {own : List (Str × Nat)} {ds : List PyData} (hI : evE C e σ m = .ok (.dat d) m) (hs : seqU (.dat d) m = .ok ds m) (hl : ds.length ≤ 1000)
    (hi : ∀ x ∈ ds, ∃ σ', asgTg (.nm i) x (wipeE σ (own.map (·.2))) = some σ' ∧ evE C elt σ' m = .ok (.dat (.bool true)) m) : evE C (.comp elt (.nm i) (.seq e) .no own) σ m = .ok (.dat (.list (ds.map fun _ => .bool true))) m := by
  refine ev_comp (ds := ds) (m1 := m) (by rw [it_seq, hI, R.bind_ok, hs]) (small1001 hl) (compGo_pure fun x hx => ?_)
  obtain ⟨σ', h1, h2⟩ := hi x hx
  exact ⟨σ', h1, by rw [h2]; rfl⟩
theorem are_below_S (t : Bool) (xs : List Nat) (b : Nat) (hl : xs.length ≤ 1000) (h : ∀ x ∈ xs, x < b) : callN L P (n + 4) 8 [.dat (mkS t (iD xs)), .dat (.int b)] m = .ok (.dat (.bool true)) m := by
  rw [call_eq P_are_below rfl]
  have key : evE (callN L P (n + 3)) c_are_below_1 [.v (.dat (mkS t (iD xs))), .v (.dat (.int b)), .no] m = .ok (.dat (.list ((iD xs).map fun _ => .bool true))) m := by
    refine all_comp (d := mkS t (iD xs)) rfl (seq_S _ _ _) (by simpa using hl) fun d hd => ?_
    obtain ⟨x, hx, rfl⟩ := List.mem_map.mp hd
    have := h x hx
    refine ⟨_, rfl, ?_⟩
    simp [e_are_below_1, is_below_int]
    omega
  simp [d_are_below, is_sequence_S, bA_c_are_below_1, key, all_true]
theorem is_map_ok (r : List Nat) (b : Nat) (hl : r.length = b) (hb : b ≤ 1000) (h : ∀ x ∈ r, x < b) : callN L P (n + 5) 10 [.dat (tI r), .dat (.int b)] m = .ok (.dat (.bool true)) m := by
  rw [call_eq P_is_map rfl]
  have k := are_below_S (L := L) (n := n) (m := m) true r b (by omega) h
  simp only [mkS, if_true] at k
  simp [d_is_map, tI, k, hl]
structure MOk (b s : Nat) (rules : List (List Nat)) : Prop where
  sb : s < b
  b8 : b ≤ 8
  ne : rules ≠ []
  l6 : rules.length ≤ 6
  each : ∀ r ∈ rules, r.length = b ∧ ∀ x ∈ r, x < b
def rD (rules : List (List Nat)) : List PyData := rules.map tI
@[simp] theorem rD_len (l : List (List Nat)) : (rD l).length = l.length := by unfold rD; rw [List.length_map]
def mD (t : Bool) (s : Nat) (rules : List (List Nat)) : PyData := mkS t [.int s, .tuple (rD rules)]
theorem are_deeds_ok {b s : Nat} {rules : List (List Nat)} (h : MOk b s rules) : callN L P (n + 6) 11 [.dat (.tuple (rD rules))] m = .ok (.dat (.bool true)) m := by
  obtain ⟨r0, rs, rfl⟩ : ∃ r0 rs, rules = r0 :: rs := by
    cases rules with
    | nil => exact absurd rfl h.ne
    | cons a l => exact ⟨a, l, rfl⟩
  have h0 := h.each r0 List.mem_cons_self
  have hl := h.l6
  have h8 := h.b8
  have hsb := h.sb
  rw [call_eq P_are_deeds rfl]
  have k1 := is_sequence_S (L := L) (n := n + 4) (m := m) true (rD (r0 :: rs))
  have k2 := is_sequence_S (L := L) (n := n + 4) (m := m) true (iD r0)
  simp only [mkS, if_true] at k1 k2
  have e0 : L2.atI (rD (r0 :: rs)) 0 = some (tI r0) := atI_0 _ _
  have key : evE (callN L P (n + 5)) c_are_deeds_1 [.v (.dat (.tuple (rD (r0 :: rs)))), .v (.dat (.int b)), .no] m = .ok (.dat (.list ((rD (r0 :: rs)).map fun _ => .bool true))) m := by
    refine all_comp (d := .tuple (rD (r0 :: rs))) rfl rfl (by simp only [rD_len]; omega) fun d hd => ?_
    obtain ⟨x, hx, rfl⟩ := List.mem_map.mp hd
    have q := h.each x hx
    refine ⟨_, rfl, ?_⟩
    simp [e_are_deeds_1, is_map_ok x b q.1 (by omega) q.2]
  have hl' : ((rs.length : Int) + 1 ≤ 6) := by simp only [List.length_cons] at hl; omega
  have hl1 : (1 : Int) ≤ (rs.length : Int) + 1 := by omega
  have hb1 : (1 : Int) ≤ b := by omega
  have hb8 : (b : Int) ≤ 8 := by omega
  simp [d_are_deeds, k1, k2, e0, tI, h0.1, bA_c_are_deeds_1, key, all_true, hl', hl1, hb1, hb8]
theorem check_machine_ok {b s : Nat} {rules : List (List Nat)} (t : Bool) (h : MOk b s rules) : callN L P (n + 7) 12 [.dat (mD t s rules)] m = .ok (.dat (mD true s rules)) m := by
  obtain ⟨r0, rs, e⟩ : ∃ r0 rs, rules = r0 :: rs := by
    cases rules with
    | nil => exact absurd rfl h.ne
    | cons a l => exact ⟨a, l, rfl⟩
  have h0 := h.each r0 (by rw [e]; exact List.mem_cons_self)
  have hl := h.l6
  have hsb := h.sb
  rw [call_eq P_check_machine rfl]
  have k1 := is_sequence_S (L := L) (n := n + 5) (m := m) t [.int s, .tuple (rD rules)]
  have k2 := are_deeds_ok (L := L) (n := n) (m := m) h
  have k3 := is_below_int (L := L) (n := n + 3) (m := m) s b
  have e0 : L2.atI (rD rules) 0 = some (tI r0) := by rw [e]; exact atI_0 _ _
  have hlt : (s : Int) < b := by omega
  have key : evE (callN L P (n + 6)) c_check_machine_1 [.v (.dat (mkS t [.int s, .tuple (rD rules)])), .no] m = .ok (.dat (.list (rD rules))) m := by
    refine ev_comp (ds := rD rules) (m1 := m) (by simp) (small1001 (by simp only [rD_len]; omega)) ?_
    have := compGo_pure (elt := fun σ m => (evE (callN L P (n + 6)) e_check_machine_1 σ m).quiet) (tg := .nm 1) (σ := [.v (.dat (mkS t [.int s, .tuple (rD rules)])), .no]) (m := m) (f := id) (ds := rD rules) fun d hd => by
      obtain ⟨x, hx, rfl⟩ := List.mem_map.mp hd
      exact ⟨_, rfl, by simp [e_check_machine_1, tI]⟩
    rw [List.map_id] at this
    exact this
  simp [d_check_machine, mD, k1, k2, e0, tI, h0.1, k3, hlt, bA_c_check_machine_1, key, tup_L]
  simp [mkS]
structure COk (cs : List Nat) : Prop where
  ne : 1 ≤ cs.length
  l4 : cs.length ≤ 4
  big : ∀ c ∈ cs, c ≤ 1000
theorem are_counts_ok {cs : List Nat} (t : Bool) (h : COk cs) : callN L P (n + 3) 20 [.dat (mkS t (iD cs))] m = .ok (.dat (.bool true)) m := by
  rw [call_eq P_are_counts rfl]
  have hl := h.l4
  have hn := h.ne
  have key : evE (callN L P (n + 2)) c_are_counts_1 [.v (.dat (mkS t (iD cs))), .no] m = .ok (.dat (.list ((iD cs).map fun _ => .bool true))) m := by
    refine all_comp (d := mkS t (iD cs)) rfl (seq_S _ _ _) (by rw [iD_len]; omega) fun d hd => ?_
    obtain ⟨x, hx, rfl⟩ := List.mem_map.mp hd
    refine ⟨_, rfl, ?_⟩
    simp [e_are_counts_1, is_number_int]
  have h1 : (1 : Int) ≤ cs.length := by omega
  have h2 : (cs.length : Int) ≤ 4 := by omega
  simp [d_are_counts, is_sequence_S, bA_c_are_counts_1, key, all_true, h1, h2]
theorem need_counts_ok {cs : List Nat} (t : Bool) (h : COk cs) : callN L P (n + 4) 21 [.dat (mkS t (iD cs))] m = .ok (.dat (tI cs)) m := by
  rw [call_eq P_need_counts rfl]
  simp [d_need_counts, are_counts_ok t h, tI]
def ext (F : List (List Nat)) (c : Nat) : List (List Nat) := F.flatMap fun v => (List.range (c + 1)).map fun x => v ++ [x]
def vecs (cs : List Nat) : List (List Nat) := cs.foldl ext [[]]
theorem vecs_snoc (cs : List Nat) (c : Nat) : vecs (cs ++ [c]) = ext (vecs cs) c := by unfold vecs; rw [List.foldl_append]; rfl
def prod1 (cs : List Nat) : Nat := (cs.map (· + 1)).foldl (· * ·) 1
theorem prod1_snoc (cs : List Nat) (c : Nat) : prod1 (cs ++ [c]) = prod1 cs * (c + 1) := by unfold prod1; rw [List.map_append, List.foldl_append]; rfl
theorem ext_len (F : List (List Nat)) (c : Nat) : (ext F c).length = F.length * (c + 1) := by
  unfold ext
  induction F with
  | nil => simp
  | cons v F ih => rw [List.flatMap_cons, List.length_append, ih]; simp [Nat.add_mul]; omega
theorem take_snoc {α : Type} {l : List α} {i : Nat} {x : α} (h : l[i]? = some x) : l.take (i + 1) = l.take i ++ [x] := by
  rw [List.take_add_one, h]; rfl
theorem vecs_len (cs : List Nat) : (vecs cs).length = prod1 cs := by
  have : ∀ i, i ≤ cs.length → (vecs (cs.take i)).length = prod1 (cs.take i) := fun i => by
    induction i with
    | zero => intro _; rfl
    | succ i ih =>
      intro hi
      have hx := List.getElem?_eq_getElem (show i < cs.length by omega)
      rw [take_snoc hx, vecs_snoc, ext_len, prod1_snoc, ih (by omega)]
  have := this cs.length (Nat.le_refl _)
  rwa [List.take_length] at this
theorem prod1_take (cs : List Nat) (i : Nat) : prod1 (cs.take i) ≤ prod1 cs := by
  have : ∀ k i, cs.length - i = k → prod1 (cs.take i) ≤ prod1 cs := fun k => by
    induction k with
    | zero => intro i hi; rw [List.take_of_length_le (by omega)]; exact Nat.le_refl _
    | succ k ih =>
      intro i hi
      have hx := List.getElem?_eq_getElem (show i < cs.length by omega)
      have := ih (i + 1) (by omega)
      rw [take_snoc hx, prod1_snoc] at this
      refine Nat.le_trans ?_ this
      exact Nat.le_mul_of_pos_right _ (by omega)
  exact this _ i rfl
theorem comp2_pure {elt : Eng.Env → Mem → R U} {tg tg' : Tg} {it : Eng.Env → Mem → R (List PyData)} {σ : Eng.Env} {F : PyData → List PyData} : ∀ {ds : List PyData}, (∀ d ∈ ds, ∃ σ' es, asgTg tg d σ = some σ' ∧ it σ' m = .ok es m ∧ compGo elt none tg' (wipeE σ' (slotsTg tg')) es m = .ok (F d) m) → comp2Go elt none tg it tg' σ ds m = .ok (ds.flatMap F) m
  | [], _ => rfl
  | d :: ds, h => by
    obtain ⟨σ', es, h1, h2, h3⟩ := h d List.mem_cons_self
    unfold comp2Go
    rw [h1]
    simp only [h2, R.bind_ok, h3, comp2_pure fun e he => h e (List.mem_cons_of_mem _ he), List.flatMap_cons]
theorem rng0 (k : Nat) : rngD 0 k = (List.range k).map fun (x : Nat) => .int (x : Int) := by
  unfold rngD; congr 1; funext i; simp
theorem snoc_ok (v : List Nat) (x : Nat) (h : v.length < 1000) : binVal .add (tI v) (.tuple [.int x]) = some (tI (v ++ [x])) := by
  have hz : v.length + 1 ≤ sizeLine := small1001 h
  unfold tI
  simp only [binVal, iD_len, List.length_singleton]
  rw [if_pos hz]
  simp [iD]
theorem vecs_mem_len {cs : List Nat} : ∀ v ∈ vecs cs, v.length = cs.length := by
  have : ∀ i, i ≤ cs.length → ∀ v ∈ vecs (cs.take i), v.length = i := fun i => by
    induction i with
    | zero => intro _ v hv; simp [vecs] at hv; rw [hv]; rfl
    | succ i ih =>
      intro hi v hv
      have hx := List.getElem?_eq_getElem (show i < cs.length by omega)
      rw [take_snoc hx, vecs_snoc] at hv
      unfold ext at hv
      obtain ⟨w, hw, hv⟩ := List.mem_flatMap.mp hv
      obtain ⟨x, _, rfl⟩ := List.mem_map.mp hv
      rw [List.length_append, ih (by omega) w hw]; rfl
  have := this cs.length (Nat.le_refl _)
  rwa [List.take_length] at this
theorem flatMap_congr' {α β : Type} {f g : α → List β} : ∀ {l : List α}, (∀ x ∈ l, f x = g x) → l.flatMap f = l.flatMap g
  | [], _ => rfl
  | x :: l, h => by rw [List.flatMap_cons, List.flatMap_cons, h x List.mem_cons_self, flatMap_congr' fun y hy => h y (List.mem_cons_of_mem _ hy)]
theorem rng1_nat {k : Nat} (h : k ≤ 100000) : rng1U (k : Int) m = .ok (rngD 0 k) m := by
  unfold rng1U
  rw [if_pos ⟨by omega, by omega⟩, Int.toNat_natCast]
theorem rng1_succ {c : Nat} (h : c ≤ 10000) : rng1U ((c : Int) + 1) m = .ok (rngD 0 (c + 1)) m := by
  have e : ((c : Int) + 1) = ((c + 1 : Nat) : Int) := by omega
  rw [e, rng1_nat (by omega)]
theorem iD_get {cs : List Nat} {i : Nat} {d : PyData} (h : (iD cs)[i]? = some d) : ∃ x : Nat, cs[i]? = some x ∧ d = .int x := by
  unfold iD at h
  rw [List.getElem?_map, Option.map_eq_some_iff] at h
  obtain ⟨x, h1, h2⟩ := h
  exact ⟨x, h1, h2.symm⟩
theorem vectors_comp {C : Calls} {cs : List Nat} {i c : Nat} {u : U} (hl4 : cs.length ≤ 4) (hp : prod1 cs ≤ 1000) (hc : cs[i]? = some c) (hb : c ≤ 1000) :
    evE C c_vectors_1 [.v u, .v (.dat (.list ((vecs (cs.take i)).map tI))), .v (.dat (.int c)), .no, .no] m = .ok (.dat (.list ((vecs (cs.take (i + 1))).map tI))) m := by
  have hi : i < cs.length := (List.getElem?_eq_some_iff.mp hc).1
  have hlen : (vecs (cs.take (i + 1))).length ≤ 1000 := by rw [vecs_len]; exact Nat.le_trans (prod1_take cs _) hp
  have hlen0 : (vecs (cs.take i)).length ≤ 1000 := by rw [vecs_len]; exact Nat.le_trans (prod1_take cs _) hp
  have hv1 : ∀ v ∈ vecs (cs.take i), v.length < 1000 := fun v hv => by
    rw [vecs_mem_len v hv, List.length_take]; omega
  have hF : (vecs (cs.take (i + 1))).map tI = ((vecs (cs.take i)).map tI).flatMap fun d => (rngD 0 (c + 1)).map fun x => ((binVal .add d (.tuple [x])).getD .none) := by
    rw [take_snoc hc, vecs_snoc]
    unfold ext
    rw [List.map_flatMap, List.flatMap_map]
    refine flatMap_congr' fun v hv => ?_
    rw [rng0, List.map_map, List.map_map]
    refine List.map_congr_left fun x _ => ?_
    simp [snoc_ok v x (hv1 v hv)]
  refine ev_comp2 (ds := (vecs (cs.take i)).map tI) (m1 := m) (by simp) (small1001 (by rw [List.length_map]; exact hlen0)) (small1001 (by rw [List.length_map]; exact hlen)) ?_
  rw [hF]
  refine comp2_pure fun d hd => ?_
  obtain ⟨v, hv, rfl⟩ := List.mem_map.mp hd
  refine ⟨[.v u, .v (.dat (.list ((vecs (cs.take i)).map tI))), .v (.dat (.int c)), .v (.dat (tI v)), .no], rngD 0 (c + 1), rfl, ?_, compGo_pure fun x hx => ?_⟩
  · have hc' : c ≤ 10000 := Nat.le_trans hb (by decide)
    show (evI C (.rng1 (.bin .add (.var 2) (.cst (.int 1)))) [.v u, .v (.dat (.list ((vecs (cs.take i)).map tI))), .v (.dat (.int c)), .v (.dat (tI v)), .no] m).quiet = _
    simp only [it_rng1, ev_bin, bA_var, bA_cst, ev_var, ev_cst, getV, List.getElem?_cons_zero, List.getElem?_cons_succ, R.bind_ok, d2_dat, bv_addI, R.dat_some, asInt_int]
    rw [rng1_succ hc', R.quiet_ok]
  · rw [rng0] at hx
    obtain ⟨y, _, rfl⟩ := List.mem_map.mp hx
    refine ⟨[.v u, .v (.dat (.list ((vecs (cs.take i)).map tI))), .v (.dat (.int c)), .v (.dat (tI v)), .v (.dat (.int y))], rfl, ?_⟩
    simp [e_vectors_1, snoc_ok v y (hv1 v hv)]
theorem vectors_ok {cs : List Nat} (t : Bool) (h : COk cs) (hp : prod1 cs ≤ 1000) : callN L P (n + 5) 22 [.dat (mkS t (iD cs))] m = .ok (.dat (.tuple ((vecs cs).map tI))) m := by
  rw [call_eq P_vectors rfl]
  have loop : ∃ s2, evS L (callN L P (n + 4)) l_vectors_1 [.v (.dat (mkS t (iD cs))), .v (.dat (.list [.tuple []])), .no, .no, .no] m = .ok (.nx, [.v (.dat (mkS t (iD cs))), .v (.dat (.list ((vecs cs).map tI))), s2, .no, .no]) m := by
    have := forGo_inv (body := fun σ m => evSs L (callN L P (n + 4)) b_vectors_1 σ m) (tg := .nm 2) (iD cs) (fun i σ m' => m' = m ∧ ∃ s2, σ = [.v (.dat (mkS t (iD cs))), .v (.dat (.list ((vecs (cs.take i)).map tI))), s2, .no, .no])
      (fun i d σ m' hd ⟨hm, s2, hσ⟩ => by
        subst hm hσ
        obtain ⟨c, hc, rfl⟩ := iD_get hd
        refine ⟨_, [.v (.dat (mkS t (iD cs))), .v (.dat (.list ((vecs (cs.take (i + 1))).map tI))), .v (.dat (.int c)), .no, .no], _, rfl, ?_, rfl, _, rfl⟩
        simp [b_vectors_1, vectors_comp h.l4 hp hc (h.big c (List.mem_of_getElem? hc))])
      (m := m) (σ := [.v (.dat (mkS t (iD cs))), .v (.dat (.list [.tuple []])), .no, .no, .no]) ⟨rfl, .no, rfl⟩
    obtain ⟨σ', m', h1, rfl, s2, rfl⟩ := this
    rw [iD_len, List.take_length] at h1
    refine ⟨s2, ?_⟩
    show evS L _ (.for_ _ _ _) _ _ = _
    simp only [s_forE, it_seq, ev_call, ev_cons, ev_nil, ev_var, getV, List.getElem?_cons_zero, R.bind_ok, need_counts_ok t h, tI, seqU_tuple]
    exact h1
  obtain ⟨s2, loop⟩ := loop
  simp [d_vectors, loop]
def InV (cs v : List Nat) : Prop := v.length = cs.length ∧ ∀ (i : Nat) (x c : Nat), v[i]? = some x → cs[i]? = some c → x ≤ c
def place (cs v : List Nat) : Nat := (v.zip cs).foldl (fun f p => f * (p.2 + 1) + p.1) 0
theorem zipD_get {v cs : List Nat} {i : Nat} {d : PyData} (h : (zipD (iD v) (iD cs))[i]? = some d) : ∃ x c : Nat, v[i]? = some x ∧ cs[i]? = some c ∧ d = .tuple [.int x, .int c] := by
  obtain ⟨a, b, h1, h2, rfl⟩ := Eng.zip_get h
  obtain ⟨x, h3, rfl⟩ := iD_get h1
  obtain ⟨c, h4, rfl⟩ := iD_get h2
  exact ⟨x, c, h3, h4, rfl⟩
theorem is_vector_ok {cs v : List Nat} (h : COk cs) (hv : InV cs v) : callN L P (n + 4) 23 [.dat (tI cs), .dat (tI v)] m = .ok (.dat (.bool true)) m := by
  rw [call_eq P_is_vector rfl]
  have hl4 := h.l4
  have k1 := is_sequence_S (L := L) (n := n + 2) (m := m) true (iD v)
  simp only [mkS, if_true] at k1
  have key : evE (callN L P (n + 3)) c_is_vector_1 [.v (.dat (.tuple (iD cs))), .v (.dat (.tuple (iD v))), .no, .no] m = .ok (.dat (.list ((zipD (iD v) (iD cs)).map fun _ => .bool true))) m := by
    refine ev_comp (ds := zipD (iD v) (iD cs)) (m1 := m) (by simp) (small1001 (by rw [zip_len, iD_len, iD_len]; omega)) (compGo_pure fun d hd => ?_)
    obtain ⟨i, hi⟩ := List.mem_iff_getElem?.mp hd
    obtain ⟨x, c, h1, h2, rfl⟩ := zipD_get hi
    have := hv.2 i x c h1 h2
    refine ⟨_, rfl, ?_⟩
    simp [e_is_vector_1, is_below_int]
    omega
  have he : ¬ ((v.length : Int) ≠ cs.length) := by rw [hv.1]; simp
  simp [d_is_vector, k1, tI, hv.1, bA_c_is_vector_1, key, all_true]
theorem place_ok {cs v : List Nat} (h : COk cs) (hv : InV cs v) : callN L P (n + 5) 24 [.dat (tI cs), .dat (tI v)] m = .ok (.dat (.int (place cs v))) m := by
  rw [call_eq P_place_of rfl]
  have k0 := need_counts_ok (L := L) (n := n) (m := m) true h
  simp only [mkS, if_true] at k0
  have k1 := is_vector_ok (L := L) (n := n) (m := m) h hv
  have loop : ∃ s4 s5, evS L (callN L P (n + 4)) l_place_of_1 [.v (.dat (.tuple (iD cs))), .v (.dat (.tuple (iD v))), .v (.dat (.tuple (iD cs))), .v (.dat (.int 0)), .no, .no] m = .ok (.nx, [.v (.dat (.tuple (iD cs))), .v (.dat (.tuple (iD v))), .v (.dat (.tuple (iD cs))), .v (.dat (.int (place cs v))), s4, s5]) m := by
    have := forGo_inv (body := fun σ m => evSs L (callN L P (n + 4)) b_place_of_1 σ m) (tg := .tp [.nm 4, .nm 5]) (zipD (iD v) (iD cs)) (fun i σ m' => m' = m ∧ ∃ s4 s5, σ = [.v (.dat (.tuple (iD cs))), .v (.dat (.tuple (iD v))), .v (.dat (.tuple (iD cs))), .v (.dat (.int (((v.zip cs).take i).foldl (fun f p => f * (p.2 + 1) + p.1) 0 : Nat))), s4, s5])
      (fun i d σ m' hd ⟨hm, s4, s5, hσ⟩ => by
        subst hm hσ
        obtain ⟨x, c, h1, h2, rfl⟩ := zipD_get hd
        have hz : (v.zip cs)[i]? = some (x, c) := by rw [List.getElem?_zip_eq_some]; exact ⟨h1, h2⟩
        have hb := h.big c (List.mem_of_getElem? h2)
        refine ⟨_, [.v (.dat (.tuple (iD cs))), .v (.dat (.tuple (iD v))), .v (.dat (.tuple (iD cs))), .v (.dat (.int (((v.zip cs).take (i + 1)).foldl (fun f p => f * (p.2 + 1) + p.1) 0 : Nat))), .v (.dat (.int x)), .v (.dat (.int c))], _, rfl, ?_, rfl, _, _, rfl⟩
        rw [take_snoc hz, List.foldl_append]
        generalize List.foldl (fun f (p : Nat × Nat) => f * (p.2 + 1) + p.1) 0 ((v.zip cs).take i) = f
        have hm : L2.CMul (f : Int) ((c : Int) + 1) := .inr ⟨by omega, by omega⟩
        simp [b_place_of_1, bv_mulI hm])
      (m := m) (σ := [.v (.dat (.tuple (iD cs))), .v (.dat (.tuple (iD v))), .v (.dat (.tuple (iD cs))), .v (.dat (.int 0)), .no, .no]) ⟨rfl, .no, .no, rfl⟩
    obtain ⟨σ', m', h1, rfl, s4, s5, rfl⟩ := this
    rw [zip_len, iD_len, iD_len, ← List.length_zip, List.take_length] at h1
    refine ⟨s4, s5, ?_⟩
    show evS L _ (.for_ _ _ _) _ _ = _
    simp only [s_forE, it_zip, ev_var, getV, List.getElem?_cons_zero, List.getElem?_cons_succ, R.bind_ok, zipU_tuple]
    exact h1
  obtain ⟨s4, s5, loop⟩ := loop
  simp only [tI] at k0 k1
  simp [d_place_of, tI, k0, k1, loop]
theorem ext_get {c x : Nat} (hx : x ≤ c) : ∀ {F : List (List Nat)} {p : Nat} {w : List Nat}, F[p]? = some w → (ext F c)[p * (c + 1) + x]? = some (w ++ [x])
  | [], p, w, h => by simp at h
  | v :: F, 0, w, h => by
    simp at h; subst h
    unfold ext
    rw [Nat.zero_mul, Nat.zero_add, List.flatMap_cons, List.getElem?_append_left (by simp; omega), List.getElem?_map, List.getElem?_range (by omega)]
    rfl
  | v :: F, p + 1, w, h => by
    simp at h
    have ih := ext_get hx h
    unfold ext at ih ⊢
    rw [List.flatMap_cons, List.getElem?_append_right (by simp; rw [Nat.add_mul]; omega)]
    have : (p + 1) * (c + 1) + x - ((List.range (c + 1)).map fun x => v ++ [x]).length = p * (c + 1) + x := by simp; rw [Nat.add_mul]; omega
    rw [this]; exact ih
theorem place_get {cs v : List Nat} (hv : InV cs v) : (vecs cs)[place cs v]? = some v := by
  have : ∀ i, i ≤ cs.length → (vecs (cs.take i))[((v.zip cs).take i).foldl (fun f p => f * (p.2 + 1) + p.1) 0]? = some (v.take i) := fun i => by
    induction i with
    | zero => intro _; simp [vecs]
    | succ i ih =>
      intro hi
      have hc := List.getElem?_eq_getElem (show i < cs.length by omega)
      have hx := List.getElem?_eq_getElem (show i < v.length by rw [hv.1]; omega)
      have hz : (v.zip cs)[i]? = some (v[i]'(by rw [hv.1]; omega), cs[i]'(by omega)) := by rw [List.getElem?_zip_eq_some]; exact ⟨hx, hc⟩
      rw [take_snoc hz, List.foldl_append, take_snoc hc, vecs_snoc, take_snoc hx]
      exact ext_get (hv.2 i _ _ hx hc) (ih (by omega))
  have := this cs.length (Nat.le_refl _)
  rw [List.take_length, List.take_of_length_le (by rw [List.length_zip, hv.1]; omega), List.take_of_length_le (by rw [hv.1]; exact Nat.le_refl _)] at this
  exact this
theorem vecs_in {cs v : List Nat} (h : v ∈ vecs cs) : InV cs v := by
  have : ∀ i, i ≤ cs.length → ∀ v ∈ vecs (cs.take i), ∀ (j : Nat) (x c : Nat), v[j]? = some x → cs[j]? = some c → x ≤ c := fun i => by
    induction i with
    | zero => intro _ v hv; simp [vecs] at hv; subst hv; intro j x c h; simp at h
    | succ i ih =>
      intro hi v hv j x c hx hc
      have hcc := List.getElem?_eq_getElem (show i < cs.length by omega)
      rw [take_snoc hcc, vecs_snoc] at hv
      unfold ext at hv
      obtain ⟨w, hw, hv⟩ := List.mem_flatMap.mp hv
      obtain ⟨y, hy, rfl⟩ := List.mem_map.mp hv
      have hwl : w.length = i := by have := vecs_mem_len w hw; rw [this, List.length_take]; omega
      by_cases hj : j < i
      · rw [List.getElem?_append_left (by omega)] at hx
        exact ih (by omega) w hw j x c hx hc
      · have hji : j = i := by
          have := (List.getElem?_eq_some_iff.mp hx).1
          rw [List.length_append, List.length_singleton] at this; omega
        subst hji
        rw [List.getElem?_append_right (by omega), hwl] at hx
        simp at hx
        rw [hcc] at hc
        simp at hc
        rw [List.mem_range] at hy
        omega
  have h2 := this cs.length (Nat.le_refl _)
  rw [List.take_length] at h2
  exact ⟨vecs_mem_len v h, h2 v h⟩
structure TOk (cs bs : List Nat) (b : Nat) : Prop where
  c : COk cs
  len : bs.length = prod1 cs
  small : prod1 cs ≤ 1000
  lt : ∀ x ∈ bs, x < b
def tD (t t1 : Bool) (cs bs : List Nat) : PyData := mkS t [mkS t1 (iD cs), mkS t1 (iD bs)]
theorem pick_ok {cs bs v : List Nat} {f : List Nat → Nat} (hb : bs = (vecs cs).map f) (hv : InV cs v) : L2.atI (iD bs) (place cs v) = some (.int (f v)) := by
  refine atI_nat ?_
  rw [hb]
  unfold iD
  rw [List.getElem?_map, List.getElem?_map, place_get hv]; rfl
def bump (cs : List Nat) (a : Nat) : List Nat := cs.set a (cs.getD a 0 + 1)
def drop1 (cs : List Nat) (a : Nat) : List Nat := cs.set a (cs.getD a 0 - 1)
theorem enum_map_set (cs : List Nat) (a : Nat) (g : Nat → Nat) : ∀ k, (enumD k (iD cs)).map (fun d => match d with
      | .tuple [.int i, .int x] => if i = ((k + a : Nat) : Int) then .int (g x.toNat : Nat) else .int x
      | _ => .none) = iD (cs.set a (g (cs.getD a 0))) := by
  induction cs generalizing a with
  | nil => intro k; rfl
  | cons c cs ih =>
    intro k
    cases a with
    | zero =>
      show (_ :: _ : List PyData) = .int _ :: _
      congr 1
      · simp
      · have : ∀ (j : Nat), k < j → (enumD j (iD cs)).map (fun d => match d with
          | .tuple [.int i, .int x] => if i = ((k + 0 : Nat) : Int) then .int (g x.toNat : Nat) else .int x
          | _ => .none) = iD cs := by
          clear ih
          induction cs with
          | nil => intro j _; rfl
          | cons d cs ih =>
            intro j hj
            show (_ :: _ : List PyData) = .int _ :: _
            congr 1
            · simp; omega
            · exact ih (j + 1) (by omega)
        exact this (k + 1) (by omega)
    | succ a =>
      show (_ :: _ : List PyData) = .int _ :: _
      congr 1
      · simp; omega
      · have := ih a (k + 1)
        rw [show k + 1 + a = k + (a + 1) by omega] at this
        exact this
theorem enum_D {cs : List Nat} {d : PyData} (h : d ∈ enumD 0 (iD cs)) : ∃ j x : Nat, cs[j]? = some x ∧ d = .tuple [.int j, .int x] := by
  obtain ⟨j, hj⟩ := List.mem_iff_getElem?.mp h
  obtain ⟨y, h1, rfl⟩ := Eng.enum_get hj
  obtain ⟨x, h2, rfl⟩ := iD_get h1
  exact ⟨j, x, h2, by simp⟩
theorem getD_of {cs : List Nat} {a x : Nat} (h : cs[a]? = some x) : cs.getD a 0 = x := by rw [List.getD_eq_getElem?_getD, h]; rfl
theorem grown_comp {C : Calls} {cs bs : List Nat} {a x : Nat} {u : U} {s3 : Sl} (ha : cs[a]? = some x) (hl : cs.length ≤ 4) : evE C c_grown_1 [.v u, .v (.dat (tD true true cs bs)), .v (.dat (.int a)), s3, .no, .no, .no, .no, .no, .no, .no] m = .ok (.dat (.list (iD (bump cs a)))) m := by
  refine ev_comp (ds := enumD 0 (iD cs)) (m1 := m) (by simp [tD, mkS, enumU]) (small1001 (by rw [enum_len, iD_len]; omega)) ?_
  have e := enum_map_set cs a (· + 1) 0
  rw [getD_of ha] at e
  have e2 : bump cs a = cs.set a (x + 1) := by unfold bump; rw [getD_of ha]
  rw [e2, ← e]
  refine compGo_pure fun d hd => ?_
  obtain ⟨j, y, h1, rfl⟩ := enum_D hd
  refine ⟨_, rfl, ?_⟩
  by_cases hj : j = a
  · subst hj
    rw [ha] at h1; cases h1
    simp [e_grown_1]
  · have : ¬ ((j : Int) = a) := by omega
    simp [e_grown_1, this]
theorem app_ok {σ : Eng.Env} {i : Nat} {xs : List PyData} {d : PyData} (h : xs.length < sizeLine) : appGo σ i xs (.dat d) m = .ok (.nx, σ.set i (.own (xs ++ [d]))) m := if_pos h
def stepR (rules : List (List Nat)) (d b : Nat) : Nat := (rules.getD d []).getD b 0
def grow (f : List Nat → Nat) (rules : List (List Nat)) (cs' : List Nat) (a d : Nat) (w : List Nat) : Nat := if w.getD a 0 < cs'.getD a 0 then f w else stepR rules d (f (w.set a (w.getD a 0 - 1)))
theorem iD_at {v : List Nat} {a : Nat} (h : a < v.length) : L2.atI (iD v) (a : Int) = some (.int (v.getD a 0 : Nat)) := by
  refine atI_nat ?_
  unfold iD
  rw [List.getElem?_map, List.getElem?_eq_getElem h]
  simp [List.getD_eq_getElem?_getD, List.getElem?_eq_getElem h]
theorem cut_lo {v : List Nat} {a : Nat} (h : a ≤ v.length) : slVal (tI v) none (some (a : Int)) = some (tI (v.take a)) := by
  show some (PyData.tuple (Eng.cutD (iD v) none (some (a : Int)))) = some (.tuple (iD (v.take a)))
  unfold Eng.cutD
  rw [HT.sIx_none, HT.sIx_nat, iD_len, Nat.min_eq_left h]
  simp [iD, List.map_take]
theorem cut_hi {v : List Nat} {a : Nat} (h : a ≤ v.length) : slVal (tI v) (some (a : Int)) none = some (tI (v.drop a)) := by
  show some (PyData.tuple (Eng.cutD (iD v) (some (a : Int)) none)) = some (.tuple (iD (v.drop a)))
  unfold Eng.cutD
  rw [HT.sIx_none, HT.sIx_nat, iD_len, Nat.min_eq_left h]
  have : (v.drop a).length = v.length - a := List.length_drop ..
  have e : List.take (v.length - a) (List.drop a (iD v)) = iD (v.drop a) := by
    unfold iD
    rw [← List.map_drop, ← List.map_take, List.take_of_length_le (by rw [this]; exact Nat.le_refl _)]
  rw [e]
theorem cat_ok {v w : List Nat} (h : v.length + w.length ≤ 1000) : binVal .add (tI v) (tI w) = some (tI (v ++ w)) := by
  have hz : v.length + w.length ≤ sizeLine := small1001 h
  unfold tI
  simp only [binVal, iD_len]
  rw [if_pos hz]
  simp [iD]
theorem less_set {w : List Nat} {a y : Nat} (h : a < w.length) : w.take a ++ [y] ++ w.drop (a + 1) = w.set a y := by
  rw [List.set_eq_take_append_cons_drop, if_pos h, List.append_assoc]; rfl
theorem bump_len (cs : List Nat) (a : Nat) : (bump cs a).length = cs.length := by unfold bump; rw [List.length_set]
theorem bump_get {cs : List Nat} {a i c : Nat} (h : (bump cs a)[i]? = some c) : ∃ c0, cs[i]? = some c0 ∧ c = if i = a then c0 + 1 else c0 := by
  unfold bump at h
  rw [List.getElem?_set] at h
  by_cases hi : a = i
  · subst hi
    rw [if_pos rfl] at h
    split at h
    · cases h
      rename_i hl
      have := List.getElem?_eq_getElem hl
      exact ⟨_, this, by rw [if_pos rfl, getD_of this]⟩
    · cases h
  · rw [if_neg hi] at h
    exact ⟨c, h, by rw [if_neg (Ne.symm hi)]⟩
theorem in_lt {cs w : List Nat} {a : Nat} (hw : InV (bump cs a) w) (h : w.getD a 0 < (bump cs a).getD a 0) : InV cs w := by
  refine ⟨by rw [hw.1, bump_len], fun i x c hx hc => ?_⟩
  have hl : i < (bump cs a).length := by rw [bump_len]; exact (List.getElem?_eq_some_iff.mp hc).1
  have hb := List.getElem?_eq_getElem hl
  have := hw.2 i x _ hx hb
  obtain ⟨c0, h1, h2⟩ := bump_get hb
  rw [hc] at h1; cases h1
  by_cases hi : i = a
  · subst hi
    rw [getD_of hx, getD_of hb] at h
    rw [if_pos rfl] at h2
    omega
  · rw [if_neg hi] at h2; omega
theorem in_less {cs w : List Nat} {a : Nat} (hw : InV (bump cs a) w) : InV cs (w.set a (w.getD a 0 - 1)) := by
  refine ⟨by rw [List.length_set, hw.1, bump_len], fun i x c hx hc => ?_⟩
  have hl : i < (bump cs a).length := by rw [bump_len]; exact (List.getElem?_eq_some_iff.mp hc).1
  have hb := List.getElem?_eq_getElem hl
  obtain ⟨c0, h1, h2⟩ := bump_get hb
  rw [hc] at h1; cases h1
  rw [List.getElem?_set] at hx
  by_cases hi : a = i
  · subst hi
    rw [if_pos rfl] at hx
    split at hx
    · rename_i hwl
      cases hx
      have hwx := List.getElem?_eq_getElem hwl
      have := hw.2 a _ _ hwx hb
      rw [if_pos rfl] at h2
      rw [getD_of hwx]; omega
    · cases hx
  · rw [if_neg hi] at hx
    have := hw.2 i x _ hx hb
    rw [if_neg (Ne.symm hi)] at h2; omega
theorem grown_ok {b s : Nat} {rules : List (List Nat)} {cs bs : List Nat} {f : List Nat → Nat} {a d : Nat} (hm : MOk b s rules) (h : TOk cs bs b) (hb : bs = (vecs cs).map f) (ha : a < cs.length) (hd : d < rules.length) (hc : COk (bump cs a)) (hp : prod1 (bump cs a) ≤ 1000) :
    callN L P (n + 6) 26 [.dat (mD true s rules), .dat (tD true true cs bs), .dat (.int a), .dat (.int d)] m = .ok (.dat (tD true true (bump cs a) ((vecs (bump cs a)).map (grow f rules (bump cs a) a d)))) m := by
  rw [call_eq P_grown rfl]
  have hl4 := h.c.l4
  have hca := List.getElem?_eq_getElem ha
  obtain ⟨r, hr⟩ : ∃ r, rules[d]? = some r := ⟨_, List.getElem?_eq_getElem hd⟩
  have hrm := List.mem_of_getElem? hr
  have key := fun s3 => grown_comp (C := callN L P (n + 5)) (m := m) (bs := bs) (u := .dat (mD true s rules)) (s3 := s3) hca hl4
  have k1 := vectors_ok (L := L) (n := n) (m := m) true hc hp
  simp only [mkS, if_true] at k1
  have er : L2.atI (rD rules) (d : Int) = some (tI r) := atI_nat (by unfold rD; rw [List.getElem?_map, hr]; rfl)
  have loop : ∃ s5 s8, evS L (callN L P (n + 5)) l_grown_1 [.v (.dat (mD true s rules)), .v (.dat (tD true true cs bs)), .v (.dat (.int a)), .v (.dat (.int d)), .v (.dat (tI (bump cs a))), .no, .v (.dat (tI r)), .own [], .no, .no, .no] m
      = .ok (.nx, [.v (.dat (mD true s rules)), .v (.dat (tD true true cs bs)), .v (.dat (.int a)), .v (.dat (.int d)), .v (.dat (tI (bump cs a))), s5, .v (.dat (tI r)), .own (iD ((vecs (bump cs a)).map (grow f rules (bump cs a) a d))), s8, .no, .no]) m := by
    have := forGo_inv (body := fun σ m => evSs L (callN L P (n + 5)) b_grown_1 σ m) (tg := .nm 5) ((vecs (bump cs a)).map tI) (fun i σ m' => m' = m ∧ ∃ s5 s8, σ = [.v (.dat (mD true s rules)), .v (.dat (tD true true cs bs)), .v (.dat (.int a)), .v (.dat (.int d)), .v (.dat (tI (bump cs a))), s5, .v (.dat (tI r)), .own (iD (((vecs (bump cs a)).take i).map (grow f rules (bump cs a) a d))), s8, .no, .no])
      (fun i e σ m' hd' ⟨hmm, s5, s8, hσ⟩ => by
        subst hmm hσ
        rw [List.getElem?_map, Option.map_eq_some_iff] at hd'
        obtain ⟨w, hw, rfl⟩ := hd'
        have hwi := vecs_in (List.mem_of_getElem? hw)
        have hwl : a < w.length := by rw [hwi.1, bump_len]; exact ha
        have hil := (List.getElem?_eq_some_iff.mp hw).1
        have hvl : (vecs (bump cs a)).length ≤ 1000 := by rw [vecs_len]; exact hp
        have hsz : ((vecs (bump cs a)).take i).length < sizeLine := by
          refine Nat.lt_of_lt_of_le ?_ (small1001 (Nat.le_refl 1000))
          rw [List.length_take]; omega
        have hba : a < (bump cs a).length := by rw [bump_len]; exact ha
        have ew := iD_at hwl
        have ec := iD_at hba
        have push : ∀ z : Nat, iD (((vecs (bump cs a)).take i).map (grow f rules (bump cs a) a d)) ++ [.int (z : Int)] = iD ((((vecs (bump cs a)).take i).map (grow f rules (bump cs a) a d)) ++ [z]) := fun z => by unfold iD; rw [List.map_append]; rfl
        by_cases hlt : w.getD a 0 < (bump cs a).getD a 0
        · have hin := in_lt hwi hlt
          have q := place_ok (L := L) (n := n) (m := m') h.c hin
          have q2 := pick_ok hb hin
          refine ⟨[.v (.dat (mD true s rules)), .v (.dat (tD true true cs bs)), .v (.dat (.int a)), .v (.dat (.int d)), .v (.dat (tI (bump cs a))), .v (.dat (tI w)), .v (.dat (tI r)), .own (iD (((vecs (bump cs a)).take i).map (grow f rules (bump cs a) a d))), s8, .no, .no], [.v (.dat (mD true s rules)), .v (.dat (tD true true cs bs)), .v (.dat (.int a)), .v (.dat (.int d)), .v (.dat (tI (bump cs a))), .v (.dat (tI w)), .v (.dat (tI r)), .own (iD (((vecs (bump cs a)).take (i + 1)).map (grow f rules (bump cs a) a d))), s8, .no, .no], _, rfl, ?_, rfl, _, _, rfl⟩
          have eg : grow f rules (bump cs a) a d w = f w := if_pos hlt
          rw [take_snoc hw, List.map_append, List.map_singleton, eg, ← push]
          have hlt' : ((w.getD a 0 : Nat) : Int) < (bump cs a).getD a 0 := by omega
          have e1 : ixVal (tI w) (.int a) = some (.int (w.getD a 0 : Nat)) := ew
          have e2 : ixVal (tI (bump cs a)) (.int a) = some (.int ((bump cs a).getD a 0 : Nat)) := ec
          have e3 : ixVal (tD true true cs bs) (.int 0) = some (tI cs) := rfl
          have e4 : ixVal (tD true true cs bs) (.int 1) = some (.tuple (iD bs)) := rfl
          have hacc : (iD (((vecs (bump cs a)).take i).map (grow f rules (bump cs a) a d))).length < sizeLine := by rw [iD_len, List.length_map]; exact hsz
          clear push
          generalize iD (((vecs (bump cs a)).take i).map (grow f rules (bump cs a) a d)) = acc at hacc
          simp [-List.getD_eq_getElem?_getD, b_grown_1, e1, e2, hlt, e3, e4, q, q2, app_ok hacc]
        · have hin := in_less hwi
          have q := place_ok (L := L) (n := n) (m := m') h.c hin
          have q2 := pick_ok hb hin
          refine ⟨[.v (.dat (mD true s rules)), .v (.dat (tD true true cs bs)), .v (.dat (.int a)), .v (.dat (.int d)), .v (.dat (tI (bump cs a))), .v (.dat (tI w)), .v (.dat (tI r)), .own (iD (((vecs (bump cs a)).take i).map (grow f rules (bump cs a) a d))), s8, .no, .no], [.v (.dat (mD true s rules)), .v (.dat (tD true true cs bs)), .v (.dat (.int a)), .v (.dat (.int d)), .v (.dat (tI (bump cs a))), .v (.dat (tI w)), .v (.dat (tI r)), .own (iD (((vecs (bump cs a)).take (i + 1)).map (grow f rules (bump cs a) a d))), .v (.dat (tI (w.set a (w.getD a 0 - 1)))), .no, .no], _, rfl, ?_, rfl, _, _, rfl⟩
          have eg : grow f rules (bump cs a) a d w = stepR rules d (f (w.set a (w.getD a 0 - 1))) := if_neg hlt
          rw [take_snoc hw, List.map_append, List.map_singleton, eg, ← push]
          have hlt' : ¬ (((w.getD a 0 : Nat) : Int) < (bump cs a).getD a 0) := by omega
          have hpos : 1 ≤ w.getD a 0 := by
            have : (bump cs a).getD a 0 = cs.getD a 0 + 1 := by
              unfold bump
              rw [List.getD_eq_getElem?_getD, List.getElem?_set, if_pos rfl, if_pos ha]; rfl
            omega
          have e1 : ixVal (tI w) (.int a) = some (.int (w.getD a 0 : Nat)) := ew
          have e2 : ixVal (tI (bump cs a)) (.int a) = some (.int ((bump cs a).getD a 0 : Nat)) := ec
          have e3 : ixVal (tD true true cs bs) (.int 0) = some (tI cs) := rfl
          have e4 : ixVal (tD true true cs bs) (.int 1) = some (.tuple (iD bs)) := rfl
          have hacc : (iD (((vecs (bump cs a)).take i).map (grow f rules (bump cs a) a d))).length < sizeLine := by rw [iD_len, List.length_map]; exact hsz
          have hw4 : w.length ≤ 4 := by rw [hwi.1, bump_len]; exact hl4
          have c1 := cut_lo (v := w) (a := a) (by omega)
          have c2 : slVal (tI w) (some ((a : Int) + 1)) none = some (tI (w.drop (a + 1))) := cut_hi (v := w) (a := a + 1) (by omega)
          have c3 : PyData.tuple [.int (((w.getD a 0 : Nat) : Int) - 1)] = tI [w.getD a 0 - 1] := by
            show PyData.tuple [.int (((w.getD a 0 : Nat) : Int) - 1)] = .tuple [.int ((w.getD a 0 - 1 : Nat) : Int)]
            rw [show ((w.getD a 0 - 1 : Nat) : Int) = ((w.getD a 0 : Nat) : Int) - 1 by omega]
          have hlt1 : (w.take a).length ≤ 4 := by rw [List.length_take]; omega
          have hlt2 : (w.drop (a + 1)).length ≤ 4 := by rw [List.length_drop]; omega
          have c4 := cat_ok (v := w.take a) (w := [w.getD a 0 - 1]) (by rw [List.length_singleton]; omega)
          have c5 := cat_ok (v := w.take a ++ [w.getD a 0 - 1]) (w := w.drop (a + 1)) (by rw [List.length_append, List.length_singleton]; omega)
          rw [less_set hwl] at c5
          have hfb : f (w.set a (w.getD a 0 - 1)) < r.length := by
            rw [(hm.each r hrm).1]
            have : f (w.set a (w.getD a 0 - 1)) ∈ bs := by
              rw [hb]
              exact List.mem_map_of_mem (List.mem_of_getElem? (place_get hin))
            exact h.lt _ this
          have e5 : ixVal (tI r) (.int (f (w.set a (w.getD a 0 - 1)))) = some (.int (stepR rules d (f (w.set a (w.getD a 0 - 1))) : Nat)) := by
            have := iD_at hfb
            show L2.atI (iD r) _ = _
            rw [this]
            unfold stepR
            rw [show rules.getD d [] = r by rw [List.getD_eq_getElem?_getD, hr]; rfl]
          clear push
          generalize iD (((vecs (bump cs a)).take i).map (grow f rules (bump cs a) a d)) = acc at hacc
          have e4' : ixVal (.tuple (iD bs)) (.int (place cs (w.set a (w.getD a 0 - 1)))) = some (.int (f (w.set a (w.getD a 0 - 1)) : Nat)) := q2
          simp only [b_grown_1, s_cons, s_ifeE, ev_cmp, ev_ix, bA_ix, bA_var, ev_var, getV, List.getElem?_cons_zero, List.getElem?_cons_succ, R.bind_ok, ixU_dat, e1, e2, R.dat_some, d2_dat, cv_ltI, hlt', decide_false, asB_bool, Bool.false_eq_true, if_false, s_asgE, ev_bin, bA_bin, bA_sl, bA_tup, ev_sl, oA, asInt_int, d1_dat, c1, ev_tup, ev_cons, ev_nil, ev_cst, bA_cst, bv_subI, asTup, datL, Option.map_some, c3, c4, bv_addI, c2, c5]
          simp [-List.getD_eq_getElem?_getD, setE, s_appE, e3, e4, q, e4', e5, app_ok hacc])
      (m := m) (σ := [.v (.dat (mD true s rules)), .v (.dat (tD true true cs bs)), .v (.dat (.int a)), .v (.dat (.int d)), .v (.dat (tI (bump cs a))), .no, .v (.dat (tI r)), .own [], .no, .no, .no]) ⟨rfl, .no, .no, rfl⟩
    obtain ⟨σ', m', h1, rfl, s5, s8, rfl⟩ := this
    rw [List.length_map, List.take_length] at h1
    refine ⟨s5, s8, ?_⟩
    show evS L _ (.for_ _ _ _) _ _ = _
    simp only [s_forE, it_seq, ev_call, ev_cons, ev_nil, ev_var, getV, List.getElem?_cons_zero, List.getElem?_cons_succ, R.bind_ok, tI, k1, seqU_tuple]
    exact h1
  obtain ⟨s5, s8, loop⟩ := loop
  have e1 : ixVal (mD true s rules) (.int 1) = some (.tuple (rD rules)) := rfl
  simp only [tI] at loop er
  simp [d_grown, bA_c_grown_1, key, e1, er, loop]
  simp [tD, mkS]
def Bx (q : Nat) (m : Mem) : Prop := ∃ g s : Int, m[q]? = some (.lst [.int g, .int s])
theorem Bx.set {q : Nat} (h : Bx q m) {g s : Int} : (m.set q (.lst [.int g, .int s]))[q]? = some (.lst [.int g, .int s]) := by
  obtain ⟨_, _, h⟩ := h
  rw [List.getElem?_set, if_pos rfl, if_pos (List.getElem?_eq_some_iff.mp h).1]
theorem ixR0 {q : Nat} {a b : PyData} (h : m[q]? = some (.lst [a, b])) : ixU (.ref q) (.dat (.int 0)) m = .ok (.dat a) m := by
  simp only [ixU, h]; rfl
theorem ixR1 {q : Nat} {a b : PyData} (h : m[q]? = some (.lst [a, b])) : ixU (.ref q) (.dat (.int 1)) m = .ok (.dat b) m := by
  simp only [ixU, h]; rfl
theorem setR0 {q : Nat} {a b d : PyData} {σ : Eng.Env} (h : m[q]? = some (.lst [a, b])) : setMGo σ (.dat d) (.ref q) (.dat (.int 0)) m = .ok (.nx, σ) (m.set q (.lst [d, b])) := by
  simp only [setMGo, h]; rfl
theorem setR1 {q : Nat} {a b d : PyData} {σ : Eng.Env} (h : m[q]? = some (.lst [a, b])) : setMGo σ (.dat d) (.ref q) (.dat (.int 1)) m = .ok (.nx, σ) (m.set q (.lst [a, d])) := by
  simp only [setMGo, h]; rfl
theorem divW {g : Int} {k : Nat} (h : 1 ≤ k) (h2 : k ≤ 8209) : L2.CDivW g k := ⟨by omega, by
  rw [Int.natAbs_natCast]
  exact Nat.lt_of_le_of_lt (Nat.log2_le_self k) (by omega)⟩
theorem mulC (i : Int) {j : Int} (h : 0 ≤ j) (h2 : j < 2 ^ 40) : L2.CMul i j := .inr ⟨by omega, by omega⟩
theorem take_ok2 {q k : Nat} (hB : Bx q m) (hk : 1 ≤ k) (hk2 : k ≤ 8000) : ∃ (r : Nat) (m' : Mem), r < k ∧ callN L P (n + 1) 36 [.ref q, .dat (.int k)] m = .ok (.dat (.int r)) m' ∧ Bx q m' ∧ ∀ j, j ≠ q → m'[j]? = m[j]? := by
  have hB' := hB
  obtain ⟨g, s, hm⟩ := hB'
  have hk0 : (0 : Int) < k := by omega
  by_cases hg : 0 < g
  · refine ⟨(g % k).toNat, m.set q (.lst [.int (g / k), .int s]), ?_, ?_, ⟨g / k, s, hB.set⟩, fun j hj => List.getElem?_set_ne (Ne.symm hj)⟩
    · have h1 := Int.emod_lt_of_pos g hk0
      have h2 := Int.emod_nonneg g (show (k : Int) ≠ 0 by omega)
      omega
    · have h2 := Int.emod_nonneg g (show (k : Int) ≠ 0 by omega)
      have e : ((g % k).toNat : Int) = g % k := by omega
      rw [call_eq P__law_take rfl, e]
      have hk0' : 0 < k := hk
      simp [d__law_take, ixR0 hm, hg, bv_modI hk0, bv_fdivI (divW (g := g) hk (by omega)), setR0 hm]
  · have hx1 := mulC s (j := 39373) (by omega) (by omega)
    generalize hraw : (s * 39373 + 61) % 2147483647 = raw
    have hx2 := mulC raw (j := 40692) (by omega) (by omega)
    have hx3 := mulC raw (j := 2147483629) (by omega) (by omega)
    have b1 : binVal .mod (.int (s * 39373 + 61)) (.int 2147483647) = some (.int raw) := by rw [bv_modI (by omega), hraw]
    have b2 : ∀ z : Int, binVal .mod (.int z) (.int 2147483399) = some (.int (z % 2147483399)) := fun z => bv_modI (by omega)
    generalize hs' : (raw * 40692 + 74) % 2147483399 + 1 = s' at *
    have hm' : (m.set q (.lst [.int g, .int s']))[q]? = some (.lst [.int g, .int s']) := hB.set
    generalize hz : ((raw * 2147483629 + s') / 8209) = z
    have b3 : binVal .fdiv (.int (raw * 2147483629 + s')) (.int 8209) = some (.int z) := by
      have hd : L2.CDivW (raw * 2147483629 + s') 8209 := divW (k := 8209) (by omega) (by omega)
      rw [bv_fdivI hd, hz]
    refine ⟨(z % k).toNat, m.set q (.lst [.int g, .int s']), ?_, ?_, ⟨g, s', hB.set⟩, fun j hj => List.getElem?_set_ne (Ne.symm hj)⟩
    · have h1 := Int.emod_lt_of_pos z hk0
      have h2 := Int.emod_nonneg z (show (k : Int) ≠ 0 by omega)
      omega
    · have h2 := Int.emod_nonneg z (show (k : Int) ≠ 0 by omega)
      have e : ((z % k).toNat : Int) = z % k := by omega
      rw [call_eq P__law_take rfl, e]
      simp [d__law_take, ixR0 hm, ixR1 hm, hg, bv_mulI hx1, bv_mulI hx2, bv_mulI hx3, b1, b2, hs', setR1 hm, ixR1 hm', b3, bv_modI hk0]
theorem take_ok {q k : Nat} (hB : Bx q m) (hk : 1 ≤ k) (hk2 : k ≤ 1000) : ∃ (r : Nat) (m' : Mem), r < k ∧ callN L P (n + 1) 36 [.ref q, .dat (.int k)] m = .ok (.dat (.int r)) m' ∧ Bx q m' := by
  obtain ⟨r, m', h1, h2, h3, _⟩ := take_ok2 (L := L) (n := n) hB hk (by omega)
  exact ⟨r, m', h1, h2, h3⟩
theorem pick_box {q : Nat} {xs : List PyData} (hB : Bx q m) (hn : xs ≠ []) (hl : xs.length ≤ 1000) : ∃ (d : PyData) (m' : Mem), d ∈ xs ∧ callN L P (n + 2) 37 [.ref q, .dat (.list xs)] m = .ok (.dat d) m' ∧ Bx q m' := by
  have hp : 1 ≤ xs.length := by cases xs with | nil => exact absurd rfl hn | cons _ _ => simp
  obtain ⟨r, m', h1, h2, h3⟩ := take_ok (L := L) (n := n) hB hp hl
  refine ⟨xs[r], m', List.getElem_mem h1, ?_, h3⟩
  rw [call_eq P__law_pick rfl]
  have e := atI_nat (List.getElem?_eq_getElem h1)
  simp [d__law_pick, h2, e]
def tailB : Ss := match d__law_box.body with
  | .cons _ (.cons _ t) => t
  | _ => .nil
def s2B : S := match d__law_box.body with
  | .cons _ (.cons s _) => s
  | _ => .pass
theorem box_tail {C : Calls} {u : U} {k : Nat} (hk : k ≤ 1000) (cell : Int) : ∃ g s : Int, (evSs L C tailB [.v u, .v (.dat (.int k)), .v (.dat (.int cell)), .no] m).bind finS = .ok (.ref m.length) (m ++ [.lst [.int g, .int s]]) := by
  have h1 : binVal .pow (.int 10) (.int 18) = some (.int (10 ^ 18)) := bv_powI ⟨by omega, by omega, by decide⟩
  have h2 : ∀ z : Int, binVal .mod (.int z) (.int 2147483563) = some (.int (z % 2147483563)) := fun z => bv_modI (by omega)
  have h3 : ∀ z : Int, binVal .mul (.int z) (.int 40014) = some (.int (z * 40014)) := fun z => bv_mulI (mulC z (by omega) (by omega))
  have h4 : binVal .mul (.int 5323) (.int k) = some (.int (5323 * k)) := bv_mulI (mulC _ (by omega) (by omega))
  refine ⟨if (10 : Int) ^ 18 ≤ cell then cell else 0, (cell % 2147483563 * 40014 + 5323 * k) % 2147483563 + 1, ?_⟩
  by_cases hc : (10 : Int) ^ 18 ≤ cell
  · rw [if_pos hc]
    simp only [show (10 : Int) ^ 18 = 1000000000000000000 from by decide] at hc h1
    simp [tailB, d__law_box, h1, hc, h2, h3, h4, asNew]
  · rw [if_neg hc]
    simp only [show (10 : Int) ^ 18 = 1000000000000000000 from by decide] at hc h1
    simp [tailB, d__law_box, h1, hc, h2, h3, h4, asNew]
theorem box_s2 {C : Calls} {ns : List Int} {k : Nat} (c0 : Int) (hk : k ≤ 1000) (hl : ns.length ≤ 63) : ∃ cell : Int, evS L C s2B [.v (.dat (.list (ns.map .int))), .v (.dat (.int k)), .v (.dat (.int c0)), .no] m = .ok (.nx, [.v (.dat (.list (ns.map .int))), .v (.dat (.int k)), .v (.dat (.int cell)), .no]) m := by
  by_cases h : k < ns.length
  · have e : L2.atI (ns.map PyData.int) (k : Int) = some (.int ns[k]) := atI_nat (by rw [List.getElem?_map, List.getElem?_eq_getElem h]; rfl)
    refine ⟨if ns[k] < 0 then -ns[k] else ns[k], ?_⟩
    simp [s2B, d__law_box, h, e]
  · by_cases h0 : ns = []
    · subst h0
      have hk0 : ¬ ((k : Int) < 0) := by omega
      exact ⟨c0, by simp [s2B, d__law_box, hk0]⟩
    · have hp : 0 < ns.length := List.length_pos_iff.mpr h0
      have hp' : (0 : Int) < ns.length := by omega
      have hi : k % ns.length < ns.length := Nat.mod_lt _ hp
      have e : L2.atI (ns.map PyData.int) ((k : Int) % (ns.length : Int)) = some (.int ns[k % ns.length]) := by
        rw [show (k : Int) % (ns.length : Int) = ((k % ns.length : Nat) : Int) by simp]
        exact atI_nat (by rw [List.getElem?_map, List.getElem?_eq_getElem hi]; rfl)
      have h2 : ∀ z : Int, binVal .mod (.int z) (.int 2147483563) = some (.int (z % 2147483563)) := fun z => bv_modI (by omega)
      have h3 : ∀ z : Int, binVal .mul (.int z) (.int 54001) = some (.int (z * 54001)) := fun z => bv_mulI (mulC z (by omega) (by omega))
      generalize ns[k % ns.length] = y at e
      refine ⟨c0 + (if y < 0 then -y else y) % 2147483563 * 54001, ?_⟩
      simp [s2B, d__law_box, h, hp, bv_modI hp', e, h2, h3]
theorem box_ok {ns : List Int} {k : Nat} (hk : k ≤ 1000) (hl : ns.length ≤ 63) : ∃ m' : Mem, callN L P (n + 1) 35 [.dat (.list (ns.map .int)), .dat (.int k)] m = .ok (.ref m.length) m' ∧ Bx m.length m' := by
  rw [call_eq P__law_box rfl]
  have h4 : binVal .mul (.int 10267) (.int k) = some (.int (10267 * k)) := bv_mulI (mulC _ (by omega) (by omega))
  obtain ⟨cell, h1⟩ := box_s2 (L := L) (C := callN L P n) (m := m) (ns := ns) (10267 * k + 5323) hk hl
  obtain ⟨g, s, h2⟩ := box_tail (L := L) (C := callN L P n) (m := m) (u := .dat (.list (ns.map .int))) hk cell
  refine ⟨m ++ [.lst [.int g, .int s]], ?_, g, s, by simp⟩
  have hb : d__law_box.body = .cons (.asg 2 (.bin .add (.bin .mul (.cst (.int 10267)) (.var 1)) (.cst (.int 5323)))) (.cons s2B tailB) := rfl
  rw [hb]
  have e0 : (([.dat (.list (ns.map .int)), .dat (.int k)] : List U).map Sl.v ++ List.replicate (d__law_box.N.length - ([.dat (.list (ns.map .int)), .dat (.int k)] : List U).length) Sl.no) = [.v (.dat (.list (ns.map .int))), .v (.dat (.int k)), .no, .no] := rfl
  rw [e0]
  simp [h4, h1, h2]
theorem all2_nat {k : Nat} : ∀ {ds xs : List PyData}, All2 (fun _ x => ∃ y : Nat, y < k ∧ x = PyData.int y) ds xs → ∃ r : List Nat, xs = iD r ∧ r.length = ds.length ∧ ∀ y ∈ r, y < k
  | _, _, .nil => ⟨[], rfl, rfl, fun _ h => absurd h (by simp)⟩
  | _, _, .cons ⟨y, h1, h2⟩ h => by
    obtain ⟨r, rfl, h3, h4⟩ := all2_nat h
    refine ⟨y :: r, by rw [h2]; rfl, by simp [h3], fun z hz => ?_⟩
    rcases List.mem_cons.mp hz with e | hz
    · omega
    · exact h4 z hz
theorem rng_len (lo : Int) (k : Nat) : (rngD lo k).length = k := by unfold rngD; simp
abbrev Hi := List (Nat × Nat)
def pD (p : Nat × Nat) : PyData := .tuple [.int p.1, .int p.2]
def hDl (h : Hi) : List PyData := h.map pD
def hD (h : Hi) : PyData := .tuple (hDl h)
@[simp] theorem hDl_len (h : Hi) : (hDl h).length = h.length := by unfold hDl; rw [List.length_map]
def HOk (a R : Nat) (h : Hi) : Prop := ∀ p ∈ h, p.1 < a ∧ p.2 < R
theorem history_ok {q a k : Nat} {s : Nat} {rules : List (List Nat)} (hB : Bx q m) (ha : 1 ≤ a) (ha2 : a ≤ 1000) (hR : 1 ≤ rules.length) (hR2 : rules.length ≤ 1000) (hk : k ≤ 100) :
    ∃ (h : Hi) (m' : Mem), h.length = k ∧ HOk a rules.length h ∧ callN L P (n + 2) 39 [.ref q, .dat (mD true s rules), .dat (.int a), .dat (.int k)] m = .ok (.dat (hD h)) m' ∧ Bx q m' := by
  rw [call_eq P__law_history rfl]
  have := forGo_inv (body := fun σ m => evSs L (callN L P (n + 1)) b__law_history_1 σ m) (tg := .nm 5) (rngD 0 k) (fun i σ m' => i ≤ k ∧ Bx q m' ∧ ∃ (h : Hi) (s5 : Sl), h.length = i ∧ HOk a rules.length h ∧ σ = [.v (.ref q), .v (.dat (mD true s rules)), .v (.dat (.int a)), .v (.dat (.int k)), .own (hDl h), s5])
    (fun i d σ m' hd ⟨hik, hB, h, s5, hl, ho, hσ⟩ => by
      subst hσ
      have hi : i < k := by have := (List.getElem?_eq_some_iff.mp hd).1; rwa [rng_len] at this
      obtain ⟨x, m1, k1, k2, k3⟩ := take_ok (L := L) (n := n) (k := a) hB ha ha2
      obtain ⟨y, m2, k4, k5, k6⟩ := take_ok (L := L) (n := n) (k := rules.length) k3 hR hR2
      refine ⟨_, [.v (.ref q), .v (.dat (mD true s rules)), .v (.dat (.int a)), .v (.dat (.int k)), .own (hDl (h ++ [(x, y)])), .v (.dat d)], m2, rfl, ?_, hi, k6, h ++ [(x, y)], _, by rw [List.length_append, hl]; rfl, fun p hp => ?_, rfl⟩
      · have hz : (hDl h).length < sizeLine := by rw [hDl_len]; exact Nat.lt_of_lt_of_le (show h.length < 1000 by omega) (small1001 (Nat.le_refl 1000))
        have e : hDl h ++ [.tuple [.int x, .int y]] = hDl (h ++ [(x, y)]) := by unfold hDl; rw [List.map_append]; rfl
        rw [← e]
        have e1 : ixVal (mD true s rules) (.int 1) = some (.tuple (rD rules)) := rfl
        simp [b__law_history_1, k2, e1, k5, app_ok hz]
      · rcases List.mem_append.mp hp with hp | hp
        · exact ho p hp
        · rw [List.mem_singleton.mp hp]; exact ⟨k1, k4⟩)
    (m := m) (σ := [.v (.ref q), .v (.dat (mD true s rules)), .v (.dat (.int a)), .v (.dat (.int k)), .own [], .no]) ⟨Nat.zero_le _, hB, [], .no, rfl, fun _ h => absurd h (by simp), rfl⟩
  obtain ⟨σ', m', h1, _, hB', h, s5, h2, h3, rfl⟩ := this
  rw [rng_len] at h2
  refine ⟨h, m', h2, h3, ?_, hB'⟩
  have loop : evS L (callN L P (n + 1)) l__law_history_1 [.v (.ref q), .v (.dat (mD true s rules)), .v (.dat (.int a)), .v (.dat (.int k)), .own [], .no] m = .ok (.nx, [.v (.ref q), .v (.dat (mD true s rules)), .v (.dat (.int a)), .v (.dat (.int k)), .own (hDl h), s5]) m' := by
    show evS L _ (.for_ _ _ _) _ _ = _
    simp only [s_forE, it_rng1, ev_var, getV, List.getElem?_cons_zero, List.getElem?_cons_succ, R.bind_ok, asInt_int, rng1_nat (show k ≤ 100000 by omega)]
    exact h1
  simp [d__law_history, loop, hD]
def cnt (h : Hi) (a : Nat) : Nat := (h.filter fun p => p.1 == a).length
def cnts (k : Nat) (h : Hi) : List Nat := (List.range k).map (cnt h)
theorem lvectors_inner {C : Calls} {F : List (List Nat)} {c : Nat} {u : U} {s1 s4 : Sl} (hF : ∀ v ∈ F, v.length < 1000) (hc : c ≤ 1000) (hl : F.length * (c + 1) ≤ 1000) (hFl : F.length ≤ 1000) :
    ∃ s4', evS L C l__law_vectors_1 [.v u, .v (.dat (.list (F.map tI))), .v (.dat (.int c)), .v (.dat (.list [])), s4, .no] m = .ok (.nx, [.v u, .v (.dat (.list (F.map tI))), .v (.dat (.int c)), .v (.dat (.list ((ext F c).map tI))), s4', .no]) m := by
  have := forGo_inv (body := fun σ m => evSs L C b__law_vectors_1 σ m) (tg := .nm 4) (F.map tI) (fun i σ m' => m' = m ∧ ∃ s4', σ = [.v u, .v (.dat (.list (F.map tI))), .v (.dat (.int c)), .v (.dat (.list ((ext (F.take i) c).map tI))), s4', .no])
    (fun i d σ m' hd ⟨hm, s4', hσ⟩ => by
      subst hm hσ
      rw [List.getElem?_map, Option.map_eq_some_iff] at hd
      obtain ⟨v, hv, rfl⟩ := hd
      have hvm := hF v (List.mem_of_getElem? hv)
      have hi : i < F.length := (List.getElem?_eq_some_iff.mp hv).1
      refine ⟨[.v u, .v (.dat (.list (F.map tI))), .v (.dat (.int c)), .v (.dat (.list ((ext (F.take i) c).map tI))), .v (.dat (tI v)), .no], [.v u, .v (.dat (.list (F.map tI))), .v (.dat (.int c)), .v (.dat (.list ((ext (F.take (i + 1)) c).map tI))), .v (.dat (tI v)), .no], _, rfl, ?_, rfl, _, rfl⟩
      have e1 : ext (F.take (i + 1)) c = ext (F.take i) c ++ (List.range (c + 1)).map fun x => v ++ [x] := by
        rw [take_snoc hv]; unfold ext; rw [List.flatMap_append]; simp
      have key : evE C c__law_vectors_1 [.v u, .v (.dat (.list (F.map tI))), .v (.dat (.int c)), .v (.dat (.list ((ext (F.take i) c).map tI))), .v (.dat (tI v)), .no] m' = .ok (.dat (.list (((List.range (c + 1)).map fun x => v ++ [x]).map tI))) m' := by
        refine ev_comp (ds := rngD 0 (c + 1)) (m1 := m') (by simp [rng1_succ (show c ≤ 10000 by omega)]) (small1001 (by
          rw [rng_len]
          exact Nat.le_trans (Nat.le_mul_of_pos_left _ (by omega)) hl)) ?_
        have e : ((List.range (c + 1)).map fun x => v ++ [x]).map tI = (rngD 0 (c + 1)).map fun x => ((binVal .add (tI v) (.tuple [x])).getD .none) := by
          rw [rng0, List.map_map, List.map_map]
          refine List.map_congr_left fun x _ => ?_
          simp [snoc_ok v x hvm]
        rw [e]
        refine compGo_pure fun x hx => ?_
        rw [rng0] at hx
        obtain ⟨y, _, rfl⟩ := List.mem_map.mp hx
        exact ⟨_, rfl, by simp [e__law_vectors_1, snoc_ok v y hvm]⟩
      have hsz : ((ext (F.take i) c).map tI).length + (((List.range (c + 1)).map fun x => v ++ [x]).map tI).length ≤ sizeLine := by
        refine small1001 ?_
        rw [List.length_map, ext_len, List.length_map, List.length_map, List.length_range, List.length_take, Nat.min_eq_left (by omega)]
        have h1 : i * (c + 1) + (c + 1) = (i + 1) * (c + 1) := by rw [Nat.add_mul]; omega
        rw [h1]
        exact Nat.le_trans (Nat.mul_le_mul_right _ hi) hl
      have hadd : binVal .add (.list ((ext (F.take i) c).map tI)) (.list (((List.range (c + 1)).map fun x => v ++ [x]).map tI)) = some (.list ((ext (F.take (i + 1)) c).map tI)) := by
        rw [e1, List.map_append]
        exact if_pos hsz
      generalize PyData.list (((List.range (c + 1)).map fun x => v ++ [x]).map tI) = z at key hadd
      simp [b__law_vectors_1, bA_c__law_vectors_1, key, hadd])
    (m := m) (σ := [.v u, .v (.dat (.list (F.map tI))), .v (.dat (.int c)), .v (.dat (.list [])), s4, .no]) ⟨rfl, s4, rfl⟩
  obtain ⟨σ', m', h1, rfl, s4', rfl⟩ := this
  rw [List.length_map, List.take_length] at h1
  refine ⟨s4', ?_⟩
  show evS L _ (.for_ _ _ _) _ _ = _
  simp only [s_forE, it_seq, ev_var, getV, List.getElem?_cons_zero, List.getElem?_cons_succ, R.bind_ok, seqU_list]
  exact h1
theorem lvectors_ok {cs : List Nat} (hl : cs.length ≤ 4) (hb : ∀ c ∈ cs, c ≤ 1000) (hp : prod1 cs ≤ 1000) : callN L P (n + 1) 41 [.dat (tI cs)] m = .ok (.dat (.list ((vecs cs).map tI))) m := by
  rw [call_eq P__law_vectors rfl]
  have := forGo_inv (body := fun σ m => evSs L (callN L P n) b__law_vectors_2 σ m) (tg := .nm 2) (iD cs) (fun i σ m' => m' = m ∧ ∃ s2 s3 s4, σ = [.v (.dat (tI cs)), .v (.dat (.list ((vecs (cs.take i)).map tI))), s2, s3, s4, .no])
    (fun i d σ m' hd ⟨hm, s2, s3, s4, hσ⟩ => by
      subst hm hσ
      obtain ⟨c, hc, rfl⟩ := iD_get hd
      have hi : i < cs.length := (List.getElem?_eq_some_iff.mp hc).1
      have hlen : (vecs (cs.take (i + 1))).length ≤ 1000 := by rw [vecs_len]; exact Nat.le_trans (prod1_take cs _) hp
      have hlen0 : (vecs (cs.take i)).length ≤ 1000 := by rw [vecs_len]; exact Nat.le_trans (prod1_take cs _) hp
      have ee : vecs (cs.take (i + 1)) = ext (vecs (cs.take i)) c := by rw [take_snoc hc, vecs_snoc]
      rw [ee, ext_len] at hlen
      obtain ⟨s4', q⟩ := lvectors_inner (L := L) (C := callN L P n) (m := m') (F := vecs (cs.take i)) (c := c) (u := .dat (tI cs)) (s1 := .no) (s4 := s4) (fun v hv => by rw [vecs_mem_len v hv, List.length_take]; omega) (hb c (List.mem_of_getElem? hc)) hlen hlen0
      refine ⟨[.v (.dat (tI cs)), .v (.dat (.list ((vecs (cs.take i)).map tI))), .v (.dat (.int c)), s3, s4, .no], [.v (.dat (tI cs)), .v (.dat (.list ((vecs (cs.take (i + 1))).map tI))), .v (.dat (.int c)), .v (.dat (.list ((ext (vecs (cs.take i)) c).map tI))), s4', .no], _, rfl, ?_, rfl, _, _, _, rfl⟩
      rw [ee]
      simp [b__law_vectors_2, q])
    (m := m) (σ := [.v (.dat (tI cs)), .v (.dat (.list [.tuple []])), .no, .no, .no, .no]) ⟨rfl, .no, .no, .no, rfl⟩
  obtain ⟨σ', m', h1, rfl, s2, s3, s4, rfl⟩ := this
  rw [iD_len, List.take_length] at h1
  have loop : evS L (callN L P n) l__law_vectors_2 [.v (.dat (tI cs)), .v (.dat (.list [.tuple []])), .no, .no, .no, .no] m' = .ok (.nx, [.v (.dat (tI cs)), .v (.dat (.list ((vecs cs).map tI))), s2, s3, s4, .no]) m' := by
    show evS L _ (.for_ _ _ _) _ _ = _
    simp only [s_forE, it_seq, ev_var, getV, List.getElem?_cons_zero, R.bind_ok, tI, seqU_tuple]
    exact h1
  simp [d__law_vectors, loop]
def rstep (rules : List (List Nat)) (st : Nat × List Nat) (p : Nat × Nat) : Nat × List Nat := if 0 < st.2.getD p.1 0 then (stepR rules p.2 st.1, st.2.set p.1 (st.2.getD p.1 0 - 1)) else st
def replay (rules : List (List Nat)) (h : Hi) (st : Nat × List Nat) : Nat × List Nat := h.foldl (rstep rules) st
def board (s : Nat) (rules : List (List Nat)) (h : Hi) (v : List Nat) : Nat := (replay rules h (s, v)).1
theorem getD_set (l : List Nat) (a x i : Nat) : (l.set a x).getD i 0 = if i = a ∧ a < l.length then x else l.getD i 0 := by
  rw [List.getD_eq_getElem?_getD, List.getD_eq_getElem?_getD, List.getElem?_set]
  by_cases h : a = i
  · subst h
    by_cases hl : a < l.length
    · simp [hl]
    · simp [hl]
  · rw [if_neg h, if_neg (fun z => h z.1.symm)]
theorem cnt_cons (p : Nat × Nat) (h : Hi) (a : Nat) : cnt (p :: h) a = (if p.1 = a then 1 else 0) + cnt h a := by
  unfold cnt
  by_cases hp : p.1 = a
  · rw [List.filter_cons_of_pos (by simp [hp]), if_pos hp, List.length_cons]; omega
  · rw [List.filter_cons_of_neg (by simp [hp]), if_neg hp]; omega
theorem cnt_app (h g : Hi) (a : Nat) : cnt (h ++ g) a = cnt h a + cnt g a := by unfold cnt; rw [List.filter_append, List.length_append]
theorem replay_left (rules : List (List Nat)) (i : Nat) : ∀ (h : Hi) (st : Nat × List Nat), (replay rules h st).2.getD i 0 = st.2.getD i 0 - cnt h i
  | [], st => by simp [replay, cnt]
  | p :: h, st => by
    show (replay rules h (rstep rules st p)).2.getD i 0 = _
    rw [replay_left rules i h, cnt_cons]
    unfold rstep
    by_cases hp : 0 < st.2.getD p.1 0
    · rw [if_pos hp]
      show (st.2.set p.1 (st.2.getD p.1 0 - 1)).getD i 0 - cnt h i = _
      rw [getD_set]
      have hl : p.1 < st.2.length := by
        by_cases hl : p.1 < st.2.length
        · exact hl
        · rw [List.getD_eq_getElem?_getD, List.getElem?_eq_none (by omega)] at hp; simp at hp
      by_cases hi : i = p.1
      · subst hi; rw [if_pos ⟨rfl, hl⟩, if_pos rfl]; omega
      · rw [if_neg (fun z => hi z.1), if_neg (Ne.symm hi)]; omega
    · rw [if_neg hp]
      by_cases hi : p.1 = i
      · subst hi; rw [if_pos rfl]; omega
      · rw [if_neg hi]; omega
theorem replay_free (rules : List (List Nat)) (a : Nat) : ∀ (h : Hi) (b : Nat) (l1 l2 : List Nat), l1.length = l2.length → (∀ i, i ≠ a → l1.getD i 0 = l2.getD i 0) → cnt h a ≤ l1.getD a 0 → cnt h a ≤ l2.getD a 0 → (replay rules h (b, l1)).1 = (replay rules h (b, l2)).1
  | [], _, _, _, _, _, _, _ => rfl
  | p :: h, b, l1, l2, hl, he, h1, h2 => by
    show (replay rules h (rstep rules (b, l1) p)).1 = (replay rules h (rstep rules (b, l2) p)).1
    rw [cnt_cons] at h1 h2
    unfold rstep
    by_cases hp : p.1 = a
    · rw [if_pos hp] at h1 h2
      rw [if_pos (show 0 < (b, l1).2.getD p.1 0 by rw [hp]; show 0 < l1.getD a 0; omega), if_pos (show 0 < (b, l2).2.getD p.1 0 by rw [hp]; show 0 < l2.getD a 0; omega)]
      refine replay_free rules a h _ _ _ (by simp only [List.length_set]; exact hl) (fun i hi => ?_) ?_ ?_
      · show (l1.set p.1 _).getD i 0 = (l2.set p.1 _).getD i 0
        rw [getD_set, getD_set, if_neg (fun z => hi (z.1.trans hp)), if_neg (fun z => hi (z.1.trans hp))]
        exact he i hi
      · show cnt h a ≤ (l1.set p.1 (l1.getD p.1 0 - 1)).getD a 0
        rw [getD_set, hp]
        split <;> omega
      · show cnt h a ≤ (l2.set p.1 (l2.getD p.1 0 - 1)).getD a 0
        rw [getD_set, hp]
        split <;> omega
    · rw [if_neg hp] at h1 h2
      have e := he p.1 hp
      by_cases hq : 0 < l1.getD p.1 0
      · rw [if_pos (show 0 < (b, l1).2.getD p.1 0 from hq), if_pos (show 0 < (b, l2).2.getD p.1 0 by show 0 < l2.getD p.1 0; omega)]
        refine replay_free rules a h _ _ _ (by simp only [List.length_set]; exact hl) (fun i hi => ?_) ?_ ?_
        · show (l1.set p.1 (l1.getD p.1 0 - 1)).getD i 0 = (l2.set p.1 (l2.getD p.1 0 - 1)).getD i 0
          rw [getD_set, getD_set, hl, e, he i hi]
        · show cnt h a ≤ (l1.set p.1 (l1.getD p.1 0 - 1)).getD a 0
          rw [getD_set, if_neg (fun z => hp z.1.symm)]; omega
        · show cnt h a ≤ (l2.set p.1 (l2.getD p.1 0 - 1)).getD a 0
          rw [getD_set, if_neg (fun z => hp z.1.symm)]; omega
      · rw [if_neg (show ¬ 0 < (b, l1).2.getD p.1 0 from hq), if_neg (show ¬ 0 < (b, l2).2.getD p.1 0 by show ¬ 0 < l2.getD p.1 0; omega)]
        exact replay_free rules a h _ _ _ hl he (by omega) (by omega)
theorem replay_app (rules : List (List Nat)) (h g : Hi) (st : Nat × List Nat) : replay rules (h ++ g) st = replay rules g (replay rules h st) := by unfold replay; rw [List.foldl_append]
theorem cnts_get {k i : Nat} (h : Hi) (hi : i < k) : (cnts k h)[i]? = some (cnt h i) := by
  unfold cnts; rw [List.getElem?_map, List.getElem?_range hi]; rfl
theorem cnts_len (k : Nat) (h : Hi) : (cnts k h).length = k := by unfold cnts; simp
theorem cnts_bump {k a d : Nat} (h : Hi) (ha : a < k) : cnts k (h ++ [(a, d)]) = bump (cnts k h) a := by
  apply List.ext_getElem?
  intro i
  unfold bump
  rw [getD_of (cnts_get h ha), List.getElem?_set]
  by_cases hi : i < k
  · rw [cnts_get _ hi, cnt_app, cnts_get _ hi, cnt_cons]
    by_cases e : a = i
    · subst e; rw [if_pos rfl, if_pos rfl, if_pos (by rw [cnts_len]; exact ha)]; rfl
    · rw [if_neg e, if_neg e]; rfl
  · rw [List.getElem?_eq_none (by rw [cnts_len]; omega)]
    have : a ≠ i := by omega
    rw [if_neg this, List.getElem?_eq_none (by rw [cnts_len]; omega)]
theorem board_grow {k a d s : Nat} {rules : List (List Nat)} (h : Hi) (ha : a < k) {w : List Nat} (hw : InV (cnts k (h ++ [(a, d)])) w) : grow (board s rules h) rules (bump (cnts k h) a) a d w = board s rules (h ++ [(a, d)]) w := by
  have hg : (bump (cnts k h) a).getD a 0 = cnt h a + 1 := by
    rw [← cnts_bump (d := d) h ha, getD_of (cnts_get _ ha), cnt_app, cnt_cons, if_pos rfl]; rfl
  have hwl : a < w.length := by rw [hw.1, cnts_len]; exact ha
  have hwa : w.getD a 0 ≤ cnt h a + 1 := by
    have := hw.2 a _ _ (List.getElem?_eq_getElem hwl) (cnts_get _ ha)
    rw [cnt_app, cnt_cons, if_pos rfl] at this
    rw [getD_of (List.getElem?_eq_getElem hwl)]
    exact this
  have hleft := replay_left rules a h (s, w)
  unfold grow board
  rw [replay_app, hg]
  show _ = (rstep rules (replay rules h (s, w)) (a, d)).1
  by_cases hlt : w.getD a 0 < cnt h a + 1
  · rw [if_pos hlt]
    have : ¬ 0 < (replay rules h (s, w)).2.getD a 0 := by rw [hleft]; show ¬ 0 < w.getD a 0 - cnt h a; omega
    unfold rstep
    rw [if_neg this]
  · rw [if_neg hlt]
    have : 0 < (replay rules h (s, w)).2.getD a 0 := by rw [hleft]; show 0 < w.getD a 0 - cnt h a; omega
    unfold rstep
    rw [if_pos this]
    show stepR rules d _ = stepR rules d _
    congr 1
    refine replay_free rules a h s _ _ (by rw [List.length_set]) (fun i hi => ?_) ?_ ?_
    · rw [getD_set, if_neg (fun z => hi z.1)]
    · rw [getD_set, if_pos ⟨rfl, hwl⟩]; omega
    · omega
theorem setO_ok {σ : Eng.Env} {i a : Nat} {xs : List PyData} {d : PyData} (h : a < xs.length) : setOGo σ i xs (.dat d) (.dat (.int (a : Int))) m = .ok (.nx, σ.set i (.own (xs.set a d))) m := by
  have e : L2.ixN xs.length (a : Int) = some a := by
    unfold L2.ixN
    rw [if_pos (by omega), if_pos (by omega), Int.toNat_natCast]
  simp only [setOGo, e]
theorem iD_set (l : List Nat) (a x : Nat) : (iD l).set a (.int (x : Int)) = iD (l.set a x) := by unfold iD; rw [List.map_set]
theorem board_ok {b s k : Nat} {rules : List (List Nat)} {h : Hi} {v : List Nat} (hm : MOk b s rules) (ho : HOk k rules.length h) (hv : v.length = k) (hh : h.length ≤ 1000) : callN L P (n + 1) 42 [.dat (mD true s rules), .dat (hD h), .dat (tI v)] m = .ok (.dat (.int (board s rules h v))) m := by
  rw [call_eq P__law_board rfl]
  have := forGo_inv (body := fun σ m => evSs L (callN L P n) b__law_board_1 σ m) (tg := .tp [.nm 5, .nm 6]) (hDl h) (fun i σ m' => m' = m ∧ (replay rules (h.take i) (s, v)).1 < b ∧ (replay rules (h.take i) (s, v)).2.length = k ∧ ∃ s5 s6, σ = [.v (.dat (mD true s rules)), .v (.dat (hD h)), .v (.dat (tI v)), .v (.dat (.int (replay rules (h.take i) (s, v)).1)), .own (iD (replay rules (h.take i) (s, v)).2), s5, s6])
    (fun i e σ m' he ⟨hmm, hb, hl, s5, s6, hσ⟩ => by
      subst hmm hσ
      unfold hDl at he
      rw [List.getElem?_map, Option.map_eq_some_iff] at he
      obtain ⟨⟨a, d⟩, hp, rfl⟩ := he
      have hpo := ho _ (List.mem_of_getElem? hp)
      have ea : a < k := hpo.1
      have ed : d < rules.length := hpo.2
      rw [take_snoc hp, replay_app]
      generalize replay rules (h.take i) (s, v) = st at hb hl
      obtain ⟨x, left⟩ := st
      simp only at hb hl
      have hal : a < left.length := by rw [hl]; exact ea
      have e1 : ixVal (.list (iD left)) (.int a) = some (.int (left.getD a 0 : Nat)) := iD_at hal
      obtain ⟨r, hr⟩ : ∃ r, rules[d]? = some r := ⟨_, List.getElem?_eq_getElem ed⟩
      have hrb := hm.each r (List.mem_of_getElem? hr)
      have e2 : ixVal (mD true s rules) (.int 1) = some (.tuple (rD rules)) := rfl
      have e3 : ixVal (.tuple (rD rules)) (.int d) = some (tI r) := atI_nat (by unfold rD; rw [List.getElem?_map, hr]; rfl)
      have hxr : x < r.length := by rw [hrb.1]; exact hb
      have er : stepR rules d x = r.getD x 0 := by unfold stepR; rw [show rules.getD d [] = r by rw [List.getD_eq_getElem?_getD, hr]; rfl]
      have e4 : ixVal (tI r) (.int x) = some (.int (stepR rules d x : Nat)) := by rw [er]; exact iD_at hxr
      have hrx : stepR rules d x < b := by
        rw [er, List.getD_eq_getElem?_getD, List.getElem?_eq_getElem hxr]
        exact hrb.2 _ (List.getElem_mem hxr)
      by_cases hz : 0 < left.getD a 0
      · have est : replay rules [(a, d)] (x, left) = (stepR rules d x, left.set a (left.getD a 0 - 1)) := if_pos hz
        rw [est]
        refine ⟨[.v (.dat (mD true s rules)), .v (.dat (hD h)), .v (.dat (tI v)), .v (.dat (.int x)), .own (iD left), .v (.dat (.int a)), .v (.dat (.int d))], [.v (.dat (mD true s rules)), .v (.dat (hD h)), .v (.dat (tI v)), .v (.dat (.int (stepR rules d x : Nat))), .own (iD (left.set a (left.getD a 0 - 1))), .v (.dat (.int a)), .v (.dat (.int d))], _, rfl, ?_, rfl, hrx, by rw [List.length_set]; exact hl, _, _, rfl⟩
        have e5 : ((left.getD a 0 : Nat) : Int) - 1 = ((left.getD a 0 - 1 : Nat) : Int) := by omega
        have e6 := fun σ : Eng.Env => setO_ok (m := m') (σ := σ) (i := 4) (xs := iD left) (a := a) (d := .int ((left.getD a 0 - 1 : Nat) : Int)) (by rw [iD_len]; exact hal)
        rw [← iD_set]
        simp only [b__law_board_1, s_cons, s_ifeE, ev_cmp, ev_ix, bA_ix, bA_bv, bA_cst, ev_var, ev_cst, getV, getB, List.getElem?_cons_zero, List.getElem?_cons_succ, R.bind_ok, ixU_dat, e1, R.dat_some, d2_dat, cv_gtI, show decide ((0 : Int) < (left.getD a 0 : Nat)) = true by simpa [-List.getD_eq_getElem?_getD] using hz, asB_bool, if_true, s_setOE, ev_bin, bv_subI, e5, e6, then_nx, List.set_cons_succ, List.set_cons_zero, s_asgE, bA_var, e2, e3, e4, s_nil, setE]
        rfl
      · have est : replay rules [(a, d)] (x, left) = (x, left) := if_neg hz
        rw [est]
        refine ⟨[.v (.dat (mD true s rules)), .v (.dat (hD h)), .v (.dat (tI v)), .v (.dat (.int x)), .own (iD left), .v (.dat (.int a)), .v (.dat (.int d))], [.v (.dat (mD true s rules)), .v (.dat (hD h)), .v (.dat (tI v)), .v (.dat (.int x)), .own (iD left), .v (.dat (.int a)), .v (.dat (.int d))], _, rfl, ?_, rfl, hb, hl, _, _, rfl⟩
        simp only [b__law_board_1, s_cons, s_ifeE, ev_cmp, ev_ix, bA_ix, bA_bv, bA_cst, ev_var, ev_cst, getV, getB, List.getElem?_cons_zero, List.getElem?_cons_succ, R.bind_ok, ixU_dat, e1, R.dat_some, d2_dat, cv_gtI, show decide ((0 : Int) < (left.getD a 0 : Nat)) = false by simpa [-List.getD_eq_getElem?_getD] using hz, asB_bool, Bool.false_eq_true, if_false, s_nil, then_nx])
    (m := m) (σ := [.v (.dat (mD true s rules)), .v (.dat (hD h)), .v (.dat (tI v)), .v (.dat (.int s)), .own (iD v), .no, .no]) ⟨rfl, hm.sb, hv, .no, .no, rfl⟩
  obtain ⟨σ', m', h1, rfl, _, _, s5, s6, rfl⟩ := this
  rw [hDl_len, List.take_length] at h1
  have loop : evS L (callN L P n) l__law_board_1 [.v (.dat (mD true s rules)), .v (.dat (hD h)), .v (.dat (tI v)), .v (.dat (.int s)), .own (iD v), .no, .no] m' = .ok (.nx, [.v (.dat (mD true s rules)), .v (.dat (hD h)), .v (.dat (tI v)), .v (.dat (.int (board s rules h v))), .own (iD (replay rules h (s, v)).2), s5, s6]) m' := by
    show evS L _ (.for_ _ _ _) _ _ = _
    simp only [s_forE, it_seq, ev_var, getV, List.getElem?_cons_zero, List.getElem?_cons_succ, R.bind_ok, hD, seqU_tuple]
    exact h1
  have e1 : ixVal (mD true s rules) (.int 0) = some (.int s) := rfl
  have e2 : b1Val .list (tI v) = some (.list (iD v)) := rfl
  simp [d__law_board, e1, e2, loop]
theorem cutP_lo {xs : List PyData} {a : Nat} (h : a ≤ xs.length) : slVal (.tuple xs) none (some (a : Int)) = some (.tuple (xs.take a)) := by
  show some (PyData.tuple (Eng.cutD xs none (some (a : Int)))) = _
  unfold Eng.cutD
  rw [HT.sIx_none, HT.sIx_nat, Nat.min_eq_left h]; rfl
theorem asInts_map (l : List Int) : asInts (l.map PyData.int) = some l := by
  induction l with
  | nil => rfl
  | cons a l ih => simp [asInts, ih]
theorem hD_at {h : Hi} {i : Nat} {p : Nat × Nat} (e : h[i]? = some p) : L2.atI (hDl h) (i : Int) = some (pD p) := atI_nat (by unfold hDl; rw [List.getElem?_map, e]; rfl)
theorem four_dec : ∀ a < 11, ∀ b < 11, ∀ c < 11, ∀ d < 11, a + b + c + d ≤ 10 → (a + 1) * (b + 1) * (c + 1) * (d + 1) ≤ 1000 := by decide +kernel
theorem four {a b c d : Nat} (h : a + b + c + d ≤ 10) : (a + 1) * (b + 1) * (c + 1) * (d + 1) ≤ 1000 := four_dec a (by omega) b (by omega) c (by omega) d (by omega) h
theorem cnt_four : ∀ h : Hi, cnt h 0 + cnt h 1 + cnt h 2 + cnt h 3 ≤ h.length
  | [] => Nat.le_refl _
  | p :: h => by
    have := cnt_four h
    rw [cnt_cons, cnt_cons, cnt_cons, cnt_cons, List.length_cons]
    split <;> split <;> split <;> split <;> omega
theorem prod_ok {k : Nat} {h : Hi} (hk : k ≤ 4) (hh : h.length ≤ 10) : prod1 (cnts k h) ≤ 1000 := by
  have h4 := cnt_four h
  rcases (by omega : k = 0 ∨ k = 1 ∨ k = 2 ∨ k = 3 ∨ k = 4) with rfl | rfl | rfl | rfl | rfl
  · show 1 ≤ 1000; omega
  · show 1 * (cnt h 0 + 1) ≤ 1000; omega
  · show 1 * (cnt h 0 + 1) * (cnt h 1 + 1) ≤ 1000
    have := four (a := cnt h 0) (b := cnt h 1) (c := 0) (d := 0) (by omega)
    simpa using this
  · show 1 * (cnt h 0 + 1) * (cnt h 1 + 1) * (cnt h 2 + 1) ≤ 1000
    have := four (a := cnt h 0) (b := cnt h 1) (c := cnt h 2) (d := 0) (by omega)
    simpa using this
  · show 1 * (cnt h 0 + 1) * (cnt h 1 + 1) * (cnt h 2 + 1) * (cnt h 3 + 1) ≤ 1000
    have := four (a := cnt h 0) (b := cnt h 1) (c := cnt h 2) (d := cnt h 3) (by omega)
    simpa using this
theorem cnts_big {k : Nat} {h : Hi} {N : Nat} (hh : h.length ≤ N) : ∀ c ∈ cnts k h, c ≤ N := fun c hc => by
  unfold cnts at hc
  obtain ⟨i, _, rfl⟩ := List.mem_map.mp hc
  exact Nat.le_trans (List.length_filter_le _ _) hh
theorem cok {k : Nat} {h : Hi} (h1 : 1 ≤ k) (hk : k ≤ 4) (hh : h.length ≤ 10) : COk (cnts k h) := ⟨by rw [cnts_len]; exact h1, by rw [cnts_len]; exact hk, cnts_big (by omega)⟩
theorem board_lt {b s k : Nat} {rules : List (List Nat)} {h : Hi} {v : List Nat} (hm : MOk b s rules) (ho : HOk k rules.length h) : board s rules h v < b := by
  have : ∀ (h : Hi) (st : Nat × List Nat), HOk k rules.length h → st.1 < b → (replay rules h st).1 < b := fun h => by
    induction h with
    | nil => intro st _ hs; exact hs
    | cons p h ih =>
      intro st ho hs
      show (replay rules h (rstep rules st p)).1 < b
      refine ih _ (fun q hq => ho q (List.mem_cons_of_mem _ hq)) ?_
      unfold rstep
      split
      · have hd := (ho p List.mem_cons_self).2
        have hr := List.getElem?_eq_getElem hd
        have hrb := hm.each _ (List.getElem_mem hd)
        show stepR rules p.2 st.1 < b
        unfold stepR
        have e : rules.getD p.2 [] = rules[p.2] := by rw [List.getD_eq_getElem?_getD, hr]; rfl
        rw [e, List.getD_eq_getElem?_getD, List.getElem?_eq_getElem (by rw [hrb.1]; exact hs)]
        exact hrb.2 _ (List.getElem_mem _)
      · exact hs
  exact this h (s, v) ho hm.sb
theorem tok {b s K : Nat} {rules : List (List Nat)} {h : Hi} (hm : MOk b s rules) (ho : HOk K rules.length h) (h1 : 1 ≤ K) (hK : K ≤ 4) (hh : h.length ≤ 10) (B : Nat) (hB : b ≤ B) : TOk (cnts K h) ((vecs (cnts K h)).map (board s rules h)) B :=
  ⟨cok h1 hK hh, by rw [List.length_map, vecs_len], prod_ok hK hh, fun x hx => by
    obtain ⟨v, _, rfl⟩ := List.mem_map.mp hx
    exact Nat.lt_of_lt_of_le (board_lt hm ho) hB⟩
theorem eqv_ints : ∀ a b : List Nat, PyData.eqvAll (iD a) (iD b) = decide (a = b)
  | [], [] => rfl
  | [], _ :: _ => rfl
  | _ :: _, [] => rfl
  | x :: a, y :: b => by
    have ih := eqv_ints a b
    show (PyData.eqv (.int (x : Int)) (.int (y : Int)) && PyData.eqvAll (iD a) (iD b)) = _
    rw [ih]
    show (((x : Int) == (y : Int)) && decide (a = b)) = _
    rw [Bool.eq_iff_iff]
    simp only [Bool.and_eq_true, beq_iff_eq, decide_eq_true_eq, List.cons.injEq]
    constructor
    · rintro ⟨h1, h2⟩; exact ⟨by omega, h2⟩
    · rintro ⟨h1, h2⟩; exact ⟨by omega, h2⟩
def fOf (cs bs : List Nat) (v : List Nat) : Nat := bs.getD (place cs v) 0
theorem in_vecs {cs v : List Nat} (h : InV cs v) : v ∈ vecs cs := List.mem_of_getElem? (place_get h)
def zeros (cs : List Nat) : List Nat := List.replicate cs.length 0
def Fits (f : List Nat → Nat) (rules : List (List Nat)) (cs : List Nat) (a d : Nat) : Prop := ∀ v, InV cs v → v.getD a 0 = cs.getD a 0 → stepR rules d (f (v.set a (v.getD a 0 - 1))) = f v
inductive Red (f : List Nat → Nat) (rules : List (List Nat)) : List Nat → List Nat → Prop
  | refl (cs : List Nat) : Red f rules cs cs
  | step {cs cs' : List Nat} {a d : Nat} : a < cs.length → 0 < cs.getD a 0 → d < rules.length → Fits f rules cs a d → Red f rules (drop1 cs a) cs' → Red f rules cs cs'
theorem asBools_map {α : Type} (g : α → Bool) (l : List α) : asBools (l.map fun x => PyData.bool (g x)) = some (l.map g) := by
  induction l with
  | nil => rfl
  | cons x l ih => rw [List.map_cons, List.map_cons]; simp [asBools, ih]
theorem all_map {α : Type} (g : α → Bool) (l : List α) : b1Val .all (.list (l.map fun x => PyData.bool (g x))) = some (.bool (l.all g)) := by
  show (asBools _).map _ = _
  rw [asBools_map, Option.map_some]
  congr 2
  rw [List.all_map]; rfl
def doing (rules : List (List Nat)) (ps : Hi) : List Nat := (List.range rules.length).filter fun d => ps.all fun p => stepR rules d p.1 == p.2
def lpOf (f : List Nat → Nat) (cs : List Nat) (a : Nat) (vs : List (List Nat)) : Hi := (vs.filter fun v => v.getD a 0 == cs.getD a 0).map fun v => (f (v.set a (v.getD a 0 - 1)), f v)
def lastL (f : List Nat → Nat) (rules : List (List Nat)) (cs : List Nat) (a : Nat) : Hi := if 0 < cs.getD a 0 then ((doing rules (lpOf f cs a (vecs cs))).take 1).map fun d => (a, d) else []
def lastsL (f : List Nat → Nat) (rules : List (List Nat)) (cs : List Nat) : Hi := (List.range cs.length).flatMap (lastL f rules cs)
end K23

set_option Elab.async false
set_option linter.all false
set_option maxRecDepth 100000
set_option maxHeartbeats 2000000
namespace K23
open PySem PySem.Spec PyProof.Rows L2 Eng
variable {L n : Nat} {m : Mem}
theorem is_mapG_ok (t : Bool) (r : List Nat) (b : Nat) (hl : r.length = b) (hb : b ≤ 1000) (h : ∀ x ∈ r, x < b) : callN L P (n + 5) 10 [.dat (mkS t (iD r)), .dat (.int b)] m = .ok (.dat (.bool true)) m := by
  rw [call_eq P_is_map rfl]
  have k := are_below_S (L := L) (n := n) (m := m) t r b (by omega) h
  simp [d_is_map, k, hl]
def rG (t : Bool) (rules : List (List Nat)) : List PyData := rules.map fun r => mkS t (iD r)
@[simp] theorem rG_len (t : Bool) (l : List (List Nat)) : (rG t l).length = l.length := by unfold rG; rw [List.length_map]
def mG (t : Bool) (s : Nat) (rules : List (List Nat)) : PyData := mkS t [.int s, mkS t (rG t rules)]
theorem are_deedsG_ok (t : Bool) {b s : Nat} {rules : List (List Nat)} (h : MOk b s rules) : callN L P (n + 6) 11 [.dat (mkS t (rG t rules))] m = .ok (.dat (.bool true)) m := by
  obtain ⟨r0, rs, rfl⟩ : ∃ r0 rs, rules = r0 :: rs := by
    cases rules with
    | nil => exact absurd rfl h.ne
    | cons a l => exact ⟨a, l, rfl⟩
  have h0 := h.each r0 List.mem_cons_self
  have hl := h.l6
  have h8 := h.b8
  have hsb := h.sb
  rw [call_eq P_are_deeds rfl]
  have k1 := is_sequence_S (L := L) (n := n + 4) (m := m) t (rG t (r0 :: rs))
  have k2 := is_sequence_S (L := L) (n := n + 4) (m := m) t (iD r0)
  have e0 : L2.atI (rG t (r0 :: rs)) 0 = some (mkS t (iD r0)) := atI_0 _ _
  have key : evE (callN L P (n + 5)) c_are_deeds_1 [.v (.dat (mkS t (rG t (r0 :: rs)))), .v (.dat (.int b)), .no] m = .ok (.dat (.list ((rG t (r0 :: rs)).map fun _ => .bool true))) m := by
    refine all_comp (d := mkS t (rG t (r0 :: rs))) rfl (seq_S _ _ _) (by simp only [rG_len]; omega) fun d hd => ?_
    obtain ⟨x, hx, rfl⟩ := List.mem_map.mp hd
    have q := h.each x hx
    refine ⟨_, rfl, ?_⟩
    simp [e_are_deeds_1, is_mapG_ok t x b q.1 (by omega) q.2]
  have hl' : ((rs.length : Int) + 1 ≤ 6) := by simp only [List.length_cons] at hl; omega
  have hl1 : (1 : Int) ≤ (rs.length : Int) + 1 := by omega
  have hb1 : (1 : Int) ≤ b := by omega
  have hb8 : (b : Int) ≤ 8 := by omega
  simp [d_are_deeds, k1, k2, e0, h0.1, bA_c_are_deeds_1, key, all_true, hl', hl1, hb1, hb8]
theorem check_machineG_ok {b s : Nat} {rules : List (List Nat)} (t : Bool) (h : MOk b s rules) : callN L P (n + 7) 12 [.dat (mG t s rules)] m = .ok (.dat (mD true s rules)) m := by
  obtain ⟨r0, rs, e⟩ : ∃ r0 rs, rules = r0 :: rs := by
    cases rules with
    | nil => exact absurd rfl h.ne
    | cons a l => exact ⟨a, l, rfl⟩
  have h0 := h.each r0 (by rw [e]; exact List.mem_cons_self)
  have hl := h.l6
  have hsb := h.sb
  rw [call_eq P_check_machine rfl]
  have k1 := is_sequence_S (L := L) (n := n + 5) (m := m) t [.int s, mkS t (rG t rules)]
  have k2 := are_deedsG_ok (L := L) (n := n) (m := m) t h
  have k3 := is_below_int (L := L) (n := n + 3) (m := m) s b
  have e0 : L2.atI (rG t rules) 0 = some (mkS t (iD r0)) := by rw [e]; exact atI_0 _ _
  have hlt : (s : Int) < b := by omega
  have key : evE (callN L P (n + 6)) c_check_machine_1 [.v (.dat (mkS t [.int s, mkS t (rG t rules)])), .no] m = .ok (.dat (.list (rD rules))) m := by
    refine ev_comp (ds := rG t rules) (m1 := m) (by simp) (small1001 (by simp only [rG_len]; omega)) ?_
    have e2 : rD rules = (rG t rules).map fun d => match d with
      | .tuple xs => .tuple xs
      | .list xs => .tuple xs
      | d => d := by
      unfold rD rG
      rw [List.map_map]
      refine List.map_congr_left fun r _ => ?_
      cases t <;> rfl
    rw [e2]
    refine compGo_pure fun d hd => ?_
    obtain ⟨x, hx, rfl⟩ := List.mem_map.mp hd
    refine ⟨_, rfl, ?_⟩
    cases t <;> simp [e_check_machine_1, mkS]
  simp [d_check_machine, mG, k1, k2, e0, h0.1, k3, hlt, bA_c_check_machine_1, key, tup_L]
  simp [mD, mkS]
theorem counts_ok {k : Nat} {h : Hi} (hk : k ≤ 1000) (hl : h.length ≤ 1000) : callN L P (n + 1) 40 [.dat (.int k), .dat (hD h)] m = .ok (.dat (tI (cnts k h))) m := by
  rw [call_eq P__law_counts rfl]
  have inner : ∀ i : Nat, evE (callN L P n) c__law_counts_1 [.v (.dat (.int k)), .v (.dat (hD h)), .v (.dat (.int i)), .no] m = .ok (.dat (.list ((h.filter fun p => p.1 == i).map fun _ => .int 1))) m := fun i => by
    refine ev_comp (ds := hDl h) (m1 := m) (by simp [hD]) (small1001 (by rw [hDl_len]; exact hl)) ?_
    have e : ((h.filter fun p => p.1 == i).map fun _ => PyData.int 1) = ((hDl h).filter fun d => match d with
        | .tuple [.int x, _] => decide (x = (i : Int))
        | _ => false).map fun _ => .int 1 := by
      unfold hDl
      rw [List.filter_map, List.map_map]
      have : (fun p : Nat × Nat => p.1 == i) = ((fun d : PyData => match d with
        | .tuple [.int x, _] => decide (x = (i : Int))
        | _ => false) ∘ pD) := by
        funext p
        show (p.1 == i) = decide ((p.1 : Int) = (i : Int))
        rw [Bool.eq_iff_iff, beq_iff_eq, decide_eq_true_eq]
        omega
      rw [this]; rfl
    rw [e]
    refine compGo_filt fun d hd => ?_
    obtain ⟨p, hp, rfl⟩ := List.mem_map.mp hd
    exact ⟨_, rfl, by simp [t__law_counts_1, pD], fun _ => by simp [e__law_counts_1]⟩
  have key : evE (callN L P n) c__law_counts_2 [.v (.dat (.int k)), .v (.dat (hD h)), .no, .no] m = .ok (.dat (.list (iD (cnts k h)))) m := by
    refine ev_comp (ds := rngD 0 k) (m1 := m) (by simp [rng1_nat (show k ≤ 100000 by omega)]) (small1001 (by rw [rng_len]; exact hk)) ?_
    have e : iD (cnts k h) = (rngD 0 k).map fun d => match d with
        | .int x => .int (cnt h x.toNat : Nat)
        | _ => .none := by
      unfold iD cnts
      rw [rng0, List.map_map, List.map_map]
      refine List.map_congr_left fun i _ => ?_
      simp
    rw [e]
    refine compGo_pure fun d hd => ?_
    rw [rng0] at hd
    obtain ⟨i, _, rfl⟩ := List.mem_map.mp hd
    refine ⟨_, rfl, ?_⟩
    have q := inner i
    simp [e__law_counts_2, bA_c__law_counts_1, q, cnt]
  simp [d__law_counts, bA_c__law_counts_2, key, tI]
theorem set_bits {bs : List Nat} {b a x : Nat} (h : ∀ y ∈ bs, y < b) (hx : x < b) : ∀ y ∈ bs.set a x, y < b := fun y hy => by
  rcases List.mem_or_eq_of_mem_set hy with hy | rfl
  · exact h y hy
  · exact hx
theorem lists_T {f : PyData → PyData} {ds : List PyData} (hl : ds.length ≤ 1000) (h : ∀ d ∈ ds, callN L P n 47 [.dat d] m = .ok (.dat (f d)) m) : callN L P (n + 1) 47 [.dat (.tuple ds)] m = .ok (.dat (.list (ds.map f))) m := by
  rw [call_eq P__law_lists rfl]
  have key : evE (callN L P n) c__law_lists_1 [.v (.dat (.tuple ds)), .no] m = .ok (.dat (.list (ds.map f))) m := by
    refine ev_comp (ds := ds) (m1 := m) (by simp) (small1001 hl) (compGo_pure fun d hd => ⟨_, rfl, ?_⟩)
    simp [e__law_lists_1, h d hd]
  simp [d__law_lists, key]
theorem lists_I (i : Int) : callN L P (n + 1) 47 [.dat (.int i)] m = .ok (.dat (.int i)) m := by
  rw [call_eq P__law_lists rfl]
  simp [d__law_lists]
def flat : PyData → PyData
  | .tuple xs => .list xs
  | d => d
theorem lists_tI {l : List Nat} (hl : l.length ≤ 1000) : callN L P (n + 2) 47 [.dat (tI l)] m = .ok (.dat (.list (iD l))) m := by
  have := lists_T (L := L) (n := n + 1) (m := m) (f := id) (ds := iD l) (by simpa using hl) fun d hd => by
    obtain ⟨x, _, rfl⟩ := List.mem_map.mp hd
    exact lists_I _
  rw [List.map_id] at this
  exact this
theorem lists_mach {b s : Nat} {rules : List (List Nat)} (h : MOk b s rules) : callN L P (n + 4) 47 [.dat (mD true s rules)] m = .ok (.dat (mG false s rules)) m := by
  have hl := h.l6
  have h8 := h.b8
  have k : callN L P (n + 3) 47 [.dat (.tuple (rD rules))] m = .ok (.dat (.list (rG false rules))) m := by
    have := lists_T (L := L) (n := n + 2) (m := m) (f := flat) (ds := rD rules) (by rw [rD_len]; omega) fun d hd => by
      obtain ⟨r, hr, rfl⟩ := List.mem_map.mp hd
      exact lists_tI (by rw [(h.each r hr).1]; omega)
    have e : (rD rules).map flat = rG false rules := by
      unfold rD rG
      rw [List.map_map]
      exact List.map_congr_left fun r _ => rfl
    rw [e] at this
    exact this
  refine lists_T (L := L) (n := n + 3) (m := m) (f := fun d => match d with | .int i => .int i | _ => .list (rG false rules)) (ds := [.int s, .tuple (rD rules)]) (by simp) fun d hd => ?_
  simp only [List.mem_cons, List.not_mem_nil, or_false] at hd
  rcases hd with rfl | rfl
  · exact lists_I _
  · exact k
def ords : Nat → List Nat → List (List Nat)
  | 0, _ => [[]]
  | N + 1, cs => (List.range cs.length).flatMap fun a => if 0 < cs.getD a 0 then (ords N (drop1 cs a)).map (a :: ·) else []
def cntO (o : List Nat) (a : Nat) : Nat := (o.filter fun x => x == a).length
def extH (R : Nat) (F : List Hi) (a : Nat) : List Hi := F.flatMap fun r => (List.range R).map fun d => r ++ [(a, d)]
def rowsH (R : Nat) (o : List Nat) : List Hi := o.foldl (extH R) [[]]
def hists (R : Nat) (cs : List Nat) : List Hi := (ords cs.sum cs).flatMap (rowsH R)
def oD (F : List (List Nat)) : List PyData := F.map tI
@[simp] theorem oD_len (F : List (List Nat)) : (oD F).length = F.length := by unfold oD; rw [List.length_map]
theorem cons_ok (a : Nat) (o : List Nat) (h : o.length < 999) : binVal .add (.tuple [.int a]) (tI o) = some (tI (a :: o)) := by
  have hz : 1 + o.length ≤ sizeLine := small1001 (by omega)
  unfold tI
  simp only [binVal, iD_len, List.length_singleton]
  rw [if_pos hz]
  simp [iD]
def hL (F : List Hi) : List PyData := F.map hD
@[simp] theorem hL_len (F : List Hi) : (hL F).length = F.length := by unfold hL; rw [List.length_map]
theorem hL_app (F G : List Hi) : hL (F ++ G) = hL F ++ hL G := by unfold hL; rw [List.map_append]
def Has (s : Nat) (rules : List (List Nat)) (cs bs : List Nat) : Prop := ∃ h : Hi, HOk cs.length rules.length h ∧ cnts cs.length h = cs ∧ (vecs cs).map (board s rules h) = bs
def HasF (s : Nat) (rules : List (List Nat)) (cs : List Nat) (f : List Nat → Nat) : Prop := ∃ h : Hi, HOk cs.length rules.length h ∧ cnts cs.length h = cs ∧ ∀ v, InV cs v → board s rules h v = f v
def HT (s : Nat) (rules : List (List Nat)) (f : List Nat → Nat) (cs : List Nat) (h : Hi) : Prop := HOk cs.length rules.length h ∧ cnts cs.length h = cs ∧ ∀ v, InV cs v → board s rules h v = f v
def nrm (f : List Nat → Nat) (rules : List (List Nat)) : Nat → List Nat → Hi
  | 0, _ => []
  | N + 1, cs => match (lastsL f rules cs).getLast? with
    | some p => nrm f rules N (drop1 cs p.1) ++ [p]
    | none => []
def nof (s : Nat) (rules : List (List Nat)) (K : Nat) (h : Hi) : Hi := nrm (board s rules h) rules (cnts K h).sum (cnts K h)
theorem mul_zero {K : Nat} (h : 1 ≤ K) (h2 : K ≤ 4) : binVal .mul (.tuple [.int 0]) (.int (K : Int)) = some (tI (List.replicate K 0)) := by
  have : binVal .mul (.tuple [.int 0]) (.int (K : Int)) = some (.tuple (List.replicate (K : Int).toNat [PyData.int 0]).flatten) := if_pos ⟨by simp, by simp, by omega, by omega⟩
  rw [this, Int.toNat_natCast]
  rcases (by omega : K = 0 ∨ K = 1 ∨ K = 2 ∨ K = 3 ∨ K = 4) with rfl | rfl | rfl | rfl | rfl <;> rfl
theorem is_hands_ok {K : Nat} (h1 : 1 ≤ K) (h4 : K ≤ 4) : callN L P (n + 3) 9 [.dat (.int K)] m = .ok (.dat (.bool true)) m := by
  rw [call_eq P_is_hands rfl]
  have k : callN L P (n + 2) 3 [.dat (.int K)] m = .ok (.dat (.bool true)) m := by
    rw [call_eq P_is_positive rfl]
    have : (1 : Int) ≤ K := by omega
    simp [d_is_positive, is_integer_ok, isI, this]
  have : (K : Int) ≤ 4 := by omega
  simp [d_is_hands, k, this]
theorem need_hands_ok {K : Nat} (h1 : 1 ≤ K) (h4 : K ≤ 4) : callN L P (n + 4) 14 [.dat (.int K)] m = .ok (.dat (.int K)) m := by
  rw [call_eq P_need_hands rfl]
  simp [d_need_hands, is_hands_ok h1 h4]
def hG (t t1 : Bool) (h : Hi) : PyData := mkS t (h.map fun p => mkS t1 [.int p.1, .int p.2])
theorem is_letter_ok {t1 : Bool} {p : Nat × Nat} {K D : Nat} (h1 : p.1 < K) (h2 : p.2 < D) : callN L P (n + 4) 15 [.dat (mkS t1 [.int p.1, .int p.2]), .dat (.int K), .dat (.int D)] m = .ok (.dat (.bool true)) m := by
  rw [call_eq P_is_letter rfl]
  have k := is_sequence_S (L := L) (n := n + 2) (m := m) t1 [.int p.1, .int p.2]
  simp [d_is_letter, k, is_below_int, h1, h2]
theorem check_row_ok {t t1 : Bool} {K D : Nat} {h : Hi} (k1 : 1 ≤ K) (k4 : K ≤ 4) (ho : HOk K D h) (hl : h.length ≤ 1000) : callN L P (n + 5) 16 [.dat (.int K), .dat (.int D), .dat (hG t t1 h)] m = .ok (.dat (hD h)) m := by
  rw [call_eq P_check_row rfl]
  obtain ⟨ds, hds⟩ : ∃ ds : List PyData, ds = h.map fun p => mkS t1 [.int p.1, .int p.2] := ⟨_, rfl⟩
  have hlen : ds.length = h.length := by rw [hds, List.length_map]
  have eG : hG t t1 h = mkS t ds := by unfold hG; rw [hds]
  have ks := is_sequence_S (L := L) (n := n + 3) (m := m) t ds
  have := forGo_inv (body := fun σ m => evSs L (callN L P (n + 4)) b_check_row_1 σ m) (tg := .tp [.nm 3, .nm 4]) (enumD 0 ds) (fun i σ m' => m' = m ∧ ∃ s3 s4, σ = [.v (.dat (.int K)), .v (.dat (.int D)), .v (.dat (mkS t ds)), s3, s4])
    (fun i d σ m' hd ⟨hm, s3, s4, hσ⟩ => by
      subst hm hσ
      obtain ⟨x, h1, rfl⟩ := Eng.enum_get hd
      rw [hds, List.getElem?_map, Option.map_eq_some_iff] at h1
      obtain ⟨p, hp, rfl⟩ := h1
      have hpo := ho p (List.mem_of_getElem? hp)
      have k := is_letter_ok (L := L) (n := n) (m := m') (t1 := t1) hpo.1 hpo.2
      refine ⟨[.v (.dat (.int K)), .v (.dat (.int D)), .v (.dat (mkS t ds)), .v (.dat (.int ((0 + i : Nat) : Int))), .v (.dat (mkS t1 [.int p.1, .int p.2]))], [.v (.dat (.int K)), .v (.dat (.int D)), .v (.dat (mkS t ds)), .v (.dat (.int ((0 + i : Nat) : Int))), .v (.dat (mkS t1 [.int p.1, .int p.2]))], _, rfl, ?_, rfl, _, _, rfl⟩
      simp [b_check_row_1, k])
    (m := m) (σ := [.v (.dat (.int K)), .v (.dat (.int D)), .v (.dat (mkS t ds)), .no, .no]) ⟨rfl, .no, .no, rfl⟩
  obtain ⟨σ', m', h1, rfl, s3, s4, rfl⟩ := this
  have loop : evS L (callN L P (n + 4)) l_check_row_1 [.v (.dat (.int K)), .v (.dat (.int D)), .v (.dat (mkS t ds)), .no, .no] m' = .ok (.nx, [.v (.dat (.int K)), .v (.dat (.int D)), .v (.dat (mkS t ds)), s3, s4]) m' := by
    show evS L _ (.for_ _ _ _) _ _ = _
    have es : seqU (.dat (mkS t ds)) m' = .ok ds m' := by cases t <;> rfl
    simp only [s_forE, it_enum, ev_var, getV, List.getElem?_cons_zero, List.getElem?_cons_succ, R.bind_ok, es, enumU]
    exact h1
  have key : evE (callN L P (n + 4)) c_check_row_1 [.v (.dat (.int K)), .v (.dat (.int D)), .v (.dat (mkS t ds)), s3, s4] m' = .ok (.dat (.list (hDl h))) m' := by
    refine ev_comp (ds := ds) (m1 := m') (by cases t <;> simp [mkS]) (small1001 (by rw [hlen]; exact hl)) ?_
    have e : hDl h = ds.map fun d => match d with
      | .tuple xs => .tuple xs
      | .list xs => .tuple xs
      | d => d := by
      rw [hds]
      unfold hDl
      rw [List.map_map]
      refine List.map_congr_left fun p _ => ?_
      cases t1 <;> rfl
    rw [e]
    refine compGo_pure fun d hd => ?_
    rw [hds] at hd
    obtain ⟨p, hp, rfl⟩ := List.mem_map.mp hd
    refine ⟨_, rfl, ?_⟩
    cases t1 <;> simp [e_check_row_1, mkS]
  rw [eG]
  have et : b1Val .tuple (.list (hDl h)) = some (hD h) := rfl
  simp [d_check_row, need_hands_ok k1 k4, ks, loop, bA_c_check_row_1, key, et]
theorem check_history_G {b s K : Nat} {rules : List (List Nat)} {h : Hi} (t t' t1 : Bool) (hm : MOk b s rules) (k1 : 1 ≤ K) (k4 : K ≤ 4) (ho : HOk K rules.length h) (hl : h.length ≤ 1000) : callN L P (n + 8) 17 [.dat (mD t s rules), .dat (.int K), .dat (hG t' t1 h)] m = .ok (.dat (hD h)) m := by
  rw [call_eq P_check_history rfl]
  have e1 : ixVal (mD true s rules) (.int 1) = some (.tuple (rD rules)) := rfl
  have k := check_machine_ok (L := L) (n := n) (m := m) t hm
  have k2 := check_row_ok (L := L) (n := n + 2) (m := m) (t := t') (t1 := t1) k1 k4 ho hl
  simp [d_check_history, k, e1, k2]
theorem check_history_ok {b s K : Nat} {rules : List (List Nat)} {h : Hi} (t : Bool) (hm : MOk b s rules) (k1 : 1 ≤ K) (k4 : K ≤ 4) (ho : HOk K rules.length h) (hl : h.length ≤ 1000) : callN L P (n + 8) 17 [.dat (mD t s rules), .dat (.int K), .dat (hD h)] m = .ok (.dat (hD h)) m := check_history_G t true true hm k1 k4 ho hl
def tabD (K s : Nat) (rules : List (List Nat)) (h : Hi) : PyData := tD true true (cnts K h) ((vecs (cnts K h)).map (board s rules h))
theorem cnts_nil (K : Nat) : cnts K [] = List.replicate K 0 := by
  unfold cnts
  apply List.ext_getElem?
  intro i
  rw [List.getElem?_map, List.getElem?_replicate]
  by_cases hi : i < K
  · rw [List.getElem?_range hi, if_pos hi]; rfl
  · rw [List.getElem?_eq_none (by rw [List.length_range]; omega), if_neg hi]; rfl
theorem vecs_rep (K : Nat) : vecs (List.replicate K 0) = [List.replicate K 0] := by
  induction K with
  | zero => rfl
  | succ K ih =>
    rw [List.replicate_succ', vecs_snoc, ih]
    rfl
theorem first_table_ok {b s K : Nat} {rules : List (List Nat)} (hm : MOk b s rules) (k1 : 1 ≤ K) (k4 : K ≤ 4) : callN L P (n + 9) 25 [.dat (mD true s rules), .dat (.int K)] m = .ok (.dat (tabD K s rules [])) m := by
  rw [call_eq P_first_table rfl]
  have k : callN L P (n + 8) 12 [.dat (mD true s rules)] m = .ok (.dat (mD true s rules)) m := check_machine_ok (L := L) (n := n + 1) (m := m) true hm
  have k2 : callN L P (n + 8) 17 [.dat (mD true s rules), .dat (.int K), .dat (.tuple [])] m = .ok (.dat (.tuple [])) m := check_history_ok (L := L) (n := n) (m := m) (h := []) true hm k1 k4 (fun p hp => absurd hp (by simp)) (by simp)
  have e0 : ixVal (mD true s rules) (.int 0) = some (.int s) := rfl
  have hmul := mul_zero k1 k4
  have et : tabD K s rules [] = .tuple [tI (List.replicate K 0), .tuple [.int s]] := by
    unfold tabD
    rw [cnts_nil, vecs_rep]; rfl
  rw [et]
  simp [d_first_table, k, k2, e0, hmul]
theorem table_of_ok {b s K : Nat} {rules : List (List Nat)} {h : Hi} (hm : MOk b s rules) (k1 : 1 ≤ K) (k4 : K ≤ 4) (ho : HOk K rules.length h) (hl : h.length ≤ 10) {hg : PyData} (c3 : callN L P (n + 9) 17 [.dat (mD true s rules), .dat (.int K), .dat hg] m = .ok (.dat (hD h)) m) : callN L P (n + 10) 27 [.dat (mD true s rules), .dat (.int K), .dat hg] m = .ok (.dat (tabD K s rules h)) m := by
  rw [call_eq P_table_of rfl]
  have c1 : callN L P (n + 9) 12 [.dat (mD true s rules)] m = .ok (.dat (mD true s rules)) m := check_machine_ok (L := L) (n := n + 2) (m := m) true hm
  have c2 := first_table_ok (L := L) (n := n) (m := m) hm k1 k4
  have := forGo_inv (body := fun σ m => evSs L (callN L P (n + 9)) b_table_of_1 σ m) (tg := .tp [.nm 5, .nm 6]) (hDl h) (fun i σ m' => m' = m ∧ ∃ s5 s6, σ = [.v (.dat (mD true s rules)), .v (.dat (.int K)), .v (.dat hg), .v (.dat (mD true s rules)), .v (.dat (tabD K s rules (h.take i))), s5, s6])
    (fun i d σ m' hd ⟨hmm, s5, s6, hσ⟩ => by
      subst hmm hσ
      unfold hDl at hd
      rw [List.getElem?_map, Option.map_eq_some_iff] at hd
      obtain ⟨⟨a, d⟩, hp, rfl⟩ := hd
      have hpo := ho _ (List.mem_of_getElem? hp)
      have ha : a < K := hpo.1
      have hd : d < rules.length := hpo.2
      have hot : HOk K rules.length (h.take i) := fun p hp => ho p (List.mem_of_mem_take hp)
      have hlt : (h.take i).length ≤ 9 := by
        rw [List.length_take]
        have := (List.getElem?_eq_some_iff.mp hp).1
        omega
      rw [take_snoc hp]
      generalize h.take i = g at hot hlt
      have hl' : (g ++ [(a, d)]).length ≤ 10 := by rw [List.length_append, List.length_singleton]; omega
      have eb := cnts_bump (d := d) g ha
      have hc : COk (bump (cnts K g) a) := by rw [← eb]; exact cok k1 k4 hl'
      have hp' : prod1 (bump (cnts K g) a) ≤ 1000 := by rw [← eb]; exact prod_ok k4 hl'
      have k := grown_ok (L := L) (n := n + 3) (m := m') (a := a) (d := d) hm (tok hm hot k1 k4 (by omega) b (Nat.le_refl _)) rfl (by rw [cnts_len]; exact ha) hd hc hp'
      have er : tD true true (bump (cnts K g) a) ((vecs (bump (cnts K g) a)).map (grow (board s rules g) rules (bump (cnts K g) a) a d)) = tabD K s rules (g ++ [(a, d)]) := by
        unfold tabD
        rw [eb]
        congr 1
        refine List.map_congr_left fun w hw => ?_
        exact board_grow g ha (by rw [eb]; exact vecs_in hw)
      rw [er] at k
      have k' : callN L P (n + 9) 26 [.dat (mD true s rules), .dat (tabD K s rules g), .dat (.int a), .dat (.int d)] m' = .ok (.dat (tabD K s rules (g ++ [(a, d)]))) m' := k
      refine ⟨[.v (.dat (mD true s rules)), .v (.dat (.int K)), .v (.dat hg), .v (.dat (mD true s rules)), .v (.dat (tabD K s rules g)), .v (.dat (.int a)), .v (.dat (.int d))], [.v (.dat (mD true s rules)), .v (.dat (.int K)), .v (.dat hg), .v (.dat (mD true s rules)), .v (.dat (tabD K s rules (g ++ [(a, d)]))), .v (.dat (.int a)), .v (.dat (.int d))], _, rfl, ?_, rfl, _, _, rfl⟩
      simp [b_table_of_1, k'])
    (m := m) (σ := [.v (.dat (mD true s rules)), .v (.dat (.int K)), .v (.dat hg), .v (.dat (mD true s rules)), .v (.dat (tabD K s rules [])), .no, .no]) ⟨rfl, .no, .no, rfl⟩
  obtain ⟨σ', m', h1, rfl, s5, s6, rfl⟩ := this
  rw [hDl_len, List.take_length] at h1
  have loop : evS L (callN L P (n + 9)) l_table_of_1 [.v (.dat (mD true s rules)), .v (.dat (.int K)), .v (.dat hg), .v (.dat (mD true s rules)), .v (.dat (tabD K s rules [])), .no, .no] m' = .ok (.nx, [.v (.dat (mD true s rules)), .v (.dat (.int K)), .v (.dat hg), .v (.dat (mD true s rules)), .v (.dat (tabD K s rules h)), s5, s6]) m' := by
    show evS L _ (.for_ _ _ _) _ _ = _
    simp only [s_forE, it_seq, ev_call, ev_cons, ev_nil, ev_var, getV, List.getElem?_cons_zero, List.getElem?_cons_succ, R.bind_ok, c3]
    exact h1
  simp [d_table_of, c1, c2, loop]
theorem any_map {α : Type} (g : α → Bool) (l : List α) : b1Val .any (.list (l.map fun x => PyData.bool (g x))) = some (.bool (l.any g)) := by
  show (match asBools _ with | some bs => some (PyData.bool (bs.any id)) | none => (asInts _).map fun (ns : List Int) => PyData.bool (ns.any fun i => i != 0)) = _
  rw [asBools_map]
  show some (PyData.bool _) = _
  congr 2
  rw [List.any_map]; rfl
def Small (h : Hi) : Prop := ∀ p ∈ h, p.1 < 16 ∧ p.2 < 16
end K23

set_option Elab.async false
set_option linter.all false
set_option maxRecDepth 100000
set_option maxHeartbeats 2000000
namespace K23
open PySem PySem.Spec PyProof.Rows L2 Eng
variable {L n : Nat} {m : Mem}
/-! ### drawn machines -/
theorem pick_two {q x y : Nat} (hB : Bx q m) : ∃ (r : Nat) (m' : Mem), (r = x ∨ r = y) ∧ callN L P (n + 2) 37 [.ref q, .dat (.list [.int x, .int y])] m = .ok (.dat (.int r)) m' ∧ Bx q m' := by
  obtain ⟨d, m', h1, h2, h3⟩ := pick_box (L := L) (n := n) (m := m) (xs := [.int x, .int y]) hB (by simp) (by simp)
  simp only [List.mem_cons, List.not_mem_nil, or_false] at h1
  rcases h1 with rfl | rfl
  · exact ⟨x, m', .inl rfl, h2, h3⟩
  · exact ⟨y, m', .inr rfl, h2, h3⟩
theorem mdraw_ok {q b st : Nat} {u1 u2 u4 : U} {ms : List PyData} {s7 s8 : Sl} (hB : Bx q m) (hk : 1 ≤ b) (hk2 : b ≤ 1000) : ∃ (r : List Nat) (m' : Mem), r.length = b ∧ (∀ x ∈ r, x < b) ∧
    evS L (callN L P (n + 2)) (.own 7 c__law_machine_1) [.v (.ref q), .v u1, .v u2, .v (.dat (.int b)), .v u4, .own ms, .v (.dat (.int st)), s7, s8] m = .ok (.nx, [.v (.ref q), .v u1, .v u2, .v (.dat (.int b)), .v u4, .own ms, .v (.dat (.int st)), .own (iD r), s8]) m' ∧ Bx q m' := by
  obtain ⟨xs, m', h1, h2, h3⟩ := compGo_inv (elt := fun σ m => (evE (callN L P (n + 2)) e__law_machine_1 σ m).quiet) (tg := .nm 8) (σ := [.v (.ref q), .v u1, .v u2, .v (.dat (.int b)), .v u4, .own ms, .v (.dat (.int st)), s7, .no]) (I := Bx q) (Rr := fun _ x => ∃ y : Nat, y < b ∧ x = PyData.int y) (ds := rngD 0 b) hB fun d hd m hB => by
    rw [rng0] at hd
    obtain ⟨i, hi, rfl⟩ := List.mem_map.mp hd
    rw [List.mem_range] at hi
    obtain ⟨r, m1, k1, k2, k3⟩ := take_ok (L := L) (n := n + 1) (k := 4) hB (by omega) (by omega)
    have k2' : callN L P (n + 2) 36 [.ref q, .dat (.int 4)] m = .ok (.dat (.int r)) m1 := k2
    by_cases hs : r < st
    · refine ⟨_, .int i, m1, rfl, ?_, k3, i, hi, rfl⟩
      have : (r : Int) < st := by omega
      simp [e__law_machine_1, k2', this]
    · obtain ⟨y, m2, k4, k5, k6⟩ := take_ok (L := L) (n := n + 1) (k := b) k3 hk hk2
      refine ⟨_, .int y, m2, rfl, ?_, k6, y, k4, rfl⟩
      have : ¬ (r : Int) < st := by omega
      simp [e__law_machine_1, k2', this, k5]
  obtain ⟨r, rfl, h4, h5⟩ := all2_nat h3
  refine ⟨r, m', by rw [h4, rng_len], h5, ?_, h2⟩
  have key : evE (callN L P (n + 2)) c__law_machine_1 [.v (.ref q), .v u1, .v u2, .v (.dat (.int b)), .v u4, .own ms, .v (.dat (.int st)), s7, s8] m = .ok (.dat (.list (iD r))) m' :=
    ev_comp (ds := rngD 0 b) (m1 := m) (by simp [rng1_nat (show b ≤ 100000 by omega)]) (small1001 (by rw [rng_len]; exact hk2)) h1
  simp [key]
theorem rD_get {rs : List (List Nat)} {i : Nat} (h : i < rs.length) : L2.atI (rD rs) (i : Int) = some (tI (rs.getD i [])) := by
  refine atI_nat ?_
  unfold rD
  rw [List.getElem?_map, List.getElem?_eq_getElem h, List.getD_eq_getElem?_getD, List.getElem?_eq_getElem h]; rfl
theorem mbody_ok {q b st : Nat} {u1 u2 u4 : U} {rs : List (List Nat)} {s7 s8 : Sl} (hB : Bx q m) (hk : 1 ≤ b) (hk2 : b ≤ 1000) (hl : rs.length ≤ 900) (hr : ∀ r ∈ rs, r.length = b ∧ ∀ y ∈ r, y < b) : ∃ (r : List Nat) (m' : Mem) (s7' : Sl), (r.length = b ∧ ∀ x ∈ r, x < b) ∧
    evSs L (callN L P (n + 2)) b__law_machine_1 [.v (.ref q), .v u1, .v u2, .v (.dat (.int b)), .v u4, .own (rD rs), .v (.dat (.int st)), s7, s8] m = .ok (.nx, [.v (.ref q), .v u1, .v u2, .v (.dat (.int b)), .v u4, .own (rD (rs ++ [r])), .v (.dat (.int st)), s7', s8]) m' ∧ Bx q m' := by
  obtain ⟨r, m1, h1, h2, h3, h4⟩ := mdraw_ok (L := L) (n := n) (m := m) (q := q) (b := b) (st := st) (u1 := u1) (u2 := u2) (u4 := u4) (ms := rD rs) (s7 := s7) (s8 := s8) hB hk hk2
  have hz : (rD rs).length < sizeLine := by rw [rD_len]; exact Nat.lt_of_lt_of_le (show rs.length < 1000 by omega) (small1001 (Nat.le_refl 1000))
  have ea : ∀ r : List Nat, rD rs ++ [.tuple (iD r)] = rD (rs ++ [r]) := fun r => by unfold rD; rw [List.map_append]; rfl
  have fin : ∀ (r : List Nat) (m : Mem), evS L (callN L P (n + 2)) (.app 5 (.b1 .tuple (.bv 7))) [.v (.ref q), .v u1, .v u2, .v (.dat (.int b)), .v u4, .own (rD rs), .v (.dat (.int st)), .own (iD r), s8] m = .ok (.nx, [.v (.ref q), .v u1, .v u2, .v (.dat (.int b)), .v u4, .own (rD (rs ++ [r])), .v (.dat (.int st)), .own (iD r), s8]) m := fun r m => by
    have et : b1Val .tuple (.list (iD r)) = some (.tuple (iD r)) := rfl
    simp [et, app_ok hz, ea]
  unfold b__law_machine_1
  by_cases he : rs = []
  · subst he
    refine ⟨r, m1, .own (iD r), ⟨h1, h2⟩, ?_, h4⟩
    rw [s_cons, h3, R.bind_ok, then_nx, s_cons]
    have e0 : evS L (callN L P (n + 2)) (.ife (.and (.cmp .gt (.b1 .len (.bv 5)) (.cst (.int 0))) (.cmp .eq (.call 36 (.cons (.var 0) (.cons (.cst (.int 2)) .nil))) (.cst (.int 0)))) (.cons (.own 7 (.b1 .list (.ix (.bv 5) (.call 36 (.cons (.var 0) (.cons (.b1 .len (.bv 5)) .nil)))))) (.cons (.setO 7 (.call 36 (.cons (.var 0) (.cons (.var 3) .nil))) (.call 36 (.cons (.var 0) (.cons (.var 3) .nil)))) .nil)) .nil) [.v (.ref q), .v u1, .v u2, .v (.dat (.int b)), .v u4, .own (rD []), .v (.dat (.int st)), .own (iD r), s8] m1 = .ok (.nx, [.v (.ref q), .v u1, .v u2, .v (.dat (.int b)), .v u4, .own (rD []), .v (.dat (.int st)), .own (iD r), s8]) m1 := by
      have el : b1Val .len (.list (rD [])) = some (.int 0) := rfl
      simp [el]
    rw [e0, R.bind_ok, then_nx, s_cons, fin r m1]; rfl
  · have hp : 0 < rs.length := List.length_pos_iff.mpr he
    have el : b1Val .len (.list (rD rs)) = some (.int (rs.length : Nat)) := by show some (PyData.int ((rD rs).length : Nat)) = _; rw [rD_len]
    have hp' : (0 : Int) < (rs.length : Nat) := by omega
    obtain ⟨z, m2, k1, k2, k3⟩ := take_ok (L := L) (n := n + 1) (k := 2) h4 (by omega) (by omega)
    have k2' : callN L P (n + 2) 36 [.ref q, .dat (.int 2)] m1 = .ok (.dat (.int z)) m2 := k2
    by_cases hz0 : z = 0
    · subst hz0
      obtain ⟨i, m3, k4, k5, k6⟩ := take_ok (L := L) (n := n + 1) (k := rs.length) k3 (by omega) (by omega)
      obtain ⟨x, m4, k7, k8, k9⟩ := take_ok (L := L) (n := n + 1) (k := b) k6 hk hk2
      obtain ⟨y, m5, l1, l2, l3⟩ := take_ok (L := L) (n := n + 1) (k := b) k9 hk hk2
      have hri : (rs.getD i []).length = b ∧ ∀ y ∈ rs.getD i [], y < b := by
        rw [List.getD_eq_getElem?_getD, List.getElem?_eq_getElem k4]
        exact hr _ (List.getElem_mem k4)
      refine ⟨(rs.getD i []).set y x, m5, .own (iD ((rs.getD i []).set y x)), ⟨by rw [List.length_set]; exact hri.1, set_bits hri.2 k7⟩, ?_, l3⟩
      rw [s_cons, h3, R.bind_ok, then_nx, s_cons]
      have e6 := fun σ : Eng.Env => setO_ok (m := m5) (σ := σ) (i := 7) (xs := iD (rs.getD i [])) (a := y) (d := .int (x : Int)) (by rw [iD_len, hri.1]; exact l1)
      have e7 : ixVal (.list (rD rs)) (.int (i : Int)) = some (tI (rs.getD i [])) := rD_get k4
      have e8 : b1Val .list (tI (rs.getD i [])) = some (.list (iD (rs.getD i []))) := rfl
      have e0 : evS L (callN L P (n + 2)) (.ife (.and (.cmp .gt (.b1 .len (.bv 5)) (.cst (.int 0))) (.cmp .eq (.call 36 (.cons (.var 0) (.cons (.cst (.int 2)) .nil))) (.cst (.int 0)))) (.cons (.own 7 (.b1 .list (.ix (.bv 5) (.call 36 (.cons (.var 0) (.cons (.b1 .len (.bv 5)) .nil)))))) (.cons (.setO 7 (.call 36 (.cons (.var 0) (.cons (.var 3) .nil))) (.call 36 (.cons (.var 0) (.cons (.var 3) .nil)))) .nil)) .nil) [.v (.ref q), .v u1, .v u2, .v (.dat (.int b)), .v u4, .own (rD rs), .v (.dat (.int st)), .own (iD r), s8] m1 = .ok (.nx, [.v (.ref q), .v u1, .v u2, .v (.dat (.int b)), .v u4, .own (rD rs), .v (.dat (.int st)), .own (iD ((rs.getD i []).set y x)), s8]) m5 := by
        rw [← iD_set]
        simp [el, hp, k2', k5, e7, e8, k8, l2, e6, -List.getD_eq_getElem?_getD]
      rw [e0, R.bind_ok, then_nx, s_cons, fin _ m5]; rfl
    · refine ⟨r, m2, .own (iD r), ⟨h1, h2⟩, ?_, k3⟩
      have hz0' : ¬ (z : Int) = 0 := by omega
      rw [s_cons, h3, R.bind_ok, then_nx, s_cons]
      have e0 : evS L (callN L P (n + 2)) (.ife (.and (.cmp .gt (.b1 .len (.bv 5)) (.cst (.int 0))) (.cmp .eq (.call 36 (.cons (.var 0) (.cons (.cst (.int 2)) .nil))) (.cst (.int 0)))) (.cons (.own 7 (.b1 .list (.ix (.bv 5) (.call 36 (.cons (.var 0) (.cons (.b1 .len (.bv 5)) .nil)))))) (.cons (.setO 7 (.call 36 (.cons (.var 0) (.cons (.var 3) .nil))) (.call 36 (.cons (.var 0) (.cons (.var 3) .nil)))) .nil)) .nil) [.v (.ref q), .v u1, .v u2, .v (.dat (.int b)), .v u4, .own (rD rs), .v (.dat (.int st)), .own (iD r), s8] m1 = .ok (.nx, [.v (.ref q), .v u1, .v u2, .v (.dat (.int b)), .v u4, .own (rD rs), .v (.dat (.int st)), .own (iD r), s8]) m2 := by
        simp [el, hp, k2', hz0]
      rw [e0, R.bind_ok, then_nx, s_cons, fin r m2]; rfl
theorem machine_ok {q B D : Nat} (hB : Bx q m) (b1 : 1 ≤ B) (b8 : B ≤ 8) (d1 : 1 ≤ D) (d6 : D ≤ 6) : ∃ (b s : Nat) (rules : List (List Nat)) (m' : Mem), MOk b s rules ∧ b ≤ B ∧ rules.length ≤ D ∧ callN L P (n + 4) 38 [.ref q, .dat (.int B), .dat (.int D)] m = .ok (.dat (mD true s rules)) m' ∧ Bx q m' := by
  rw [call_eq P__law_machine rfl]
  obtain ⟨r, m1, a1, a2, a3⟩ := take_ok (L := L) (n := n + 2) (k := B) hB (by omega) (by omega)
  obtain ⟨r', m2, c1, c2, c3⟩ := pick_two (L := L) (n := n + 1) (x := r) (y := B - 1) a3
  obtain ⟨st, m3, e1, e2, e3⟩ := take_ok (L := L) (n := n + 2) (k := 3) c3 (by omega) (by omega)
  obtain ⟨t, m4, f1, f2, f3⟩ := take_ok (L := L) (n := n + 2) (k := D) e3 d1 (by omega)
  obtain ⟨N, m5, g1, g2, g3⟩ := pick_two (L := L) (n := n + 1) (x := 1 + t) (y := D) f3
  have hb : r' < B := by omega
  have hN : 1 ≤ N ∧ N ≤ D := by omega
  have := forGo_inv (body := fun σ m => evSs L (callN L P (n + 3)) b__law_machine_1 σ m) (tg := .nm 4) (rngD 0 N) (fun i σ m' => Bx q m' ∧ ∃ (rs : List (List Nat)) (s4 s7 s8 : Sl), rs.length = i ∧ i ≤ N ∧ (∀ r ∈ rs, r.length = 1 + r' ∧ ∀ y ∈ r, y < 1 + r') ∧ σ = [.v (.ref q), .v (.dat (.int B)), .v (.dat (.int D)), .v (.dat (.int ((1 + r' : Nat) : Int))), s4, .own (rD rs), .v (.dat (.int st)), s7, s8])
    (fun i d σ m' hd ⟨hB, rs, s4, s7, s8, hl, hi, hr, hσ⟩ => by
      subst hσ
      have hi' : i < N := by have := (List.getElem?_eq_some_iff.mp hd).1; rwa [rng_len] at this
      obtain ⟨w, m6, s7', w1, w2, w3⟩ := mbody_ok (L := L) (n := n + 1) (m := m') (q := q) (b := 1 + r') (st := st) (u1 := .dat (.int B)) (u2 := .dat (.int D)) (u4 := .dat d) (rs := rs) (s7 := s7) (s8 := s8) hB (by omega) (by omega) (by omega) hr
      refine ⟨_, _, m6, rfl, w2, w3, rs ++ [w], _, s7', s8, by rw [List.length_append, hl]; rfl, hi', fun z hz => ?_, rfl⟩
      rcases List.mem_append.mp hz with hz | hz
      · exact hr z hz
      · rw [List.mem_singleton.mp hz]; exact w1)
    (m := m5) (σ := [.v (.ref q), .v (.dat (.int B)), .v (.dat (.int D)), .v (.dat (.int ((1 + r' : Nat) : Int))), .no, .own [], .v (.dat (.int st)), .no, .no]) ⟨g3, [], .no, .no, .no, rfl, Nat.zero_le _, fun _ h => absurd h (by simp), rfl⟩
  obtain ⟨σ', m', z1, hB', rs, s4, s7, s8, hl, _, hr, rfl⟩ := this
  rw [rng_len] at hl
  obtain ⟨s, m7, y1, y2, y3⟩ := take_ok (L := L) (n := n + 2) (k := 1 + r') hB' (by omega) (by omega)
  refine ⟨1 + r', s, rs, m7, ⟨y1, by omega, by intro z; rw [z] at hl; simp at hl; omega, by omega, hr⟩, by omega, by omega, ?_, y3⟩
  have eB : (B : Int) - 1 = ((B - 1 : Nat) : Int) := by omega
  have e1t : (1 : Int) + (t : Int) = ((1 + t : Nat) : Int) := by omega
  have e1r : (1 : Int) + (r' : Int) = ((1 + r' : Nat) : Int) := by omega
  have a2' : callN L P (n + 3) 36 [.ref q, .dat (.int B)] m = .ok (.dat (.int r)) m1 := a2
  have c2' : callN L P (n + 3) 37 [.ref q, .dat (.list [.int r, .int ((B : Int) - 1)])] m1 = .ok (.dat (.int r')) m2 := by rw [eB]; exact c2
  have e2' : callN L P (n + 3) 36 [.ref q, .dat (.int 3)] m2 = .ok (.dat (.int st)) m3 := e2
  have f2' : callN L P (n + 3) 36 [.ref q, .dat (.int D)] m3 = .ok (.dat (.int t)) m4 := f2
  have g2' : callN L P (n + 3) 37 [.ref q, .dat (.list [.int (1 + (t : Int)), .int D])] m4 = .ok (.dat (.int N)) m5 := by rw [e1t]; exact g2
  have loop : evS L (callN L P (n + 3)) l__law_machine_1 [.v (.ref q), .v (.dat (.int B)), .v (.dat (.int D)), .v (.dat (.int ((1 + r' : Nat) : Int))), .no, .own [], .v (.dat (.int st)), .no, .no] m3 = .ok (.nx, [.v (.ref q), .v (.dat (.int B)), .v (.dat (.int D)), .v (.dat (.int ((1 + r' : Nat) : Int))), s4, .own (rD rs), .v (.dat (.int st)), s7, s8]) m' := by
    show evS L _ (.for_ _ _ _) _ _ = _
    have ei : evI (callN L P (n + 3)) (.rng1 (.call 37 (.cons (.var 0) (.cons (.lst (.cons (.bin .add (.cst (.int 1)) (.call 36 (.cons (.var 0) (.cons (.var 2) .nil)))) (.cons (.var 2) .nil))) .nil)))) [.v (.ref q), .v (.dat (.int B)), .v (.dat (.int D)), .v (.dat (.int ((1 + r' : Nat) : Int))), .no, .own [], .v (.dat (.int st)), .no, .no] m3 = .ok (rngD 0 N) m5 := by
      simp [f2', g2', rng1_nat (show N ≤ 100000 by omega)]
    rw [s_forE, ei, R.bind_ok]
    exact z1
  rw [e1r.symm] at y2 loop
  simp [d__law_machine, a2', c2', e2', loop, y2, mD, mkS]
end K23

set_option Elab.async false
set_option linter.all false
set_option maxRecDepth 100000
set_option maxHeartbeats 2000000
namespace K23
open PySem PySem.Spec PyProof.Rows L2 Eng
/-! ### steps of histories: the plain law -/
inductive St where
  | ex (i : Nat) | put (i d : Nat)
  deriving DecidableEq
def lt0 (h : Hi) (i : Nat) : Nat × Nat := h.getD i (0, 0)
def stepH (h : Hi) : St → Hi
  | .ex i => (h.set i (lt0 h (i + 1))).set (i + 1) (lt0 h i)
  | .put i d => h.set i ((lt0 h i).1, d)
/-- a step of a history, seen or not -/
def vS (D : Nat) (h : Hi) : St → Prop
  | .ex i => i + 1 < h.length ∧ (lt0 h i).1 ≠ (lt0 h (i + 1)).1
  | .put i d => i < h.length ∧ d < D ∧ d ≠ (lt0 h i).2
def lotV (K : Nat) (p : Hi) (ws : List Nat) : List (List Nat) := (vecs (cnts K p)).filter fun v => ws.all fun a => v.getD a 0 == (cnts K p).getD a 0
def lot (s : Nat) (rules : List (List Nat)) (K : Nat) (p : Hi) (ws : List Nat) : List Nat := (lotV K p ws).map (board s rules p)
def unsP (s : Nat) (rules : List (List Nat)) (K : Nat) (h : Hi) : St → Bool
  | .put i d => (lot s rules K (h.take i) [(lt0 h i).1]).all fun b => stepR rules d b == stepR rules (lt0 h i).2 b
  | .ex i => (lot s rules K (h.take i) [(lt0 h i).1, (lt0 h (i + 1)).1]).all fun b => stepR rules (lt0 h i).2 (stepR rules (lt0 h (i + 1)).2 b) == stepR rules (lt0 h (i + 1)).2 (stepR rules (lt0 h i).2 b)
theorem replay_len (rules : List (List Nat)) : ∀ (h : Hi) (st : Nat × List Nat), (replay rules h st).2.length = st.2.length
  | [], _ => rfl
  | p :: h, st => by
    show (replay rules h (rstep rules st p)).2.length = _
    rw [replay_len rules h]
    unfold rstep
    split
    · rw [List.length_set]
    · rfl
theorem replay_min (rules : List (List Nat)) : ∀ (h : Hi) (b : Nat) (l1 l2 : List Nat), l1.length = l2.length → (∀ i, min (l1.getD i 0) (cnt h i) = min (l2.getD i 0) (cnt h i)) → (replay rules h (b, l1)).1 = (replay rules h (b, l2)).1
  | [], _, _, _, _, _ => rfl
  | (a, d) :: h, b, l1, l2, hl, hm => by
    show (replay rules h (rstep rules (b, l1) (a, d))).1 = (replay rules h (rstep rules (b, l2) (a, d))).1
    have ha := hm a
    rw [cnt_cons] at ha
    simp only [if_true] at ha
    unfold rstep
    by_cases h1 : 0 < l1.getD a 0
    · have h2 : 0 < l2.getD a 0 := by omega
      rw [if_pos h1, if_pos h2]
      refine replay_min rules h _ _ _ (by rw [List.length_set, List.length_set, hl]) fun i => ?_
      have hi := hm i
      rw [cnt_cons] at hi
      have q1 : a < l1.length := by
        rcases Nat.lt_or_ge a l1.length with q | q
        · exact q
        · rw [List.getD_eq_getElem?_getD, List.getElem?_eq_none q] at h1; simp at h1
      rw [getD_set, getD_set]
      by_cases e : i = a
      · subst e
        rw [if_pos ⟨rfl, q1⟩, if_pos ⟨rfl, by show i < l2.length; omega⟩]
        show min (l1.getD i 0 - 1) (cnt h i) = min (l2.getD i 0 - 1) (cnt h i)
        omega
      · rw [if_neg (fun z => e z.1), if_neg (fun z => e z.1)]
        simp only at hi
        rw [if_neg (fun z => e z.symm)] at hi
        simpa using hi
    · have h2 : ¬ 0 < l2.getD a 0 := by omega
      rw [if_neg h1, if_neg h2]
      refine replay_min rules h _ _ _ hl fun i => ?_
      have hi := hm i
      rw [cnt_cons] at hi
      by_cases e : a = i
      · subst e
        have : l1.getD a 0 = 0 := by omega
        have : l2.getD a 0 = 0 := by omega
        omega
      · simp only at hi
        rw [if_neg e] at hi
        simpa using hi
theorem replay_zero (rules : List (List Nat)) : ∀ (h : Hi) (b : Nat) (l : List Nat), (∀ i, l.getD i 0 = 0) → (replay rules h (b, l)).1 = b
  | [], _, _, _ => rfl
  | (a, d) :: h, b, l, hl => by
    show (replay rules h (rstep rules (b, l) (a, d))).1 = b
    unfold rstep
    rw [if_neg (by rw [hl a]; omega)]
    exact replay_zero rules h b l hl
/-- a vector cut to what stands -/
def cutV (K : Nat) (p : Hi) (v : List Nat) : List Nat := (List.range K).map fun i => min (v.getD i 0) (cnt p i)
theorem cutV_get {K i : Nat} {p : Hi} {v : List Nat} (hi : i < K) : (cutV K p v).getD i 0 = min (v.getD i 0) (cnt p i) := by
  unfold cutV
  rw [List.getD_eq_getElem?_getD, List.getElem?_map, List.getElem?_range hi]; rfl
theorem getD_out {l : List Nat} {i : Nat} (h : l.length ≤ i) : l.getD i 0 = 0 := by
  rw [List.getD_eq_getElem?_getD, List.getElem?_eq_none h]; rfl
theorem inV_iff {K : Nat} {h : Hi} {v : List Nat} : InV (cnts K h) v ↔ v.length = K ∧ ∀ i, i < K → v.getD i 0 ≤ cnt h i := by
  constructor
  · intro ⟨h1, h2⟩
    rw [cnts_len] at h1
    refine ⟨h1, fun i hi => ?_⟩
    have hv : i < v.length := by omega
    rw [List.getD_eq_getElem?_getD, List.getElem?_eq_getElem hv]
    exact h2 i _ _ (List.getElem?_eq_getElem hv) (cnts_get h hi)
  · intro ⟨h1, h2⟩
    refine ⟨by rw [cnts_len]; exact h1, fun i x c hx hc => ?_⟩
    have hi : i < K := by have := (List.getElem?_eq_some_iff.mp hc).1; rwa [cnts_len] at this
    rw [cnts_get h hi] at hc
    cases hc
    have := h2 i hi
    rw [List.getD_eq_getElem?_getD, hx] at this
    exact this
theorem cutV_in (K : Nat) (p : Hi) (v : List Nat) : InV (cnts K p) (cutV K p v) := inV_iff.mpr ⟨by unfold cutV; simp, fun i hi => by rw [cutV_get hi]; omega⟩
theorem board_cut {s K : Nat} {rules : List (List Nat)} {p : Hi} {v : List Nat} (hv : v.length = K) : board s rules p v = board s rules p (cutV K p v) := by
  refine replay_min rules p s v _ (by rw [hv]; unfold cutV; simp) fun i => ?_
  by_cases hi : i < K
  · rw [cutV_get hi]; omega
  · rw [getD_out (by omega), getD_out (by unfold cutV; simp; omega)]
theorem put_iff {s K : Nat} {rules : List (List Nat)} {p r : Hi} {a d e : Nat} (ha : a < K) :
    (∀ w, InV (cnts K p) w → w.getD a 0 = cnt p a → stepR rules d (board s rules p w) = stepR rules e (board s rules p w)) ↔
    ∀ v, InV (cnts K (p ++ (a, e) :: r)) v → board s rules (p ++ (a, d) :: r) v = board s rules (p ++ (a, e) :: r) v := by
  have ev : ∀ (x : Nat) (v : List Nat), board s rules (p ++ (a, x) :: r) v = (replay rules r (rstep rules (replay rules p (s, v)) (a, x))).1 := fun x v => by
    unfold board; rw [replay_app]; rfl
  constructor
  · intro H v hv
    obtain ⟨hv1, hv2⟩ := inV_iff.mp hv
    rw [ev, ev]
    have hl := replay_left rules a p (s, v)
    unfold rstep
    by_cases hp : 0 < (replay rules p (s, v)).2.getD a 0
    · rw [if_pos hp, if_pos hp]
      have := H (cutV K p v) (cutV_in K p v) (by rw [cutV_get ha]; simp only at hl; omega)
      rw [← board_cut hv1] at this
      have e' : stepR rules d (replay rules p (s, v)).1 = stepR rules e (replay rules p (s, v)).1 := this
      rw [e']
    · rw [if_neg hp, if_neg hp]
  · intro H w hw he
    obtain ⟨hw1, hw2⟩ := inV_iff.mp hw
    have hwa : a < w.length := by omega
    have cn : ∀ i, cnt (p ++ (a, e) :: r) i = cnt p i + ((if a = i then 1 else 0) + cnt r i) := fun i => by rw [cnt_app, cnt_cons]
    have hv : InV (cnts K (p ++ (a, e) :: r)) (w.set a (cnt p a + 1)) := inV_iff.mpr ⟨by rw [List.length_set]; exact hw1, fun i hi => by
      rw [getD_set, cn]
      by_cases q : i = a
      · subst q
        rw [if_pos ⟨rfl, hwa⟩, if_pos rfl]; omega
      · rw [if_neg (fun z => q z.1), if_neg (fun z => q z.symm)]
        have := hw2 i hi; omega⟩
    have H1 := H _ hv
    rw [ev, ev] at H1
    have eb : (replay rules p (s, w.set a (cnt p a + 1))).1 = board s rules p w := by
      refine replay_min rules p s _ _ (by rw [List.length_set]) fun i => ?_
      rw [getD_set]
      by_cases q : i = a
      · subst q; rw [if_pos ⟨rfl, hwa⟩]; omega
      · rw [if_neg (fun z => q z.1)]
    have hl : ∀ i, (replay rules p (s, w.set a (cnt p a + 1))).2.getD i 0 = if i = a then 1 else 0 := fun i => by
      rw [replay_left]
      show (w.set a (cnt p a + 1)).getD i 0 - cnt p i = _
      rw [getD_set]
      by_cases q : i = a
      · subst q; rw [if_pos ⟨rfl, hwa⟩, if_pos rfl]; omega
      · rw [if_neg (fun z => q z.1), if_neg q]
        by_cases hi : i < K
        · have := hw2 i hi; omega
        · rw [getD_out (by omega)]; omega
    have one : ∀ x, (replay rules r (rstep rules (replay rules p (s, w.set a (cnt p a + 1))) (a, x))).1 = stepR rules x (board s rules p w) := fun x => by
      unfold rstep
      rw [if_pos (by rw [hl, if_pos rfl]; omega)]
      rw [replay_zero, eb]
      intro i
      rw [getD_set, hl, hl]
      by_cases q : i = a
      · subst q; rw [if_pos rfl, if_pos ⟨rfl, by rw [replay_len]; show i < (w.set i (cnt p i + 1)).length; rw [List.length_set]; exact hwa⟩]
      · rw [if_neg (fun z => q z.1), if_neg q]
    rw [one, one] at H1
    exact H1
theorem ex_iff {s K : Nat} {rules : List (List Nat)} {p r : Hi} {a c d e : Nat} (ha : a < K) (hc : c < K) (hac : a ≠ c) :
    (∀ w, InV (cnts K p) w → w.getD a 0 = cnt p a → w.getD c 0 = cnt p c → stepR rules d (stepR rules e (board s rules p w)) = stepR rules e (stepR rules d (board s rules p w))) ↔
    ∀ v, InV (cnts K (p ++ (a, d) :: (c, e) :: r)) v → board s rules (p ++ (c, e) :: (a, d) :: r) v = board s rules (p ++ (a, d) :: (c, e) :: r) v := by
  have ev : ∀ (x y : Nat × Nat) (v : List Nat), board s rules (p ++ x :: y :: r) v = (replay rules r (rstep rules (rstep rules (replay rules p (s, v)) x) y)).1 := fun x y v => by
    unfold board; rw [replay_app]; rfl
  have sw : ∀ (l : List Nat) (x y : Nat), (l.set a x).set c y = (l.set c y).set a x := fun l x y => List.set_comm _ _ hac
  constructor
  · intro H v hv
    obtain ⟨hv1, hv2⟩ := inV_iff.mp hv
    rw [ev, ev]
    have hl1 := replay_left rules a p (s, v)
    have hl2 := replay_left rules c p (s, v)
    have hlen := replay_len rules p (s, v)
    obtain ⟨b, l, hbl⟩ : ∃ b l, replay rules p (s, v) = (b, l) := ⟨_, _, rfl⟩
    have hb : b = board s rules p v := by unfold board; rw [hbl]
    rw [hbl] at hl1 hl2 hlen ⊢
    simp only at hl1 hl2 hlen
    have ga : ∀ y, (l.set c y).getD a 0 = l.getD a 0 := fun y => by rw [getD_set, if_neg (fun z => hac z.1)]
    have gc : ∀ y, (l.set a y).getD c 0 = l.getD c 0 := fun y => by rw [getD_set, if_neg (fun z => hac z.1.symm)]
    unfold rstep
    by_cases h1 : 0 < l.getD a 0 <;> by_cases h2 : 0 < l.getD c 0
    · simp only [h1, h2, if_true, ga, gc]
      have := H (cutV K p v) (cutV_in K p v) (by rw [cutV_get ha]; omega) (by rw [cutV_get hc]; omega)
      rw [← board_cut hv1, ← hb] at this
      rw [this, sw]
    · simp only [h1, h2, if_true, if_false, ga, gc]
    · simp only [h1, h2, if_true, if_false, ga, gc]
    · simp only [h1, h2, if_true, if_false, ga, gc]
  · intro H w hw he1 he2
    obtain ⟨hw1, hw2⟩ := inV_iff.mp hw
    have hwa : a < w.length := by omega
    have hwc : c < w.length := by omega
    have cn : ∀ i, cnt (p ++ (a, d) :: (c, e) :: r) i = cnt p i + ((if a = i then 1 else 0) + ((if c = i then 1 else 0) + cnt r i)) := fun i => by rw [cnt_app, cnt_cons, cnt_cons]
    obtain ⟨v, hv⟩ : ∃ v, v = (w.set a (cnt p a + 1)).set c (cnt p c + 1) := ⟨_, rfl⟩
    have vg : ∀ i, v.getD i 0 = if i = c then cnt p c + 1 else if i = a then cnt p a + 1 else w.getD i 0 := fun i => by
      rw [hv, getD_set, getD_set, List.length_set]
      by_cases q : i = c
      · rw [if_pos ⟨q, hwc⟩, if_pos q]
      · rw [if_neg (fun z => q z.1), if_neg q]
        by_cases q2 : i = a
        · rw [if_pos ⟨q2, hwa⟩, if_pos q2]
        · rw [if_neg (fun z => q2 z.1), if_neg q2]
    have vl : v.length = K := by rw [hv, List.length_set, List.length_set]; exact hw1
    have hvi : InV (cnts K (p ++ (a, d) :: (c, e) :: r)) v := inV_iff.mpr ⟨vl, fun i hi => by
      rw [vg, cn]
      by_cases q : i = c
      · subst q
        rw [if_pos rfl, if_neg hac, if_pos rfl]; omega
      · by_cases q2 : i = a
        · subst q2; rw [if_neg q, if_pos rfl, if_pos rfl]; omega
        · rw [if_neg q, if_neg q2]
          have := hw2 i hi; omega⟩
    have H1 := H _ hvi
    rw [ev, ev] at H1
    have eb : (replay rules p (s, v)).1 = board s rules p w := by
      refine replay_min rules p s _ _ (by rw [vl, hw1]) fun i => ?_
      rw [vg]
      by_cases q : i = c
      · subst q; rw [if_pos rfl]; omega
      · rw [if_neg q]
        by_cases q2 : i = a
        · subst q2; rw [if_pos rfl]; omega
        · rw [if_neg q2]
    have hl : ∀ i, (replay rules p (s, v)).2.getD i 0 = if i = c then 1 else if i = a then 1 else 0 := fun i => by
      rw [replay_left]
      show v.getD i 0 - cnt p i = _
      rw [vg]
      by_cases q : i = c
      · subst q; rw [if_pos rfl, if_pos rfl]; omega
      · rw [if_neg q, if_neg q]
        by_cases q2 : i = a
        · subst q2; rw [if_pos rfl, if_pos rfl]; omega
        · rw [if_neg q2, if_neg q2]
          by_cases hi : i < K
          · have := hw2 i hi; omega
          · rw [getD_out (by omega)]; omega
    obtain ⟨b, l, hbl⟩ : ∃ b l, replay rules p (s, v) = (b, l) := ⟨_, _, rfl⟩
    rw [hbl] at H1 eb hl
    simp only at eb hl
    have hll : l.length = K := by have := replay_len rules p (s, v); rw [hbl] at this; simp only at this; omega
    have la : l.getD a 0 = 1 := by rw [hl, if_neg hac, if_pos rfl]
    have lc : l.getD c 0 = 1 := by rw [hl, if_pos rfl]
    have ga : ∀ y, (l.set c y).getD a 0 = 1 := fun y => by rw [getD_set, if_neg (fun z => hac z.1), la]
    have gc : ∀ y, (l.set a y).getD c 0 = 1 := fun y => by rw [getD_set, if_neg (fun z => hac z.1.symm), lc]
    have z1 : ∀ i, ((l.set c 0).set a 0).getD i 0 = 0 := fun i => by
      rw [getD_set, getD_set, List.length_set, hl]
      by_cases q : i = a
      · subst q; rw [if_pos ⟨rfl, by omega⟩]
      · rw [if_neg (fun z => q z.1)]
        by_cases q2 : i = c
        · subst q2; rw [if_pos ⟨rfl, by omega⟩]
        · rw [if_neg (fun z => q2 z.1), if_neg q2, if_neg q]
    have z2 : ∀ i, ((l.set a 0).set c 0).getD i 0 = 0 := fun i => by rw [sw]; exact z1 i
    unfold rstep at H1
    simp only [la, lc, ga, gc, Nat.lt_irrefl, Nat.zero_lt_one, if_true, Nat.sub_self] at H1
    rw [replay_zero _ _ _ _ z1, replay_zero _ _ _ _ z2, eb] at H1
    exact H1
/-! ### a history, cut at a place -/
theorem cut_at {h : Hi} {i : Nat} (hi : i < h.length) : h = h.take i ++ lt0 h i :: h.drop (i + 1) := by
  unfold lt0
  rw [List.getD_eq_getElem?_getD, List.getElem?_eq_getElem hi]
  exact (List.take_append_drop i h).symm.trans (by rw [List.drop_eq_getElem_cons hi]; rfl)
theorem stepH_put {h : Hi} {i d : Nat} (hi : i < h.length) : stepH h (.put i d) = h.take i ++ ((lt0 h i).1, d) :: h.drop (i + 1) := by
  show h.set i ((lt0 h i).1, d) = _
  rw [List.set_eq_take_append_cons_drop, if_pos hi]
theorem drop_two {h : Hi} {i : Nat} (hi : i + 1 < h.length) : h.drop (i + 1) = lt0 h (i + 1) :: h.drop (i + 2) := by
  unfold lt0
  rw [List.getD_eq_getElem?_getD, List.getElem?_eq_getElem hi, List.drop_eq_getElem_cons hi]; rfl
theorem cut_two {h : Hi} {i : Nat} (hi : i + 1 < h.length) : h = h.take i ++ lt0 h i :: lt0 h (i + 1) :: h.drop (i + 2) := by
  conv => lhs; rw [cut_at (show i < h.length by omega), drop_two hi]
theorem stepH_ex {h : Hi} {i : Nat} (hi : i + 1 < h.length) : stepH h (.ex i) = h.take i ++ lt0 h (i + 1) :: lt0 h i :: h.drop (i + 2) := by
  show (h.set i (lt0 h (i + 1))).set (i + 1) (lt0 h i) = _
  rw [List.set_eq_take_append_cons_drop (l := h), if_pos (show i < h.length by omega), drop_two hi]
  have hl : (h.take i).length = i := by rw [List.length_take]; omega
  rw [List.set_append_right _ _ (by omega), hl]
  have : i + 1 - i = 1 := by omega
  rw [this]; rfl
theorem lt0_ok {h : Hi} {i K R : Nat} (ho : HOk K R h) (hi : i < h.length) : (lt0 h i).1 < K ∧ (lt0 h i).2 < R := by
  unfold lt0
  rw [List.getD_eq_getElem?_getD, List.getElem?_eq_getElem hi]
  exact ho _ (List.getElem_mem hi)
theorem lot_mem {s K : Nat} {rules : List (List Nat)} {p : Hi} {ws : List Nat} {b : Nat} (hw : ∀ a ∈ ws, a < K) : b ∈ lot s rules K p ws ↔ ∃ w, InV (cnts K p) w ∧ (∀ a ∈ ws, w.getD a 0 = cnt p a) ∧ board s rules p w = b := by
  have cg : ∀ a, a < K → (cnts K p).getD a 0 = cnt p a := fun a ha => by rw [List.getD_eq_getElem?_getD, cnts_get p ha]; rfl
  unfold lot lotV
  rw [List.mem_map]
  constructor
  · rintro ⟨w, hm, rfl⟩
    rw [List.mem_filter] at hm
    refine ⟨w, vecs_in hm.1, fun a ha => ?_, rfl⟩
    have := List.all_eq_true.mp hm.2 a ha
    rw [cg a (hw a ha)] at this
    exact beq_iff_eq.mp this
  · rintro ⟨w, h1, h2, rfl⟩
    refine ⟨w, List.mem_filter.mpr ⟨in_vecs h1, List.all_eq_true.mpr fun a ha => ?_⟩, rfl⟩
    rw [cg a (hw a ha)]
    exact beq_iff_eq.mpr (h2 a ha)
theorem step_cnts {K R : Nat} {h : Hi} {st : St} (hv : vS R h st) : cnts K (stepH h st) = cnts K h := by
  unfold cnts
  refine List.map_congr_left fun i _ => ?_
  cases st with
  | put j d =>
    rw [stepH_put hv.1]
    conv => rhs; rw [cut_at hv.1]
    rw [cnt_app, cnt_app, cnt_cons, cnt_cons]
  | ex j =>
    rw [stepH_ex hv.1]
    conv => rhs; rw [cut_two hv.1]
    rw [cnt_app, cnt_app, cnt_cons, cnt_cons, cnt_cons, cnt_cons]
    omega
theorem step_ho {K R : Nat} {h : Hi} {st : St} (ho : HOk K R h) (hv : vS R h st) : HOk K R (stepH h st) := fun p hp => by
  cases st with
  | put j d =>
    have q := lt0_ok ho hv.1
    rw [stepH_put hv.1] at hp
    rcases List.mem_append.mp hp with hp | hp
    · exact ho p (List.mem_of_mem_take hp)
    · rcases List.mem_cons.mp hp with rfl | hp
      · exact ⟨q.1, hv.2.1⟩
      · exact ho p (List.mem_of_mem_drop hp)
  | ex j =>
    have q := lt0_ok (i := j) ho (by have := hv.1; omega)
    have q2 := lt0_ok ho hv.1
    rw [stepH_ex hv.1] at hp
    rcases List.mem_append.mp hp with hp | hp
    · exact ho p (List.mem_of_mem_take hp)
    · rcases List.mem_cons.mp hp with rfl | hp
      · exact q2
      · rcases List.mem_cons.mp hp with rfl | hp
        · exact q
        · exact ho p (List.mem_of_mem_drop hp)
theorem step_len {R : Nat} {h : Hi} {st : St} : (stepH h st).length = h.length := by
  cases st <;> simp [stepH]
/-- THE STEP: unseen exactly if the table stays -/
theorem unseen_iff {s K R : Nat} {rules : List (List Nat)} {h : Hi} {st : St} (ho : HOk K R h) (hv : vS R h st) : unsP s rules K h st = true ↔ ∀ v, InV (cnts K h) v → board s rules (stepH h st) v = board s rules h v := by
  cases st with
  | put i d =>
    obtain ⟨hi, hd, hne⟩ := hv
    have q := lt0_ok ho hi
    have key := put_iff (s := s) (rules := rules) (p := h.take i) (r := h.drop (i + 1)) (a := (lt0 h i).1) (d := d) (e := (lt0 h i).2) q.1
    rw [stepH_put hi]
    have ec : h.take i ++ ((lt0 h i).1, (lt0 h i).2) :: h.drop (i + 1) = h := (cut_at hi).symm
    rw [ec] at key
    rw [← key]
    unfold unsP
    rw [List.all_eq_true]
    constructor
    · intro H w hw he
      exact beq_iff_eq.mp (H _ ((lot_mem (by simp; exact q.1)).mpr ⟨w, hw, by simpa using he, rfl⟩))
    · intro H b hb
      obtain ⟨w, h1, h2, rfl⟩ := (lot_mem (by simp; exact q.1)).mp hb
      exact beq_iff_eq.mpr (H w h1 (h2 _ List.mem_cons_self))
  | ex i =>
    obtain ⟨hi, hne⟩ := hv
    have q := lt0_ok (i := i) ho (by omega)
    have q2 := lt0_ok ho hi
    have key := ex_iff (s := s) (rules := rules) (p := h.take i) (r := h.drop (i + 2)) (a := (lt0 h i).1) (c := (lt0 h (i + 1)).1) (d := (lt0 h i).2) (e := (lt0 h (i + 1)).2) q.1 q2.1 hne
    rw [stepH_ex hi]
    have ec : h.take i ++ ((lt0 h i).1, (lt0 h i).2) :: ((lt0 h (i + 1)).1, (lt0 h (i + 1)).2) :: h.drop (i + 2) = h := (cut_two hi).symm
    rw [ec] at key
    rw [show (h.take i ++ lt0 h (i + 1) :: lt0 h i :: h.drop (i + 2)) = h.take i ++ ((lt0 h (i + 1)).1, (lt0 h (i + 1)).2) :: ((lt0 h i).1, (lt0 h i).2) :: h.drop (i + 2) from rfl, ← key]
    unfold unsP
    rw [List.all_eq_true]
    have hws : ∀ a ∈ [(lt0 h i).1, (lt0 h (i + 1)).1], a < K := fun a ha => by
      simp only [List.mem_cons, List.not_mem_nil, or_false] at ha
      rcases ha with rfl | rfl
      · exact q.1
      · exact q2.1
    constructor
    · intro H w hw he1 he2
      refine beq_iff_eq.mp (H _ ((lot_mem hws).mpr ⟨w, hw, fun a ha => ?_, rfl⟩))
      simp only [List.mem_cons, List.not_mem_nil, or_false] at ha
      rcases ha with rfl | rfl
      · exact he1
      · exact he2
    · intro H b hb
      obtain ⟨w, h1, h2, rfl⟩ := (lot_mem hws).mp hb
      exact beq_iff_eq.mpr (H w h1 (h2 _ (by simp)) (h2 _ (by simp)))
/-- the boards of the table, in a row -/
def tabL (s : Nat) (rules : List (List Nat)) (K : Nat) (h : Hi) : List Nat := (vecs (cnts K h)).map (board s rules h)
theorem unseen_tab {s K R : Nat} {rules : List (List Nat)} {h : Hi} {st : St} (ho : HOk K R h) (hv : vS R h st) : unsP s rules K h st = true ↔ tabL s rules K (stepH h st) = tabL s rules K h := by
  rw [unseen_iff ho hv]
  unfold tabL
  rw [step_cnts hv, List.map_inj_left]
  exact ⟨fun H v hm => H v (vecs_in hm), fun H v hi => H v (in_vecs hi)⟩
end K23

set_option Elab.async false
set_option linter.all false
set_option maxRecDepth 100000
set_option maxHeartbeats 2000000
namespace K23
open PySem PySem.Spec PyProof.Rows L2 Eng
variable {L n : Nat} {m : Mem}
/-! ### the program: lots, steps -/
theorem hD_ix {h : Hi} {i : Nat} (hi : i < h.length) : ixVal (hD h) (.int (i : Int)) = some (pD (lt0 h i)) := hD_at (by
  unfold lt0; rw [List.getD_eq_getElem?_getD, List.getElem?_eq_getElem hi]; rfl)
theorem hD_ix1 {h : Hi} {i : Nat} (hi : i + 1 < h.length) : ixVal (hD h) (.int ((i : Int) + 1)) = some (pD (lt0 h (i + 1))) := hD_ix (i := i + 1) hi
theorem pD_0 (p : Nat × Nat) : ixVal (pD p) (.int 0) = some (.int p.1) := rfl
theorem pD_1 (p : Nat × Nat) : ixVal (pD p) (.int 1) = some (.int p.2) := rfl
theorem hD_lenV (h : Hi) : b1Val .len (hD h) = some (.int (h.length : Nat)) := by show some (PyData.int ((hDl h).length : Nat)) = _; rw [hDl_len]
theorem mD_1 (s : Nat) (rules : List (List Nat)) : ixVal (mD true s rules) (.int 1) = some (.tuple (rD rules)) := rfl
theorem rD_lenV (rules : List (List Nat)) : b1Val .len (.tuple (rD rules)) = some (.int (rules.length : Nat)) := by show some (PyData.int ((rD rules).length : Nat)) = _; rw [rD_len]
theorem rD_ix {rules : List (List Nat)} {d : Nat} (h : d < rules.length) : ixVal (.tuple (rD rules)) (.int (d : Int)) = some (tI (rules.getD d [])) := rD_get h
theorem row_ix {b s d x : Nat} {rules : List (List Nat)} (hm : MOk b s rules) (hd : d < rules.length) (hx : x < b) : ixVal (tI (rules.getD d [])) (.int (x : Int)) = some (.int (stepR rules d x : Nat)) := by
  have h := hm.each (rules.getD d []) (by rw [List.getD_eq_getElem?_getD, List.getElem?_eq_getElem hd]; exact List.getElem_mem hd)
  exact iD_at (v := rules.getD d []) (by omega)
theorem step_lt {b s d x : Nat} {rules : List (List Nat)} (hm : MOk b s rules) (hd : d < rules.length) (hx : x < b) : stepR rules d x < b := by
  have h := hm.each (rules.getD d []) (by rw [List.getD_eq_getElem?_getD, List.getElem?_eq_getElem hd]; exact List.getElem_mem hd)
  unfold stepR
  rw [List.getD_eq_getElem?_getD, List.getElem?_eq_getElem (show x < (rules.getD d []).length by omega)]
  exact h.2 _ (List.getElem_mem _)
theorem is_string_ok (x : Str) : callN L P (n + 1) 5 [.dat (.str x)] m = .ok (.dat (.bool true)) m := by
  rw [call_eq P_is_string rfl]
  simp [d_is_string]
theorem need_deed_ok {b s d : Nat} {rules : List (List Nat)} (hd : d < rules.length) : callN L P (n + 4) 13 [.dat (mD true s rules), .dat (.int d)] m = .ok (.dat (.int d)) m := by
  rw [call_eq P_need_deed rfl]
  have k := is_below_int (L := L) (n := n) (m := m) d rules.length
  have e : (d : Int) < (rules.length : Nat) := by omega
  simp [d_need_deed, mD_1, rD_lenV, k, hd]
theorem zipD_nat : ∀ a b : List Nat, zipD (iD a) (iD b) = (a.zip b).map fun p => PyData.tuple [.int p.1, .int p.2]
  | [], _ => rfl
  | _ :: _, [] => rfl
  | x :: a, y :: b => by
    show PyData.tuple [.int x, .int y] :: zipD (iD a) (iD b) = _
    rw [zipD_nat a b]; rfl
theorem asc_zip : ∀ {l : List Nat}, l.Pairwise (· < ·) → ∀ p ∈ l.zip (l.drop 1), p.1 < p.2
  | [], _, p, h => by simp at h
  | [x], _, p, h => by simp at h
  | x :: y :: l, hl, p, h => by
    rw [List.drop_succ_cons, List.drop_zero, List.zip_cons_cons] at h
    rcases List.mem_cons.mp h with rfl | h
    · exact (List.pairwise_cons.mp hl).1 y List.mem_cons_self
    · exact asc_zip (List.pairwise_cons.mp hl).2 p (by simpa using h)
theorem is_ascending_ok {l : List Nat} (h : l.Pairwise (· < ·)) (hl : l.length ≤ 900) : callN L P (n + 1) 6 [.dat (tI l)] m = .ok (.dat (.bool true)) m := by
  rw [call_eq P_is_ascending rfl]
  have e1 : slVal (tI l) (some 1) none = some (tI (l.drop 1)) := by
    cases l with
    | nil => rfl
    | cons x r => exact cut_hi (v := x :: r) (a := 1) (by simp)
  have key : evE (callN L P n) c_is_ascending_1 [.v (.dat (tI l)), .no, .no] m = .ok (.dat (.list ((l.zip (l.drop 1)).map fun _ => PyData.bool true))) m := by
    refine ev_compM (g := fun p : Nat × Nat => PyData.tuple [.int p.1, .int p.2]) ?_ (by rw [List.length_zip]; omega) fun p hp => ?_
    · rw [← zipD_nat]
      simp [e1]
      rfl
    · have := asc_zip h p hp
      refine ⟨_, rfl, ?_⟩
      simp [e_is_ascending_1, this]
  simp [d_is_ascending, bA_c_is_ascending_1, key, all_true]
theorem is_lot_ok {l : List Nat} {b : Nat} (h : l.Pairwise (· < ·)) (hb : ∀ x ∈ l, x < b) (hl : l.length ≤ 900) : callN L P (n + 4) 7 [.dat (tI l), .dat (.int b)] m = .ok (.dat (.bool true)) m := by
  rw [call_eq P_is_lot rfl]
  have k1 := is_sequence_S (L := L) (n := n + 2) (m := m) true (iD l)
  have k2 := is_ascending_ok (L := L) (n := n + 2) (m := m) h hl
  have key : evE (callN L P (n + 3)) c_is_lot_1 [.v (.dat (tI l)), .v (.dat (.int b)), .no] m = .ok (.dat (.list (l.map fun _ => PyData.bool true))) m := by
    refine ev_compM (g := fun x : Nat => PyData.int (x : Int)) ?_ (by omega) fun x hx => ?_
    · simp [tI]; rfl
    · have := hb x hx
      refine ⟨_, rfl, ?_⟩
      simp [e_is_lot_1, is_below_int, this]
  simp only [mkS, if_true] at k1
  simp only [tI] at k2 key
  simp [d_is_lot, tI, k1, k2, bA_c_is_lot_1, key, all_true]
theorem check_lot_ok {b s : Nat} {rules : List (List Nat)} {l : List Nat} (hm : MOk b s rules) (h : l.Pairwise (· < ·)) (hb : ∀ x ∈ l, x < b) (hl : l.length ≤ 900) : callN L P (n + 8) 18 [.dat (mD true s rules), .dat (tI l)] m = .ok (.dat (tI l)) m := by
  rw [call_eq P_check_lot rfl]
  obtain ⟨r0, rs, e⟩ : ∃ r0 rs, rules = r0 :: rs := by
    cases rules with
    | nil => exact absurd rfl hm.ne
    | cons a l => exact ⟨a, l, rfl⟩
  have h0 := hm.each r0 (by rw [e]; exact List.mem_cons_self)
  have e0 : ixVal (.tuple (rD rules)) (.int 0) = some (tI r0) := by rw [e]; exact atI_0 _ _
  have el : b1Val .len (tI r0) = some (.int (b : Nat)) := by show some (PyData.int ((iD r0).length : Nat)) = _; rw [iD_len, h0.1]
  have k1 : callN L P (n + 7) 12 [.dat (mD true s rules)] m = .ok (.dat (mD true s rules)) m := check_machine_ok (L := L) (n := n) (m := m) true hm
  have k2 : callN L P (n + 7) 7 [.dat (tI l), .dat (.int b)] m = .ok (.dat (.bool true)) m := is_lot_ok (L := L) (n := n + 3) (m := m) h hb hl
  have et : b1Val .tuple (tI l) = some (tI l) := rfl
  simp [d_check_lot, k1, mD_1, e0, el, k2, et]
def likeL (rules : List (List Nat)) (l : List Nat) (d : Nat) : List Nat := (List.range rules.length).filter fun e => l.all fun b => stepR rules e b == stepR rules d b
theorem like_on_ok {b s d : Nat} {rules : List (List Nat)} {l : List Nat} (hm : MOk b s rules) (h : l.Pairwise (· < ·)) (hb : ∀ x ∈ l, x < b) (hl : l.length ≤ 900) (hd : d < rules.length) : callN L P (n + 9) 19 [.dat (mD true s rules), .dat (tI l), .dat (.int d)] m = .ok (.dat (tI (likeL rules l d))) m := by
  rw [call_eq P_like_on rfl]
  have hR := hm.l6
  have k1 := check_lot_ok (L := L) (n := n) (m := m) hm h hb hl
  have k2 : callN L P (n + 8) 12 [.dat (mD true s rules)] m = .ok (.dat (mD true s rules)) m := check_machine_ok (L := L) (n := n + 1) (m := m) true hm
  have k3 : callN L P (n + 8) 13 [.dat (mD true s rules), .dat (.int d)] m = .ok (.dat (.int d)) m := need_deed_ok (L := L) (n := n + 4) (m := m) (b := b) hd
  have key : evE (callN L P (n + 8)) c_like_on_2 [.v (.dat (mD true s rules)), .v (.dat (tI l)), .v (.dat (.int d)), .v (.dat (tI l)), .v (.dat (.tuple (rD rules))), .v (.dat (tI (rules.getD d []))), .no, .no] m = .ok (.dat (.list (iD (likeL rules l d)))) m := by
    refine ev_compF (l := List.range rules.length) (g := fun x : Nat => PyData.int (x : Int)) rfl ?_ (by rw [List.length_range]; omega) fun e he => ?_
    · simp [rD_lenV, rng1_nat (show rules.length ≤ 100000 by omega), rng0]
    · have he' := List.mem_range.mp he
      refine ⟨_, rfl, ?_, fun _ => by simp [e_like_on_1]⟩
      have key2 : evE (callN L P (n + 8)) c_like_on_1 [.v (.dat (mD true s rules)), .v (.dat (tI l)), .v (.dat (.int d)), .v (.dat (tI l)), .v (.dat (.tuple (rD rules))), .v (.dat (tI (rules.getD d []))), .v (.dat (.int e)), .no] m = .ok (.dat (.list (l.map fun x => PyData.bool (stepR rules e x == stepR rules d x)))) m := by
        refine ev_compM (g := fun x : Nat => PyData.int (x : Int)) ?_ (by omega) fun x hx => ?_
        · simp [tI]; rfl
        · refine ⟨_, rfl, ?_⟩
          have e1 := row_ix hm he' (hb x hx)
          have e2 := row_ix hm hd (hb x hx)
          have e3 := rD_ix he'
          have eq : decide ((stepR rules e x : Int) = (stepR rules d x : Int)) = (stepR rules e x == stepR rules d x) := by
            rw [Bool.eq_iff_iff, beq_iff_eq, decide_eq_true_eq]; omega
          simp only [← eq]
          simp [-List.getD_eq_getElem?_getD, e_like_on_2, e1, e2, e3]
      simp [-List.getD_eq_getElem?_getD, t_like_on_1, bA_c_like_on_1, key2, all_map]
  simp [-List.getD_eq_getElem?_getD, d_like_on, k1, k2, mD_1, k3, rD_ix hd, bA_c_like_on_2, key]
  rfl
/-! ### lots ahead of a place -/
/-- the first ones of a row -/
def seen : List Nat → List Nat → List Nat
  | acc, [] => acc
  | acc, x :: r => seen (if x ∈ acc then acc else acc ++ [x]) r
theorem seen_mem : ∀ (l acc : List Nat) (x : Nat), x ∈ seen acc l ↔ x ∈ acc ∨ x ∈ l
  | [], acc, x => by simp [seen]
  | y :: l, acc, x => by
    unfold seen
    rw [seen_mem l]
    split
    · rename_i h
      constructor
      · rintro (q | q)
        · exact .inl q
        · exact .inr (List.mem_cons_of_mem _ q)
      · rintro (q | q)
        · exact .inl q
        · rcases List.mem_cons.mp q with rfl | q
          · exact .inl h
          · exact .inr q
    · rw [List.mem_append, List.mem_singleton, List.mem_cons, or_assoc]
theorem seen_nodup : ∀ (l acc : List Nat), acc.Nodup → (seen acc l).Nodup
  | [], acc, h => h
  | y :: l, acc, h => by
    unfold seen
    refine seen_nodup l _ ?_
    split
    · exact h
    · rename_i hy
      rw [List.nodup_append]
      exact ⟨h, by simp, fun a ha b hb => by rw [List.mem_singleton.mp hb]; intro e; exact hy (e ▸ ha)⟩
theorem seen_app (l g acc : List Nat) : seen acc (l ++ g) = seen (seen acc l) g := by
  induction l generalizing acc with
  | nil => rfl
  | cons x l ih => exact ih _
/-- the lot, ascending -/
def lotS (s : Nat) (rules : List (List Nat)) (K : Nat) (p : Hi) (ws : List Nat) : List Nat := (seen [] (lot s rules K p ws)).mergeSort fun a b => decide (a ≤ b)
theorem lotS_mem {s K x : Nat} {rules : List (List Nat)} {p : Hi} {ws : List Nat} : x ∈ lotS s rules K p ws ↔ x ∈ lot s rules K p ws := by
  unfold lotS
  rw [(List.mergeSort_perm _ _).mem_iff, seen_mem]
  simp
theorem lotS_lt (s : Nat) (rules : List (List Nat)) (K : Nat) (p : Hi) (ws : List Nat) : (lotS s rules K p ws).Pairwise (· < ·) := by
  have h1 : (lotS s rules K p ws).Pairwise (· ≤ ·) := by
    have := List.pairwise_mergeSort (le := fun a b : Nat => decide (a ≤ b)) (fun a b c h1 h2 => by simp only [decide_eq_true_eq] at *; omega) (fun a b => by simp only [Bool.or_eq_true, decide_eq_true_eq]; omega) (seen [] (lot s rules K p ws))
    exact this.imp fun h => of_decide_eq_true h
  have h2 : (lotS s rules K p ws).Nodup := (List.mergeSort_perm _ _).nodup_iff.mpr (seen_nodup _ _ List.nodup_nil)
  exact (List.Pairwise.and h1 h2).imp fun {a b} ⟨h1, h2⟩ => by
    have : a ≠ b := h2
    omega
theorem lot_lt {b s K : Nat} {rules : List (List Nat)} {p : Hi} {ws : List Nat} (hm : MOk b s rules) (ho : HOk K rules.length p) : ∀ x ∈ lot s rules K p ws, x < b := fun x hx => by
  unfold lot at hx
  obtain ⟨v, _, rfl⟩ := List.mem_map.mp hx
  exact board_lt hm ho
theorem len_subN : ∀ (l D : List Nat), l.Nodup → (∀ x ∈ l, x ∈ D) → l.length ≤ D.length
  | [], _, _, _ => Nat.zero_le _
  | x :: l, D, hn, hs => by
    obtain ⟨h1, h2⟩ := List.nodup_cons.mp hn
    have hx : x ∈ D := hs x List.mem_cons_self
    have ih := len_subN l (D.erase x) h2 fun y hy => by
      have ne : y ≠ x := fun e => h1 (by rw [← e]; exact hy)
      exact (List.mem_erase_of_ne ne).2 (hs y (List.mem_cons_of_mem _ hy))
    have := List.length_erase_of_mem hx
    have := List.length_pos_of_mem hx
    rw [List.length_cons]; omega
theorem nodup_le : ∀ {l : List Nat} {b : Nat}, l.Nodup → (∀ x ∈ l, x < b) → l.length ≤ b := fun {l b} h1 h2 => by
  have h := len_subN l (List.range b) h1 fun x hx => List.mem_range.mpr (h2 x hx)
  rwa [List.length_range] at h
end K23

set_option Elab.async false
set_option linter.all false
set_option maxRecDepth 100000
set_option maxHeartbeats 2000000
namespace K23
open PySem PySem.Spec PyProof.Rows L2 Eng
variable {L n : Nat} {m : Mem}
/-! ### lots ahead of a place; steps -/
theorem sortedN_ok (l : List Nat) : b1Val .sorted (.list (iD l)) = some (.list (iD (l.mergeSort fun a b => decide (a ≤ b)))) := by
  have hok : sortOk (iD l) := by
    refine .inr ⟨fun d hd d' hd' => ?_, .inr fun d hd => ?_, fun d hd => ?_⟩
    · obtain ⟨r, _, rfl⟩ := List.mem_map.mp hd
      obtain ⟨r', _, rfl⟩ := List.mem_map.mp hd'
      rfl
    · obtain ⟨r, hr, rfl⟩ := List.mem_map.mp hd
      exact ⟨fun z => (by cases z), fun xs z => (by cases z)⟩
    · obtain ⟨r, _, rfl⟩ := List.mem_map.mp hd
      show (0 : Nat) ≤ 60
      omega
  show @ite _ (sortOk (iD l)) (Classical.propDecidable _) _ _ = _
  rw [if_pos hok]
  unfold iD
  rw [PySem.W.sort_maps (r := fun a b : Nat => decide (a ≤ b)) (s := PySem.W.dataLe false id) (fun x : Nat => PyData.int (x : Int)) fun x _ y _ => ?_]
  have h := congrFun (congrFun (PySem.W.dataLe_int (β := Nat) (fun x => (x : Int))) x) y
  show decide (x ≤ y) = PySem.W.dataLe false id (.int (x : Int)) (.int (y : Int))
  have h' : PySem.W.dataLe false id (PyData.int (x : Int)) (PyData.int (y : Int)) = decide ((x : Int) ≤ (y : Int)) := h
  rw [h']
  rw [Bool.eq_iff_iff, decide_eq_true_eq, decide_eq_true_eq]; omega
theorem notin_nat {l : List Nat} {x : Nat} : cmpVal .notin (.int (x : Int)) (.list (iD l)) = some (.bool (!decide (x ∈ l))) := by
  have hc : PyData.canLayAll0 (iD l) = true := by
    induction l with
    | nil => rfl
    | cons y l ih => show (PyData.canLay0 (.int (y : Int)) && PyData.canLayAll0 (iD l)) = true; rw [ih]; rfl
  have e : cmpVal .notin (.int (x : Int)) (.list (iD l)) = if (PyData.int (x : Int)).canLay0 = true ∧ PyData.canLayAll0 (iD l) = true ∧ (PyData.int (x : Int)).depth ≤ 60 then some (.bool (!(iD l).any fun z => PyData.eqv z (.int (x : Int)))) else none := rfl
  rw [e, if_pos ⟨rfl, hc, by show (0 : Nat) ≤ 60; omega⟩]
  congr 3
  unfold iD
  rw [List.any_map, Bool.eq_iff_iff, List.any_eq_true, decide_eq_true_eq]
  constructor
  · rintro ⟨y, hy, q⟩
    have q' : (decide ((y : Int) = (x : Int))) = true := q
    rw [decide_eq_true_eq] at q'
    have : y = x := by omega
    rw [← this]; exact hy
  · intro h
    exact ⟨x, h, by show (decide ((x : Int) = (x : Int))) = true; simp⟩
theorem in_nat {l : List Nat} {x : Nat} : cmpVal .in_ (.int (x : Int)) (tI l) = some (.bool (decide (x ∈ l))) := by
  have hc : PyData.canLayAll0 (iD l) = true := by
    induction l with
    | nil => rfl
    | cons y l ih => show (PyData.canLay0 (.int (y : Int)) && PyData.canLayAll0 (iD l)) = true; rw [ih]; rfl
  have e : cmpVal .in_ (.int (x : Int)) (tI l) = if (PyData.int (x : Int)).canLay0 = true ∧ PyData.canLayAll0 (iD l) = true ∧ (PyData.int (x : Int)).depth ≤ 60 then some (.bool ((iD l).any fun z => PyData.eqv z (.int (x : Int)))) else none := rfl
  rw [e, if_pos ⟨rfl, hc, by show (0 : Nat) ≤ 60; omega⟩]
  congr 2
  unfold iD
  rw [List.any_map, Bool.eq_iff_iff, List.any_eq_true, decide_eq_true_eq]
  constructor
  · rintro ⟨y, hy, q⟩
    have q' : (decide ((y : Int) = (x : Int))) = true := q
    rw [decide_eq_true_eq] at q'
    have : y = x := by omega
    rw [← this]; exact hy
  · intro h
    exact ⟨x, h, by show (decide ((x : Int) = (x : Int))) = true; simp⟩
theorem ho_take {K R : Nat} {h : Hi} (ho : HOk K R h) (i : Nat) : HOk K R (h.take i) := fun p hp => ho p (List.mem_of_mem_take hp)
theorem cntsI_get {K a : Nat} {p : Hi} (ha : a < K) : L2.atI (iD (cnts K p)) (a : Int) = some (.int ((cnts K p).getD a 0 : Nat)) := iD_at (by rw [cnts_len]; exact ha)
theorem zip_map2 {α : Type} (f : α → Nat) (g : α → PyData) : ∀ l : List α, zipD (l.map g) (iD (l.map f)) = l.map fun x => PyData.tuple [g x, .int (f x : Nat)]
  | [] => rfl
  | x :: l => by
    show PyData.tuple [g x, .int (f x : Nat)] :: zipD (l.map g) (iD (l.map f)) = _
    rw [zip_map2 f g l]; rfl
theorem lot_ahead_ok {b s K : Nat} {rules : List (List Nat)} {h : Hi} {i : Nat} {ws : List Nat} (hm : MOk b s rules) (k1 : 1 ≤ K) (k4 : K ≤ 4) (ho : HOk K rules.length h) (hl : h.length ≤ 10) (hi : i ≤ h.length) (hw : ∀ a ∈ ws, a < K) (hwl : ws.length ≤ 10) :
    callN L P (n + 11) 28 [.dat (mD true s rules), .dat (.int K), .dat (hD h), .dat (.int i), .dat (tI ws)] m = .ok (.dat (tI (lotS s rules K (h.take i) ws))) m := by
  rw [call_eq P_lot_ahead rfl]
  obtain ⟨p, hp⟩ : ∃ p, p = h.take i := ⟨_, rfl⟩
  rw [← hp]
  have hpl : p.length ≤ 10 := by rw [hp, List.length_take]; omega
  have hpo : HOk K rules.length p := by rw [hp]; exact ho_take ho i
  have b8 := hm.b8
  have c0 : callN L P (n + 9) 17 [.dat (mD true s rules), .dat (.int K), .dat (hD p)] m = .ok (.dat (hD p)) m := check_history_ok (L := L) (n := n + 1) (m := m) true hm k1 k4 hpo (by omega)
  have c1 := table_of_ok (L := L) (n := n) (m := m) hm k1 k4 hpo hpl c0
  have c2 : callN L P (n + 10) 22 [.dat (tI (cnts K p))] m = .ok (.dat (.tuple ((vecs (cnts K p)).map tI))) m := vectors_ok (L := L) (n := n + 5) (m := m) true (cok k1 k4 hpl) (prod_ok k4 hpl)
  have es : slVal (hD h) none (some (i : Int)) = some (hD p) := by
    have := cutP_lo (xs := hDl h) (a := i) (by rw [hDl_len]; exact hi)
    have e : (hDl h).take i = hDl p := by rw [hp]; unfold hDl; rw [List.map_take]
    rw [e] at this
    exact this
  obtain ⟨vs, hvs⟩ : ∃ vs, vs = vecs (cnts K p) := ⟨_, rfl⟩
  have hvl : vs.length ≤ 1000 := by rw [hvs, vecs_len]; exact prod_ok k4 hpl
  -- the loop
  have := forGo_inv (body := fun σ m => evSs L (callN L P (n + 10)) b_lot_ahead_1 σ m) (tg := .tp [.nm 8, .nm 9]) (vs.map fun v => PyData.tuple [tI v, .int (board s rules p v : Nat)]) (fun j σ m' => m' = m ∧ j ≤ vs.length ∧ ∃ s8 s9, σ = [.v (.dat (mD true s rules)), .v (.dat (.int K)), .v (.dat (hD h)), .v (.dat (.int i)), .v (.dat (tI ws)), .own (iD (seen [] (((vs.take j).filter fun v => ws.all fun a => v.getD a 0 == (cnts K p).getD a 0).map (board s rules p)))), .v (.dat (tI (cnts K p))), .v (.dat (tI (vs.map (board s rules p)))), s8, s9, .no])
    (fun j d σ m' hd ⟨hmm, hj, s8, s9, hσ⟩ => by
      subst hmm hσ
      rw [List.getElem?_map, Option.map_eq_some_iff] at hd
      obtain ⟨v, hv, rfl⟩ := hd
      have hjl : j < vs.length := (List.getElem?_eq_some_iff.mp hv).1
      have hvi : InV (cnts K p) v := vecs_in (by rw [← hvs]; exact List.mem_of_getElem? hv)
      have hvlen : v.length = K := by have := hvi.1; rwa [cnts_len] at this
      rw [take_snoc hv, List.filter_append, List.map_append]
      generalize hacc : ((vs.take j).filter fun v => ws.all fun a => v.getD a 0 == (cnts K p).getD a 0).map (board s rules p) = acc
      have key : evE (callN L P (n + 10)) c_lot_ahead_1 [.v (.dat (mD true s rules)), .v (.dat (.int K)), .v (.dat (hD h)), .v (.dat (.int i)), .v (.dat (tI ws)), .own (iD (seen [] acc)), .v (.dat (tI (cnts K p))), .v (.dat (tI (vs.map (board s rules p)))), .v (.dat (tI v)), .v (.dat (.int (board s rules p v : Nat))), .no] m' = .ok (.dat (.list (ws.map fun a => PyData.bool (v.getD a 0 == (cnts K p).getD a 0)))) m' := by
        refine ev_compM (g := fun x : Nat => PyData.int (x : Int)) ?_ (by omega) fun a ha => ?_
        · simp [tI]; rfl
        · refine ⟨_, rfl, ?_⟩
          have e1 : ixVal (tI v) (.int (a : Int)) = some (.int (v.getD a 0 : Nat)) := iD_at (by rw [hvlen]; exact hw a ha)
          have e2 : ixVal (tI (cnts K p)) (.int (a : Int)) = some (.int ((cnts K p).getD a 0 : Nat)) := cntsI_get (hw a ha)
          have eq : decide ((v.getD a 0 : Int) = ((cnts K p).getD a 0 : Int)) = (v.getD a 0 == (cnts K p).getD a 0) := by
            rw [Bool.eq_iff_iff, beq_iff_eq, decide_eq_true_eq]; omega
          simp only [← eq]
          simp [-List.getD_eq_getElem?_getD, e_lot_ahead_1, e1, e2]
      have hsl : (seen [] acc).length ≤ 8 := by
        refine Nat.le_trans (nodup_le (b := b) (seen_nodup _ _ List.nodup_nil) fun x hx => ?_) b8
        rw [seen_mem] at hx
        rcases hx with hx | hx
        · simp at hx
        · rw [← hacc] at hx
          obtain ⟨w, _, rfl⟩ := List.mem_map.mp hx
          exact board_lt hm hpo
      have hz : (iD (seen [] acc)).length < sizeLine := by rw [iD_len]; exact Nat.lt_of_lt_of_le (show (seen [] acc).length < 1000 by omega) (small1001 (Nat.le_refl 1000))
      by_cases hin : board s rules p v ∈ seen [] acc
      · refine ⟨_, _, _, rfl, ?_, rfl, hjl, .v (.dat (tI v)), .v (.dat (.int (board s rules p v : Nat))), rfl⟩
        have e2 : seen [] (acc ++ List.map (board s rules p) (List.filter (fun v => ws.all fun a => v.getD a 0 == (cnts K p).getD a 0) [v])) = seen [] acc := by
          rw [seen_app, List.filter_cons]
          split
          · show seen (if board s rules p v ∈ seen [] acc then _ else _) [] = _
            rw [if_pos hin]; rfl
          · rfl
        rw [e2]
        have e3 := notin_nat (l := seen [] acc) (x := board s rules p v)
        rw [decide_eq_true hin] at e3
        simp [b_lot_ahead_1, e3]
      · have e3 := notin_nat (l := seen [] acc) (x := board s rules p v)
        rw [decide_eq_false hin] at e3
        by_cases hall : (ws.all fun a => v.getD a 0 == (cnts K p).getD a 0) = true
        · refine ⟨_, _, _, rfl, ?_, rfl, hjl, .v (.dat (tI v)), .v (.dat (.int (board s rules p v : Nat))), rfl⟩
          have e2 : seen [] (acc ++ List.map (board s rules p) (List.filter (fun v => ws.all fun a => v.getD a 0 == (cnts K p).getD a 0) [v])) = seen [] acc ++ [board s rules p v] := by
            rw [seen_app, List.filter_cons, if_pos hall]
            show seen (if board s rules p v ∈ seen [] acc then _ else _) [] = _
            rw [if_neg hin]; rfl
          rw [e2]
          have ea : iD (seen [] acc ++ [board s rules p v]) = iD (seen [] acc) ++ [.int (board s rules p v : Nat)] := by unfold iD; rw [List.map_append]; rfl
          rw [ea]
          simp [-List.getD_eq_getElem?_getD, b_lot_ahead_1, e3, bA_c_lot_ahead_1, key, all_map, hall, app_ok hz]
        · refine ⟨_, _, _, rfl, ?_, rfl, hjl, .v (.dat (tI v)), .v (.dat (.int (board s rules p v : Nat))), rfl⟩
          have e2 : seen [] (acc ++ List.map (board s rules p) (List.filter (fun v => ws.all fun a => v.getD a 0 == (cnts K p).getD a 0) [v])) = seen [] acc := by
            rw [seen_app, List.filter_cons, if_neg hall]; rfl
          rw [e2]
          have hall' : (ws.all fun a => v.getD a 0 == (cnts K p).getD a 0) = false := by simpa using hall
          simp [-List.getD_eq_getElem?_getD, b_lot_ahead_1, e3, bA_c_lot_ahead_1, key, all_map, hall'])
    (m := m) (σ := [.v (.dat (mD true s rules)), .v (.dat (.int K)), .v (.dat (hD h)), .v (.dat (.int i)), .v (.dat (tI ws)), .own [], .v (.dat (tI (cnts K p))), .v (.dat (tI (vs.map (board s rules p)))), .no, .no, .no]) ⟨rfl, Nat.zero_le _, .no, .no, rfl⟩
  obtain ⟨σ', m', h1, rfl, _, s8, s9, rfl⟩ := this
  rw [List.length_map, List.take_of_length_le (Nat.le_refl _)] at h1
  have el : ((vs.filter fun v => ws.all fun a => v.getD a 0 == (cnts K p).getD a 0).map (board s rules p)) = lot s rules K p ws := by unfold lot lotV; rw [hvs]
  rw [el] at h1
  have loop : evS L (callN L P (n + 10)) l_lot_ahead_1 [.v (.dat (mD true s rules)), .v (.dat (.int K)), .v (.dat (hD h)), .v (.dat (.int i)), .v (.dat (tI ws)), .own [], .v (.dat (tI (cnts K p))), .v (.dat (tI (vs.map (board s rules p)))), .no, .no, .no] m' = .ok (.nx, [.v (.dat (mD true s rules)), .v (.dat (.int K)), .v (.dat (hD h)), .v (.dat (.int i)), .v (.dat (tI ws)), .own (iD (seen [] (lot s rules K p ws))), .v (.dat (tI (cnts K p))), .v (.dat (tI (vs.map (board s rules p)))), s8, s9, .no]) m' := by
    show evS L _ (.for_ _ _ _) _ _ = _
    have ei : evI (callN L P (n + 10)) (.zip2 (.call 22 (.cons (.var 6) .nil)) (.var 7)) [.v (.dat (mD true s rules)), .v (.dat (.int K)), .v (.dat (hD h)), .v (.dat (.int i)), .v (.dat (tI ws)), .own [], .v (.dat (tI (cnts K p))), .v (.dat (tI (vs.map (board s rules p)))), .no, .no, .no] m' = .ok (vs.map fun v => PyData.tuple [tI v, .int (board s rules p v : Nat)]) m' := by
      rw [← zip_map2]
      rw [← hvs] at c2
      simp [c2]
      rfl
    rw [s_forE, ei, R.bind_ok]
    exact h1
  have et : ∀ l : List PyData, b1Val .tuple (.list l) = some (.tuple l) := fun _ => rfl
  have etab : tabD K s rules p = .tuple [tI (cnts K p), tI (vs.map (board s rules p))] := by rw [hvs]; rfl
  rw [etab] at c1
  simp [d_lot_ahead, c1, es, loop, sortedN_ok, et]
  rfl
end K23

set_option Elab.async false
set_option linter.all false
set_option maxRecDepth 100000
set_option maxHeartbeats 2000000
namespace K23
open PySem PySem.Spec PyProof.Rows L2 Eng
variable {L n : Nat} {m : Mem}
/-! ### steps, as the program has them -/
def sDl : St → List PyData
  | .ex i => [.str "exchange", .int i]
  | .put i d => [.str "put", .int i, .int d]
def sD (t : Bool) (st : St) : PyData := mkS t (sDl st)
/-- a step with its places in the history -/
def inS (D : Nat) (h : Hi) : St → Prop
  | .ex i => i + 1 < h.length
  | .put i d => i < h.length ∧ d < D
theorem inS_of {D : Nat} {h : Hi} {st : St} (hv : vS D h st) : inS D h st := by
  cases st with
  | ex i => exact hv.1
  | put i d => exact ⟨hv.1, hv.2.1⟩
instance vSdec (D : Nat) (h : Hi) (st : St) : Decidable (vS D h st) := by
  cases st <;> unfold vS <;> infer_instance
theorem sD_0ex (t : Bool) (i : Nat) : ixVal (sD t (.ex i)) (.int 0) = some (.str "exchange") := by cases t <;> rfl
theorem sD_0put (t : Bool) (i d : Nat) : ixVal (sD t (.put i d)) (.int 0) = some (.str "put") := by cases t <;> rfl
theorem sD_1ex (t : Bool) (i : Nat) : ixVal (sD t (.ex i)) (.int 1) = some (.int (i : Int)) := by cases t <;> rfl
theorem sD_1put (t : Bool) (i d : Nat) : ixVal (sD t (.put i d)) (.int 1) = some (.int (i : Int)) := by cases t <;> rfl
theorem sD_2put (t : Bool) (i d : Nat) : ixVal (sD t (.put i d)) (.int 2) = some (.int (d : Int)) := by cases t <;> rfl
theorem sD_lenex (t : Bool) (i : Nat) : b1Val .len (sD t (.ex i)) = some (.int 2) := by cases t <;> rfl
theorem sD_lenput (t : Bool) (i d : Nat) : b1Val .len (sD t (.put i d)) = some (.int 3) := by cases t <;> rfl
theorem eqS (x y : Str) : cmpVal .eq (.str x) (.str y) = some (.bool (decide (x = y))) := rfl
theorem neS (x y : Str) : cmpVal .ne (.str x) (.str y) = some (.bool (!decide (x = y))) := rfl
theorem is_step_ok {b s : Nat} {rules : List (List Nat)} {h : Hi} {st : St} (t : Bool) (hi : inS rules.length h st) : callN L P (n + 4) 29 [.dat (mD true s rules), .dat (hD h), .dat (sD t st)] m = .ok (.dat (.bool (decide (vS rules.length h st)))) m := by
  rw [call_eq P_is_step rfl]
  have k1 := is_sequence_S (L := L) (n := n + 2) (m := m) t (sDl st)
  have k1' : callN L P (n + 3) 4 [.dat (sD t st)] m = .ok (.dat (.bool true)) m := k1
  have k2 := fun x : Str => is_string_ok (L := L) (n := n + 2) (m := m) x
  have ne : ("put" : Str) ≠ ("exchange" : Str) := by decide
  cases st with
  | ex i =>
    have hi' : i + 1 < h.length := hi
    have k3 := is_below_int (L := L) (n := n) (m := m) i ((h.length : Int) - 1)
    have e1 : (i : Int) < (h.length : Int) - 1 := by omega
    have e2 := hD_ix (h := h) (i := i) (by omega)
    have e3 := hD_ix1 hi'
    have ev : decide (vS rules.length h (.ex i)) = !decide (((lt0 h i).1 : Int) = ((lt0 h (i + 1)).1 : Int)) := by
      rw [Bool.eq_iff_iff, decide_eq_true_eq, Bool.not_eq_true', decide_eq_false_iff_not]
      show (i + 1 < h.length ∧ (lt0 h i).1 ≠ (lt0 h (i + 1)).1) ↔ _
      constructor
      · rintro ⟨_, q⟩; omega
      · intro q; exact ⟨hi', by omega⟩
    rw [ev]
    simp [-List.getD_eq_getElem?_getD, d_is_step, k1', k2, sD_0ex, sD_1ex, sD_lenex, eqS, hD_lenV, k3, e1, e2, e3, pD_0]
  | put i d =>
    have hi' : i < h.length ∧ d < rules.length := hi
    have k3 := is_below_int (L := L) (n := n) (m := m) i (h.length : Int)
    have k4 := is_below_int (L := L) (n := n) (m := m) d (rules.length : Int)
    have e1 : (i : Int) < (h.length : Int) := by omega
    have e1' : (d : Int) < (rules.length : Int) := by omega
    have e2 := hD_ix (h := h) (i := i) hi'.1
    have ev : decide (vS rules.length h (.put i d)) = !decide ((d : Int) = ((lt0 h i).2 : Int)) := by
      rw [Bool.eq_iff_iff, decide_eq_true_eq, Bool.not_eq_true', decide_eq_false_iff_not]
      show (i < h.length ∧ d < rules.length ∧ d ≠ (lt0 h i).2) ↔ _
      constructor
      · rintro ⟨_, _, q⟩; omega
      · intro q; exact ⟨hi'.1, hi'.2, by omega⟩
    rw [ev]
    simp [-List.getD_eq_getElem?_getD, d_is_step, k1', k2, sD_0put, sD_1put, sD_2put, sD_lenput, eqS, neS, ne, hD_lenV, k3, k4, hi'.1, hi'.2, e2, pD_1, mD_1, rD_lenV]
theorem commute_on_ok {b s d e : Nat} {rules : List (List Nat)} {l : List Nat} (hm : MOk b s rules) (hb : ∀ x ∈ l, x < b) (hl : l.length ≤ 900) (hd : d < rules.length) (he : e < rules.length) :
    callN L P (n + 1) 30 [.dat (mD true s rules), .dat (tI l), .dat (.int d), .dat (.int e)] m = .ok (.dat (.bool (l.all fun x => stepR rules d (stepR rules e x) == stepR rules e (stepR rules d x)))) m := by
  rw [call_eq P_commute_on rfl]
  have key : evE (callN L P n) c_commute_on_1 [.v (.dat (mD true s rules)), .v (.dat (tI l)), .v (.dat (.int d)), .v (.dat (.int e)), .v (.dat (tI (rules.getD d []))), .v (.dat (tI (rules.getD e []))), .no] m = .ok (.dat (.list (l.map fun x => PyData.bool (stepR rules d (stepR rules e x) == stepR rules e (stepR rules d x))))) m := by
    refine ev_compM (g := fun x : Nat => PyData.int (x : Int)) ?_ (by omega) fun x hx => ?_
    · simp [tI]; rfl
    · refine ⟨_, rfl, ?_⟩
      have hxb := hb x hx
      have e1 := row_ix hm hd hxb
      have e2 := row_ix hm he hxb
      have e3 := row_ix hm hd (step_lt hm he hxb)
      have e4 := row_ix hm he (step_lt hm hd hxb)
      have eq : decide ((stepR rules d (stepR rules e x) : Int) = (stepR rules e (stepR rules d x) : Int)) = (stepR rules d (stepR rules e x) == stepR rules e (stepR rules d x)) := by
        rw [Bool.eq_iff_iff, beq_iff_eq, decide_eq_true_eq]; omega
      simp only [← eq]
      simp [-List.getD_eq_getElem?_getD, e_commute_on_1, e1, e2, e3, e4]
  simp [-List.getD_eq_getElem?_getD, d_commute_on, mD_1, rD_ix hd, rD_ix he, bA_c_commute_on_1, key, all_map]
theorem uns_put {s K i d : Nat} {rules : List (List Nat)} {h : Hi} (hd : d < rules.length) : decide (d ∈ likeL rules (lotS s rules K (h.take i) [(lt0 h i).1]) (lt0 h i).2) = unsP s rules K h (.put i d) := by
  unfold unsP likeL
  rw [Bool.eq_iff_iff, decide_eq_true_eq, List.mem_filter, List.mem_range, List.all_eq_true, List.all_eq_true]
  exact ⟨fun ⟨_, q⟩ x hx => q x (lotS_mem.mpr hx), fun q => ⟨hd, fun x hx => q x (lotS_mem.mp hx)⟩⟩
theorem uns_ex {s K i : Nat} {rules : List (List Nat)} {h : Hi} : ((lotS s rules K (h.take i) [(lt0 h i).1, (lt0 h (i + 1)).1]).all fun b => stepR rules (lt0 h i).2 (stepR rules (lt0 h (i + 1)).2 b) == stepR rules (lt0 h (i + 1)).2 (stepR rules (lt0 h i).2 b)) = unsP s rules K h (.ex i) := by
  unfold unsP
  rw [Bool.eq_iff_iff, List.all_eq_true, List.all_eq_true]
  exact ⟨fun q x hx => q x (lotS_mem.mpr hx), fun q x hx => q x (lotS_mem.mp hx)⟩
theorem lotS_len {b s K : Nat} {rules : List (List Nat)} {p : Hi} {ws : List Nat} (hm : MOk b s rules) (ho : HOk K rules.length p) : (∀ x ∈ lotS s rules K p ws, x < b) ∧ (lotS s rules K p ws).length ≤ 900 := by
  have h1 : ∀ x ∈ lotS s rules K p ws, x < b := fun x hx => lot_lt hm ho x (lotS_mem.mp hx)
  have h2 : (lotS s rules K p ws).Nodup := (lotS_lt s rules K p ws).imp fun {a b} (h : a < b) => by omega
  have := nodup_le h2 h1
  have := hm.b8
  exact ⟨h1, by omega⟩
theorem is_unseen_ok {b s K : Nat} {rules : List (List Nat)} {h : Hi} {st : St} (t : Bool) (hm : MOk b s rules) (k1 : 1 ≤ K) (k4 : K ≤ 4) (ho : HOk K rules.length h) (hl : h.length ≤ 10) (hi : inS rules.length h st) :
    callN L P (n + 12) 31 [.dat (mD true s rules), .dat (.int K), .dat (hD h), .dat (sD t st)] m = .ok (.dat (.bool (unsP s rules K h st))) m := by
  rw [call_eq P_is_unseen rfl]
  have ne : ("exchange" : Str) ≠ ("put" : Str) := by decide
  cases st with
  | put i d =>
    have hi' : i < h.length ∧ d < rules.length := hi
    have q := lt0_ok ho hi'.1
    have e2 := hD_ix hi'.1
    have c1 : callN L P (n + 11) 28 [.dat (mD true s rules), .dat (.int K), .dat (hD h), .dat (.int i), .dat (tI [(lt0 h i).1])] m = .ok (.dat (tI (lotS s rules K (h.take i) [(lt0 h i).1]))) m := lot_ahead_ok (L := L) (n := n) (m := m) hm k1 k4 ho hl (by omega) (by simp; exact q.1) (by simp)
    obtain ⟨g1, g2⟩ := lotS_len (ws := [(lt0 h i).1]) (s := s) (K := K) hm (ho_take ho i)
    have c2 : callN L P (n + 11) 19 [.dat (mD true s rules), .dat (tI (lotS s rules K (h.take i) [(lt0 h i).1])), .dat (.int (lt0 h i).2)] m = .ok (.dat (tI (likeL rules (lotS s rules K (h.take i) [(lt0 h i).1]) (lt0 h i).2))) m := like_on_ok (L := L) (n := n + 2) (m := m) hm (lotS_lt _ _ _ _ _) g1 g2 q.2
    have e3 : pD (lt0 h i) = .tuple [.int (lt0 h i).1, .int (lt0 h i).2] := rfl
    rw [e3] at e2
    have e4 : tI [(lt0 h i).1] = .tuple [.int ((lt0 h i).1 : Nat)] := rfl
    rw [e4] at c1
    rw [← uns_put hi'.2]
    simp [-List.getD_eq_getElem?_getD, d_is_unseen, sD_0put, sD_1put, sD_2put, e2, eqS, c1, c2, in_nat]
  | ex i =>
    have hi' : i + 1 < h.length := hi
    have q := lt0_ok (i := i) ho (by omega)
    have q2 := lt0_ok ho hi'
    have e2 := hD_ix (h := h) (i := i) (by omega)
    have e5 := hD_ix1 hi'
    have c1 : callN L P (n + 11) 28 [.dat (mD true s rules), .dat (.int K), .dat (hD h), .dat (.int i), .dat (tI [(lt0 h i).1, (lt0 h (i + 1)).1])] m = .ok (.dat (tI (lotS s rules K (h.take i) [(lt0 h i).1, (lt0 h (i + 1)).1]))) m := lot_ahead_ok (L := L) (n := n) (m := m) hm k1 k4 ho hl (by omega) (fun a ha => by
      simp only [List.mem_cons, List.not_mem_nil, or_false] at ha
      rcases ha with rfl | rfl
      · exact q.1
      · exact q2.1) (by simp)
    obtain ⟨g1, g2⟩ := lotS_len (ws := [(lt0 h i).1, (lt0 h (i + 1)).1]) (s := s) (K := K) hm (ho_take ho i)
    have c2 := commute_on_ok (L := L) (n := n + 10) (m := m) (d := (lt0 h i).2) (e := (lt0 h (i + 1)).2) hm g1 g2 q.2 q2.2
    have c2' : callN L P (n + 11) 30 [.dat (mD true s rules), .dat (tI (lotS s rules K (h.take i) [(lt0 h i).1, (lt0 h (i + 1)).1])), .dat (.int (lt0 h i).2), .dat (.int (lt0 h (i + 1)).2)] m = _ := c2
    rw [uns_ex] at c2'
    have e3 : pD (lt0 h i) = .tuple [.int (lt0 h i).1, .int (lt0 h i).2] := rfl
    have e6 : pD (lt0 h (i + 1)) = .tuple [.int (lt0 h (i + 1)).1, .int (lt0 h (i + 1)).2] := rfl
    rw [e3] at e2
    rw [e6] at e5
    have e4 : tI [(lt0 h i).1, (lt0 h (i + 1)).1] = .tuple [.int ((lt0 h i).1 : Nat), .int ((lt0 h (i + 1)).1 : Nat)] := rfl
    rw [e4] at c1
    simp [-List.getD_eq_getElem?_getD, d_is_unseen, sD_0ex, sD_1ex, e2, e5, eqS, ne, c1, c2']
theorem hDl_set (h : Hi) (i : Nat) (p : Nat × Nat) : (hDl h).set i (pD p) = hDl (h.set i p) := by unfold hDl; rw [List.map_set]
theorem behind_step_ok {D : Nat} {h : Hi} {st : St} (t : Bool) (hi : inS D h st) : callN L P (n + 1) 32 [.dat (hD h), .dat (sD t st)] m = .ok (.dat (hD (stepH h st))) m := by
  rw [call_eq P_behind_step rfl]
  have ne : ("exchange" : Str) ≠ ("put" : Str) := by decide
  have el : b1Val .list (hD h) = some (.list (hDl h)) := rfl
  have et : ∀ g : Hi, b1Val .tuple (.list (hDl g)) = some (hD g) := fun _ => rfl
  cases st with
  | put i d =>
    have hi' : i < h.length ∧ d < D := hi
    have e2 := hD_ix hi'.1
    have e6 := fun σ : Eng.Env => setO_ok (m := m) (σ := σ) (i := 2) (xs := hDl h) (a := i) (d := pD ((lt0 h i).1, d)) (by rw [hDl_len]; exact hi'.1)
    have e7 : PyData.tuple [.int (lt0 h i).1, .int (d : Int)] = pD ((lt0 h i).1, d) := rfl
    have e8 := hDl_set h i ((lt0 h i).1, d)
    simp [-List.getD_eq_getElem?_getD, d_behind_step, sD_0put, sD_1put, sD_2put, el, eqS, e2, pD_0, e7, e6, e8, et]
    rfl
  | ex i =>
    have hi' : i + 1 < h.length := hi
    have e2 := hD_ix (h := h) (i := i) (by omega)
    have e3 := hD_ix1 hi'
    have e6 := fun σ : Eng.Env => setO_ok (m := m) (σ := σ) (i := 2) (xs := hDl h) (a := i) (d := pD (lt0 h (i + 1))) (by rw [hDl_len]; omega)
    have e7 := fun σ : Eng.Env => setO_ok (m := m) (σ := σ) (i := 2) (xs := hDl (h.set i (lt0 h (i + 1)))) (a := i + 1) (d := pD (lt0 h i)) (by rw [hDl_len, List.length_set]; omega)
    have e8 := hDl_set h i (lt0 h (i + 1))
    have e9 := hDl_set (h.set i (lt0 h (i + 1))) (i + 1) (lt0 h i)
    have e7' : ∀ σ : Eng.Env, setOGo σ 2 (hDl (h.set i (lt0 h (i + 1)))) (.dat (pD (lt0 h i))) (.dat (.int ((i : Int) + 1))) m = .ok (.nx, σ.set 2 (.own (hDl ((h.set i (lt0 h (i + 1))).set (i + 1) (lt0 h i))))) m := fun σ => by rw [← e9]; exact e7 σ
    simp [-List.getD_eq_getElem?_getD, d_behind_step, sD_0ex, sD_1ex, el, eqS, ne, e2, e3, e6, e8, setO2Go, e7', et]
    rfl
end K23

set_option Elab.async false
set_option linter.all false
set_option maxRecDepth 100000
set_option maxHeartbeats 2000000
namespace K23
open PySem PySem.Spec PyProof.Rows L2 Eng
variable {L n : Nat} {m : Mem}
/-! ### all unseen steps; a step taken -/
theorem rng1_pred {k : Nat} (h : k ≤ 10000) : rng1U ((k : Int) - 1) m = .ok (rngD 0 (k - 1)) m := by
  have e : ((k : Int) - 1).toNat = k - 1 := by omega
  have : rng1U ((k : Int) - 1) m = .ok (rngD 0 ((k : Int) - 1).toNat) m := if_pos ⟨by omega, by omega⟩
  rw [this, e]
def allS (D : Nat) (h : Hi) : List St := (List.range (h.length - 1)).map .ex ++ (List.range h.length).flatMap fun i => (List.range D).map (.put i)
def candL (D : Nat) (h : Hi) : List St := (allS D h).filter fun st => decide (vS D h st)
theorem allS_in {D : Nat} {h : Hi} {st : St} (hs : st ∈ allS D h) : inS D h st := by
  unfold allS at hs
  rcases List.mem_append.mp hs with hs | hs
  · obtain ⟨i, hi, rfl⟩ := List.mem_map.mp hs
    have := List.mem_range.mp hi
    show i + 1 < h.length
    omega
  · obtain ⟨i, hi, hs⟩ := List.mem_flatMap.mp hs
    obtain ⟨d, hd, rfl⟩ := List.mem_map.mp hs
    exact ⟨List.mem_range.mp hi, List.mem_range.mp hd⟩
theorem flat_len_le {α β : Type} {f : α → List β} {B : Nat} : ∀ {l : List α}, (∀ x ∈ l, (f x).length ≤ B) → (l.flatMap f).length ≤ l.length * B
  | [], _ => by simp
  | x :: l, h => by
    rw [List.flatMap_cons, List.length_append, List.length_cons, Nat.succ_mul]
    have := flat_len_le (l := l) fun y hy => h y (List.mem_cons_of_mem _ hy)
    have := h x List.mem_cons_self
    omega
theorem allS_len {D : Nat} {h : Hi} (hD : D ≤ 6) (hl : h.length ≤ 10) : (allS D h).length ≤ 69 := by
  unfold allS
  rw [List.length_append, List.length_map, List.length_range]
  have := flat_len_le (f := fun i => (List.range D).map (St.put i)) (B := 6) (l := List.range h.length) fun i _ => by rw [List.length_map, List.length_range]; exact hD
  rw [List.length_range] at this
  omega
def putsF (D : Nat) : PyData → List PyData
  | .int i => (List.range D).map fun d => sD true (.put i.toNat d)
  | _ => []
theorem puts_map (D k : Nat) : ((List.range k).map fun (x : Nat) => PyData.int (x : Int)).flatMap (putsF D) = ((List.range k).flatMap fun i => (List.range D).map (St.put i)).map (sD true) := by
  rw [List.flatMap_map, List.map_flatMap]
  refine flatMap_congr' fun i _ => ?_
  rw [List.map_map]; rfl
theorem unseen_steps_ok {b s K : Nat} {rules : List (List Nat)} {h : Hi} {md hd : PyData} (hm : MOk b s rules) (k1 : 1 ≤ K) (k4 : K ≤ 4) (ho : HOk K rules.length h) (hl : h.length ≤ 10)
    (c1 : callN L P (n + 13) 12 [.dat md] m = .ok (.dat (mD true s rules)) m) (c2 : callN L P (n + 13) 17 [.dat (mD true s rules), .dat (.int K), .dat hd] m = .ok (.dat (hD h)) m) :
    callN L P (n + 14) 33 [.dat md, .dat (.int K), .dat hd] m = .ok (.dat (.tuple (((candL rules.length h).filter (unsP s rules K h)).map (sD true)))) m := by
  rw [call_eq P_unseen_steps rfl]
  have hR := hm.l6
  have key1 : ∀ s5 s6 s7 s8 : Sl, evE (callN L P (n + 13)) c_unseen_steps_1 [.v (.dat md), .v (.dat (.int K)), .v (.dat hd), .v (.dat (mD true s rules)), .v (.dat (hD h)), s5, s6, s7, s8] m = .ok (.dat (.list (((List.range (h.length - 1)).map St.ex).map (sD true)))) m := fun s5 s6 s7 s8 => by
    rw [List.map_map]
    refine ev_compM (g := fun x : Nat => PyData.int (x : Int)) ?_ (by rw [List.length_range]; omega) fun i hi => ?_
    · rw [← rng0]
      simp [hD_lenV, rng1_pred (show h.length ≤ 10000 by omega)]
    · exact ⟨_, rfl, by simp [e_unseen_steps_1]; rfl⟩
  have key2 : ∀ s5 : Sl, evE (callN L P (n + 13)) c_unseen_steps_2 [.v (.dat md), .v (.dat (.int K)), .v (.dat hd), .v (.dat (mD true s rules)), .v (.dat (hD h)), s5, .no, .no, .no] m = .ok (.dat (.list (((List.range h.length).flatMap fun i => (List.range rules.length).map (St.put i)).map (sD true)))) m := fun s5 => by
    rw [← puts_map]
    refine ev_comp2 (ds := (List.range h.length).map fun (x : Nat) => PyData.int (x : Int)) (m1 := m) ?_ (small1001 (by rw [List.length_map, List.length_range]; omega)) (small1001 ?_) ?_
    · rw [← rng0]
      simp [hD_lenV, rng1_nat (show h.length ≤ 100000 by omega)]
    · have := flat_len_le (f := putsF rules.length) (B := 6) (l := (List.range h.length).map fun (x : Nat) => PyData.int (x : Int)) fun x hx => by
        obtain ⟨i, _, rfl⟩ := List.mem_map.mp hx
        show ((List.range rules.length).map _).length ≤ 6
        rw [List.length_map, List.length_range]; exact hR
      rw [List.length_map, List.length_range] at this
      omega
    · refine comp2_pure fun d hd => ?_
      obtain ⟨i, _, rfl⟩ := List.mem_map.mp hd
      refine ⟨_, (List.range rules.length).map fun (x : Nat) => PyData.int (x : Int), rfl, ?_, ?_⟩
      · rw [← rng0]
        simp [mD_1, rD_lenV, rng1_nat (show rules.length ≤ 100000 by omega)]
      · show _ = R.ok ((List.range rules.length).map fun d => sD true (.put ((i : Int)).toNat d)) m
        rw [Int.toNat_natCast]
        refine comp_map fun d _ => ?_
        exact ⟨_, rfl, by simp [e_unseen_steps_2]; rfl⟩
  have hx : ((List.range (h.length - 1)).map St.ex).map (sD true) ++ ((List.range h.length).flatMap fun i => (List.range rules.length).map (St.put i)).map (sD true) = (allS rules.length h).map (sD true) := by rw [← List.map_append]; rfl
  have hlen : (((List.range (h.length - 1)).map St.ex).map (sD true)).length + (((List.range h.length).flatMap fun i => (List.range rules.length).map (St.put i)).map (sD true)).length ≤ 1000 := by
    rw [← List.length_append, hx, List.length_map]
    have := allS_len hR hl
    omega
  have key3 : evE (callN L P (n + 13)) c_unseen_steps_3 [.v (.dat md), .v (.dat (.int K)), .v (.dat hd), .v (.dat (mD true s rules)), .v (.dat (hD h)), .v (.dat (.list ((allS rules.length h).map (sD true)))), .no, .no, .no] m = .ok (.dat (.list (((candL rules.length h).filter (unsP s rules K h)).map (sD true)))) m := by
    have ef : (candL rules.length h).filter (unsP s rules K h) = (allS rules.length h).filter fun st => decide (vS rules.length h st) && unsP s rules K h st := by
      unfold candL
      rw [List.filter_filter]
      exact List.filter_congr fun st _ => Bool.and_comm _ _
    rw [ef]
    refine ev_compF (g := sD true) rfl (by simp) (by have := allS_len hR hl; omega) fun st hst => ?_
    have hin := allS_in hst
    have q1 : callN L P (n + 13) 29 [.dat (mD true s rules), .dat (hD h), .dat (sD true st)] m = .ok (.dat (.bool (decide (vS rules.length h st)))) m := is_step_ok (L := L) (n := n + 9) (m := m) (b := b) true hin
    have q2 : callN L P (n + 13) 31 [.dat (mD true s rules), .dat (.int K), .dat (hD h), .dat (sD true st)] m = .ok (.dat (.bool (unsP s rules K h st))) m := is_unseen_ok (L := L) (n := n + 1) (m := m) true hm k1 k4 ho hl hin
    refine ⟨_, rfl, ?_, fun _ => by simp [e_unseen_steps_3]⟩
    cases hd : decide (vS rules.length h st) with
    | true => rw [hd] at q1; simp [t_unseen_steps_1, q1, q2]
    | false => rw [hd] at q1; simp [t_unseen_steps_1, q1]
  have et : ∀ l : List PyData, b1Val .tuple (.list l) = some (.tuple l) := fun _ => rfl
  generalize ((List.range (h.length - 1)).map St.ex).map (sD true) = A1 at key1 hx hlen
  generalize ((List.range h.length).flatMap fun i => (List.range rules.length).map (St.put i)).map (sD true) = A2 at key2 hx hlen
  simp [d_unseen_steps, c1, c2, key1, key2, ext_ok hlen, hx, bA_c_unseen_steps_3, key3, et]
theorem stepped_ok {b s K : Nat} {rules : List (List Nat)} {h : Hi} {st : St} (t : Bool) (hm : MOk b s rules) (k1 : 1 ≤ K) (k4 : K ≤ 4) (ho : HOk K rules.length h) (hl : h.length ≤ 10) (hv : vS rules.length h st) :
    callN L P (n + 13) 34 [.dat (mD true s rules), .dat (.int K), .dat (hD h), .dat (sD t st)] m = if unsP s rules K h st = true then .ok (.dat (hD (stepH h st))) m else .exc 0 (.dat (sD t st)) m := by
  rw [call_eq P_stepped rfl]
  have hin := inS_of hv
  have c1 : callN L P (n + 12) 12 [.dat (mD true s rules)] m = .ok (.dat (mD true s rules)) m := check_machine_ok (L := L) (n := n + 5) (m := m) true hm
  have c2 : callN L P (n + 12) 17 [.dat (mD true s rules), .dat (.int K), .dat (hD h)] m = .ok (.dat (hD h)) m := check_history_ok (L := L) (n := n + 4) (m := m) true hm k1 k4 ho (by omega)
  have q1 : callN L P (n + 12) 29 [.dat (mD true s rules), .dat (hD h), .dat (sD t st)] m = .ok (.dat (.bool true)) m := by
    have := is_step_ok (L := L) (n := n + 8) (m := m) (b := b) (s := s) t hin
    rw [decide_eq_true hv] at this
    exact this
  have q2 := is_unseen_ok (L := L) (n := n) (m := m) t hm k1 k4 ho hl hin
  have q3 : callN L P (n + 12) 32 [.dat (hD h), .dat (sD t st)] m = .ok (.dat (hD (stepH h st))) m := behind_step_ok (L := L) (n := n + 11) (m := m) t hin
  cases hu : unsP s rules K h st with
  | true => rw [hu] at q2; simp [d_stepped, c1, c2, q1, q2, q3]
  | false => rw [hu] at q2; simp [d_stepped, c1, c2, q1, q2]
end K23

set_option Elab.async false
set_option linter.all false
set_option maxRecDepth 100000
set_option maxHeartbeats 2000000
namespace K23
open PySem PySem.Spec PyProof.Rows L2 Eng
variable {L n : Nat} {m : Mem}
/-! ### the law's own steps -/
/-- a step of small numbers -/
def smS : St → Prop
  | .ex i => i < 1001
  | .put i d => i < 1001 ∧ d < 1001
theorem sDl_fac {st : St} (h : smS st) : ∀ d ∈ sDl st, Fac d 11 0 := fun d hd => by
  cases st with
  | ex i =>
    simp only [sDl, List.mem_cons, List.not_mem_nil, or_false] at hd
    rcases hd with rfl | rfl
    · exact (Fac.str (w := 11) (by decide +kernel) (by decide +kernel))
    · exact Fac.int h
  | put i e =>
    simp only [sDl, List.mem_cons, List.not_mem_nil, or_false] at hd
    rcases hd with rfl | rfl | rfl
    · exact (Fac.str (w := 11) (by decide +kernel) (by decide +kernel))
    · exact Fac.int h.1
    · exact Fac.int h.2
theorem sDl_len (st : St) : (sDl st).length ≤ 3 := by cases st <;> simp [sDl]
theorem sD_fac {st : St} (t : Bool) (h : smS st) : Fac (sD t st) 36 1 := by
  cases t
  · exact Fac.list (n := 3) (sDl_fac h) (sDl_len st)
  · exact Fac.tuple (n := 3) (sDl_fac h) (sDl_len st)
theorem sD_plain (st : St) : plainD (sD true st) = true := by cases st <;> rfl
theorem sD_inj {a b : St} (h : sD true a = sD true b) : a = b := by
  cases a <;> cases b <;> simp only [sD, sDl, mkS, if_true, PyData.tuple.injEq, List.cons.injEq, PyData.str.injEq, PyData.int.injEq, and_true, true_and, reduceCtorEq, and_false, false_and] at h
  · congr 1; omega
  · obtain ⟨h1, h2⟩ := h
    congr 1 <;> omega
theorem allS_sm {D : Nat} {h : Hi} {st : St} (hD : D ≤ 6) (hl : h.length ≤ 10) (hs : st ∈ allS D h) : smS st := by
  have := allS_in hs
  cases st with
  | ex i =>
    have : i + 1 < h.length := this
    show i < 1001
    omega
  | put i d =>
    have : i < h.length ∧ d < D := this
    exact ⟨by omega, by omega⟩
theorem candL_sub {D : Nat} {h : Hi} {st : St} (hs : st ∈ candL D h) : st ∈ allS D h ∧ vS D h st := by
  unfold candL at hs
  rw [List.mem_filter] at hs
  exact ⟨hs.1, of_decide_eq_true hs.2⟩
def exsL (h : Hi) : List St := ((List.range (h.length - 1)).filter fun i => decide ((lt0 h i).1 ≠ (lt0 h (i + 1)).1)).map .ex
def putL (D : Nat) (h : Hi) (i : Nat) : List St := ((List.range D).filter fun d => decide (d ≠ (lt0 h i).2)).map (.put i)
theorem candL_eq (D : Nat) (h : Hi) : candL D h = exsL h ++ (List.range h.length).flatMap (putL D h) := by
  unfold candL allS
  rw [List.filter_append]
  congr 1
  · unfold exsL
    rw [List.filter_map]
    congr 1
    refine List.filter_congr fun i hi => ?_
    have := List.mem_range.mp hi
    rw [Function.comp_apply, Bool.eq_iff_iff, decide_eq_true_eq, decide_eq_true_eq]
    exact ⟨fun q => q.2, fun q => ⟨by omega, q⟩⟩
  · rw [List.filter_flatMap]
    have : ∀ (l : List Nat), (∀ i ∈ l, i < h.length) → l.flatMap (fun i => ((List.range D).map (St.put i)).filter fun st => decide (vS D h st)) = l.flatMap (putL D h) := fun l => by
      induction l with
      | nil => intro _; rfl
      | cons i l ih =>
        intro hl
        rw [List.flatMap_cons, List.flatMap_cons, ih fun j hj => hl j (List.mem_cons_of_mem _ hj)]
        congr 1
        unfold putL
        rw [List.filter_map]
        congr 1
        refine List.filter_congr fun d hd => ?_
        have := List.mem_range.mp hd
        rw [Function.comp_apply, Bool.eq_iff_iff, decide_eq_true_eq, decide_eq_true_eq]
        exact ⟨fun q => q.2.2, fun q => ⟨hl i List.mem_cons_self, this, q⟩⟩
    exact this _ fun i hi => List.mem_range.mp hi
theorem candL_len {D : Nat} {h : Hi} (hD : D ≤ 6) (hl : h.length ≤ 10) : (candL D h).length ≤ 69 := Nat.le_trans (List.length_filter_le _ _) (allS_len hD hl)
theorem candidates_ok {b s K : Nat} {rules : List (List Nat)} {h : Hi} (hm : MOk b s rules) (ho : HOk K rules.length h) (hl : h.length ≤ 10) : callN L P (n + 1) 44 [.dat (mD true s rules), .dat (hD h)] m = .ok (.dat (.list ((candL rules.length h).map (sD true)))) m := by
  rw [call_eq P__law_candidates rfl]
  have hR := hm.l6
  have key1 : evE (callN L P n) c__law_candidates_1 [.v (.dat (mD true s rules)), .v (.dat (hD h)), .no, .no, .no] m = .ok (.dat (.list ((exsL h).map (sD true)))) m := by
    unfold exsL
    rw [List.map_map]
    refine ev_compF (g := fun x : Nat => PyData.int (x : Int)) rfl ?_ (by rw [List.length_range]; omega) fun i hi => ?_
    · rw [← rng0]
      simp [hD_lenV, rng1_pred (show h.length ≤ 10000 by omega)]
    · have hi' := List.mem_range.mp hi
      have e2 := hD_ix (h := h) (i := i) (by omega)
      have e3 := hD_ix1 (h := h) (i := i) (by omega)
      refine ⟨_, rfl, ?_, fun _ => by simp [e__law_candidates_1]; rfl⟩
      have ev : decide ((lt0 h i).1 ≠ (lt0 h (i + 1)).1) = !decide (((lt0 h i).1 : Int) = ((lt0 h (i + 1)).1 : Int)) := by
        rw [Bool.eq_iff_iff, decide_eq_true_eq, Bool.not_eq_true', decide_eq_false_iff_not]; omega
      rw [ev]
      simp [-List.getD_eq_getElem?_getD, t__law_candidates_1, e2, e3, pD_0]
  have hput : ∀ i, (putL rules.length h i).length ≤ 6 := fun i => by
    unfold putL
    rw [List.length_map]
    exact Nat.le_trans (List.length_filter_le _ _) (by rw [List.length_range]; exact hR)
  have := forGo_inv (body := fun σ m => evSs L (callN L P n) b__law_candidates_1 σ m) (tg := .nm 3) (rngD 0 h.length) (fun i σ m' => m' = m ∧ i ≤ h.length ∧ ∃ s3, σ = [.v (.dat (mD true s rules)), .v (.dat (hD h)), .v (.dat (.list ((exsL h ++ (List.range i).flatMap (putL rules.length h)).map (sD true)))), s3, .no])
    (fun i d σ m' hd ⟨hmm, hi, s3, hσ⟩ => by
      subst hmm hσ
      rw [rng0, List.getElem?_map, Option.map_eq_some_iff] at hd
      obtain ⟨i', hi', rfl⟩ := hd
      have hil : i < h.length := by have := (List.getElem?_eq_some_iff.mp hi').1; rwa [List.length_range] at this
      rw [List.getElem?_range hil] at hi'
      cases hi'
      refine ⟨_, _, _, rfl, ?_, rfl, hil, .v (.dat (.int (i : Int))), rfl⟩
      have e2 := hD_ix hil
      have key : evE (callN L P n) c__law_candidates_2 [.v (.dat (mD true s rules)), .v (.dat (hD h)), .v (.dat (.list ((exsL h ++ (List.range i).flatMap (putL rules.length h)).map (sD true)))), .v (.dat (.int (i : Int))), .no] m' = .ok (.dat (.list ((putL rules.length h i).map (sD true)))) m' := by
        unfold putL
        rw [List.map_map]
        refine ev_compF (g := fun x : Nat => PyData.int (x : Int)) rfl ?_ (by rw [List.length_range]; omega) fun d hd => ?_
        · rw [← rng0]
          simp [mD_1, rD_lenV, rng1_nat (show rules.length ≤ 100000 by omega)]
        · refine ⟨_, rfl, ?_, fun _ => by simp [e__law_candidates_2]; rfl⟩
          have ev : decide (d ≠ (lt0 h i).2) = !decide ((d : Int) = ((lt0 h i).2 : Int)) := by
            rw [Bool.eq_iff_iff, decide_eq_true_eq, Bool.not_eq_true', decide_eq_false_iff_not]; omega
          rw [ev]
          simp [-List.getD_eq_getElem?_getD, t__law_candidates_2, e2, pD_1]
      have hlen1 : (exsL h ++ (List.range i).flatMap (putL rules.length h)).length ≤ 900 := by
        have h1 : (exsL h).length ≤ 10 := by
          unfold exsL
          rw [List.length_map]
          exact Nat.le_trans (List.length_filter_le _ _) (by rw [List.length_range]; omega)
        have h2 := flat_len_le (f := putL rules.length h) (B := 6) (l := List.range i) fun x _ => hput x
        rw [List.length_range] at h2
        rw [List.length_append]; omega
      have ea : binVal .add (.list ((exsL h ++ (List.range i).flatMap (putL rules.length h)).map (sD true))) (.list ((putL rules.length h i).map (sD true))) = some (.list ((exsL h ++ (List.range (i + 1)).flatMap (putL rules.length h)).map (sD true))) := by
        have e : binVal .add (.list ((exsL h ++ (List.range i).flatMap (putL rules.length h)).map (sD true))) (.list ((putL rules.length h i).map (sD true))) = some (.list ((exsL h ++ (List.range i).flatMap (putL rules.length h)).map (sD true) ++ (putL rules.length h i).map (sD true))) := if_pos (small1001 (by rw [List.length_map, List.length_map]; have := hput i; omega))
        rw [e, ← List.map_append, List.append_assoc]
        congr 4
        rw [List.range_succ, List.flatMap_append]; simp
      generalize (exsL h ++ (List.range i).flatMap (putL rules.length h)).map (sD true) = A1 at key ea ⊢
      generalize (exsL h ++ (List.range (i + 1)).flatMap (putL rules.length h)).map (sD true) = A2 at ea ⊢
      simp [b__law_candidates_1, bA_c__law_candidates_2, key, ea])
    (m := m) (σ := [.v (.dat (mD true s rules)), .v (.dat (hD h)), .v (.dat (.list ((exsL h).map (sD true)))), .no, .no]) ⟨rfl, Nat.zero_le _, .no, by simp⟩
  obtain ⟨σ', m', h1, rfl, _, s3, rfl⟩ := this
  rw [rng_len] at h1
  have loop : evS L (callN L P n) l__law_candidates_1 [.v (.dat (mD true s rules)), .v (.dat (hD h)), .v (.dat (.list ((exsL h).map (sD true)))), .no, .no] m' = .ok (.nx, [.v (.dat (mD true s rules)), .v (.dat (hD h)), .v (.dat (.list ((candL rules.length h).map (sD true)))), s3, .no]) m' := by
    show evS L _ (.for_ _ _ _) _ _ = _
    rw [candL_eq]
    simp only [s_forE, it_rng1, ev_b1, bA_var, ev_var, getV, List.getElem?_cons_zero, List.getElem?_cons_succ, R.bind_ok, d1_dat, hD_lenV, R.dat_some, asInt_int, rng1_nat (show h.length ≤ 100000 by omega)]
    exact h1
  generalize (exsL h).map (sD true) = A1 at key1 loop
  simp [d__law_candidates, key1, loop]
theorem lbehind_ok {D : Nat} {h : Hi} {st : St} (t : Bool) (hi : inS D h st) : callN L P (n + 1) 45 [.dat (hD h), .dat (sD t st)] m = .ok (.dat (hD (stepH h st))) m := by
  rw [call_eq P__law_behind rfl]
  have ne : ("exchange" : Str) ≠ ("put" : Str) := by decide
  have el : b1Val .list (hD h) = some (.list (hDl h)) := rfl
  have et : ∀ g : Hi, b1Val .tuple (.list (hDl g)) = some (hD g) := fun _ => rfl
  cases st with
  | put i d =>
    have hi' : i < h.length ∧ d < D := hi
    have e2 := hD_ix hi'.1
    have e6 := fun σ : Eng.Env => setO_ok (m := m) (σ := σ) (i := 3) (xs := hDl h) (a := i) (d := pD ((lt0 h i).1, d)) (by rw [hDl_len]; exact hi'.1)
    have e7 : PyData.tuple [.int (lt0 h i).1, .int (d : Int)] = pD ((lt0 h i).1, d) := rfl
    have e8 := hDl_set h i ((lt0 h i).1, d)
    simp [-List.getD_eq_getElem?_getD, d__law_behind, sD_0put, sD_1put, sD_2put, el, eqS, e2, pD_0, e7, e6, e8, et]
    rfl
  | ex i =>
    have hi' : i + 1 < h.length := hi
    have e2 := hD_ix (h := h) (i := i) (by omega)
    have e3 := hD_ix1 hi'
    have e6 := fun σ : Eng.Env => setO_ok (m := m) (σ := σ) (i := 3) (xs := hDl h) (a := i) (d := pD (lt0 h (i + 1))) (by rw [hDl_len]; omega)
    have e7 := fun σ : Eng.Env => setO_ok (m := m) (σ := σ) (i := 3) (xs := hDl (h.set i (lt0 h (i + 1)))) (a := i + 1) (d := pD (lt0 h i)) (by rw [hDl_len, List.length_set]; omega)
    have e8 := hDl_set h i (lt0 h (i + 1))
    have e9 := hDl_set (h.set i (lt0 h (i + 1))) (i + 1) (lt0 h i)
    have e7' : ∀ σ : Eng.Env, setOGo σ 3 (hDl (h.set i (lt0 h (i + 1)))) (.dat (pD (lt0 h i))) (.dat (.int ((i : Int) + 1))) m = .ok (.nx, σ.set 3 (.own (hDl ((h.set i (lt0 h (i + 1))).set (i + 1) (lt0 h i))))) m := fun σ => by rw [← e9]; exact e7 σ
    simp [-List.getD_eq_getElem?_getD, d__law_behind, sD_0ex, sD_1ex, el, eqS, ne, e2, e3, e6, e8, e7', et]
    rfl
theorem ltable_ok {b s K : Nat} {rules : List (List Nat)} {h : Hi} (hm : MOk b s rules) (ho : HOk K rules.length h) (k4 : K ≤ 4) (hl : h.length ≤ 10) : callN L P (n + 2) 43 [.dat (mD true s rules), .dat (.int K), .dat (hD h)] m = .ok (.dat (.list (iD (tabL s rules K h)))) m := by
  rw [call_eq P__law_table rfl]
  have k1 := counts_ok (L := L) (n := n) (m := m) (k := K) (h := h) (by omega) (by omega)
  have hbig : ∀ c ∈ cnts K h, c ≤ 1000 := fun c hc => Nat.le_trans (cnts_big hl c hc) (by omega)
  have k2 := lvectors_ok (L := L) (n := n) (m := m) (cs := cnts K h) (by rw [cnts_len]; exact k4) hbig (prod_ok k4 hl)
  have key : evE (callN L P (n + 1)) c__law_table_1 [.v (.dat (mD true s rules)), .v (.dat (.int K)), .v (.dat (hD h)), .no] m = .ok (.dat (.list (iD (tabL s rules K h)))) m := by
    unfold tabL iD
    rw [List.map_map]
    refine ev_compM (g := tI) (by simp [k1, k2]) (by rw [vecs_len]; exact prod_ok k4 hl) fun v hv => ?_
    have q := board_ok (L := L) (n := n) (m := m) (v := v) hm ho (by rw [vecs_mem_len v hv, cnts_len]) (by omega)
    exact ⟨_, rfl, by simp [e__law_table_1, q]⟩
  simp [d__law_table, bA_c__law_table_1, key]
theorem tabL_fac {b s K : Nat} {rules : List (List Nat)} {h : Hi} (hm : MOk b s rules) (ho : HOk K rules.length h) (k4 : K ≤ 4) (hl : h.length ≤ 10) : Fac (.list (iD (tabL s rules K h))) 12000 1 := by
  refine Fac.list (n := 1000) (w := 11) (k := 0) (fun d hd => ?_) ?_
  · unfold iD tabL at hd
    obtain ⟨x, hx, rfl⟩ := List.mem_map.mp hd
    obtain ⟨v, _, rfl⟩ := List.mem_map.mp hx
    have := board_lt (v := v) hm ho
    have := hm.b8
    exact Fac.int (by omega)
  · unfold tabL
    rw [iD_len, List.length_map, vecs_len]; exact prod_ok k4 hl
theorem eqv_nats (a b : List Nat) : PyData.eqv (.list (iD a)) (.list (iD b)) = decide (a = b) := eqv_ints a b
theorem lunseen_ok {b s K : Nat} {rules : List (List Nat)} {h : Hi} (hm : MOk b s rules) (k4 : K ≤ 4) (ho : HOk K rules.length h) (hl : h.length ≤ 10) : callN L P (n + 3) 46 [.dat (mD true s rules), .dat (.int K), .dat (hD h)] m = .ok (.dat (.list (((candL rules.length h).filter (unsP s rules K h)).map (sD true)))) m := by
  rw [call_eq P__law_unseen rfl]
  have hR := hm.l6
  have k1 := ltable_ok (L := L) (n := n) (m := m) hm ho k4 hl
  have k2 : callN L P (n + 2) 44 [.dat (mD true s rules), .dat (hD h)] m = .ok (.dat (.list ((candL rules.length h).map (sD true)))) m := candidates_ok (L := L) (n := n + 1) (m := m) hm ho hl
  have key : evE (callN L P (n + 2)) c__law_unseen_1 [.v (.dat (mD true s rules)), .v (.dat (.int K)), .v (.dat (hD h)), .v (.dat (.list (iD (tabL s rules K h)))), .no] m = .ok (.dat (.list (((candL rules.length h).filter (unsP s rules K h)).map (sD true)))) m := by
    refine ev_compF (g := sD true) rfl (by simp [k2]) (by have := candL_len hR hl; omega) fun st hst => ?_
    obtain ⟨hin, hv⟩ := candL_sub hst
    refine ⟨_, rfl, ?_, fun _ => by simp [e__law_unseen_1]⟩
    have q1 : callN L P (n + 2) 45 [.dat (hD h), .dat (sD true st)] m = .ok (.dat (hD (stepH h st))) m := lbehind_ok (L := L) (n := n + 1) (m := m) true (allS_in hin)
    have q2 := ltable_ok (L := L) (n := n) (m := m) hm (step_ho ho hv) k4 (by rw [step_len (R := 0)]; exact hl)
    have q3 := cmp_eqS (tabL_fac hm (step_ho ho hv) k4 (by rw [step_len (R := 0)]; exact hl)) (tabL_fac hm ho k4 hl) (by omega) (by omega) rfl
    rw [eqv_nats] at q3
    have eu : unsP s rules K h st = decide (tabL s rules K (stepH h st) = tabL s rules K h) := by
      rw [Bool.eq_iff_iff, decide_eq_true_eq]; exact unseen_tab ho hv
    rw [eu]
    simp [t__law_unseen_1, q1, q2, q3]
  simp [d__law_unseen, k1, bA_c__law_unseen_1, key]
end K23

set_option Elab.async false
set_option linter.all false
set_option maxRecDepth 100000
set_option maxHeartbeats 2000000
namespace K23
open PySem PySem.Spec PyProof.Rows L2 Eng
variable {L n : Nat} {m : Mem}
/-! ### the law's own look at the boards ahead; refused steps; lists in the place of tuples -/
theorem ones_nil {α : Type} (l : List α) (hl : l.length ≤ 1000) : cmpVal .eq (.list (l.map fun _ => PyData.int 1)) (.list []) = some (.bool l.isEmpty) := by
  have h1 : Fac (.list (l.map fun _ => PyData.int 1)) 12000 1 := Fac.list (n := 1000) (w := 11) (k := 0) (fun d hd => by
    obtain ⟨_, _, rfl⟩ := List.mem_map.mp hd
    exact Fac.int (i := 1) (by omega)) (by rw [List.length_map]; exact hl)
  have h2 : Fac (.list []) 0 1 := Fac.list (n := 0) (w := 11) (k := 0) (fun d hd => absurd hd (by simp)) (Nat.le_refl _)
  rw [cmp_eqS h1 h2 (by omega) (by omega) rfl]
  cases l <;> rfl
theorem lotI {s K : Nat} {rules : List (List Nat)} {p : Hi} {ws : List Nat} : sortD ((lot s rules K p ws).map fun x : Nat => (x : Int)) = (lotS s rules K p ws).map fun x : Nat => (x : Int) := by
  refine lt_unique (sortD_lt _) ?_ fun k => ?_
  · have := lotS_lt s rules K p ws
    rw [List.pairwise_map]
    exact this.imp fun {a b} h => by omega
  · rw [mem_sortD, List.mem_map, List.mem_map]
    exact ⟨fun ⟨x, hx, e⟩ => ⟨x, lotS_mem.mpr hx, e⟩, fun ⟨x, hx, e⟩ => ⟨x, lotS_mem.mp hx, e⟩⟩
theorem sset_lot {b s K : Nat} {rules : List (List Nat)} {p : Hi} {ws : List Nat} (hm : MOk b s rules) (ho : HOk K rules.length p) (k4 : K ≤ 4) (hl : p.length ≤ 10) : ssetV (.list (iD (lot s rules K p ws))) = some (.list (iD (lotS s rules K p ws))) := by
  have e : iD (lot s rules K p ws) = ((lot s rules K p ws).map fun x : Nat => (x : Int)).map PyData.int := by unfold iD; rw [List.map_map]; rfl
  have e2 : iD (lotS s rules K p ws) = ((lotS s rules K p ws).map fun x : Nat => (x : Int)).map PyData.int := by unfold iD; rw [List.map_map]; rfl
  have h1 : (lot s rules K p ws).length ≤ 1000 := by
    unfold lot lotV
    rw [List.length_map]
    exact Nat.le_trans (List.length_filter_le _ _) (by rw [vecs_len]; exact prod_ok k4 hl)
  have h2 : (lotS s rules K p ws).length < 64 := by
    have hlt : ∀ x ∈ lotS s rules K p ws, x < b := fun x hx => lot_lt hm ho x (lotS_mem.mp hx)
    have hnd : (lotS s rules K p ws).Nodup := (lotS_lt s rules K p ws).imp fun {a b} (h : a < b) => by omega
    have := nodup_le hnd hlt
    have := hm.b8
    omega
  have es : ssetV (.list (iD (lot s rules K p ws))) = (asInts (iD (lot s rules K p ws))).bind fun ns => if ns.length ≤ 1000 ∧ (sortD ns).length < 64 then some (.list ((sortD ns).map .int)) else none := rfl
  rw [es, e, Eng.asInts_map, Option.bind_some, lotI, if_pos ⟨by rw [List.length_map]; exact h1, by rw [List.length_map]; exact h2⟩, e2]
theorem lahead_ok {b s K : Nat} {rules : List (List Nat)} {h : Hi} {i : Nat} {ws : List Nat} (hm : MOk b s rules) (k4 : K ≤ 4) (ho : HOk K rules.length h) (hl : h.length ≤ 10) (hi : i ≤ h.length) (hw : ∀ a ∈ ws, a < K) (hwl : ws.length ≤ 10) :
    callN L P (n + 3) 48 [.dat (mD true s rules), .dat (.int K), .dat (hD h), .dat (.int i), .dat (.list (iD ws))] m = .ok (.dat (.list (iD (lotS s rules K (h.take i) ws)))) m := by
  rw [call_eq P__law_ahead rfl]
  obtain ⟨p, hp⟩ : ∃ p, p = h.take i := ⟨_, rfl⟩
  rw [← hp]
  have hpl : p.length ≤ 10 := by rw [hp, List.length_take]; omega
  have hpo : HOk K rules.length p := by rw [hp]; exact ho_take ho i
  have es : slVal (hD h) none (some (i : Int)) = some (hD p) := by
    have := cutP_lo (xs := hDl h) (a := i) (by rw [hDl_len]; exact hi)
    have e : (hDl h).take i = hDl p := by rw [hp]; unfold hDl; rw [List.map_take]
    rw [e] at this
    exact this
  have c1 : callN L P (n + 2) 40 [.dat (.int K), .dat (hD p)] m = .ok (.dat (tI (cnts K p))) m := counts_ok (L := L) (n := n + 1) (m := m) (k := K) (h := p) (by omega) (by omega)
  have hbig : ∀ c ∈ cnts K p, c ≤ 1000 := fun c hc => Nat.le_trans (cnts_big hpl c hc) (by omega)
  have c2 : callN L P (n + 2) 41 [.dat (tI (cnts K p))] m = .ok (.dat (.list ((vecs (cnts K p)).map tI))) m := lvectors_ok (L := L) (n := n + 1) (m := m) (cs := cnts K p) (by rw [cnts_len]; exact k4) hbig (prod_ok k4 hpl)
  have hvl : (vecs (cnts K p)).length ≤ 1000 := by rw [vecs_len]; exact prod_ok k4 hpl
  have key2 : ∀ s6 : Sl, evE (callN L P (n + 2)) c__law_ahead_2 [.v (.dat (mD true s rules)), .v (.dat (.int K)), .v (.dat (hD h)), .v (.dat (.int i)), .v (.dat (.list (iD ws))), .v (.dat (tI (cnts K p))), s6, .no, .no] m = .ok (.dat (.list ((lotV K p ws).map tI))) m := fun s6 => by
    have ef : lotV K p ws = (vecs (cnts K p)).filter fun v => (ws.filter fun a => decide (v.getD a 0 < (cnts K p).getD a 0)).isEmpty := by
      unfold lotV
      refine List.filter_congr fun v hv => ?_
      have hvi := vecs_in hv
      rw [Bool.eq_iff_iff, List.all_eq_true, List.isEmpty_iff, List.filter_eq_nil_iff]
      refine forall_congr' fun a => forall_congr' fun ha => ?_
      rw [beq_iff_eq, decide_eq_true_eq]
      have h2 := (inV_iff.mp hvi).2 a (hw a ha)
      have cg : (cnts K p).getD a 0 = cnt p a := by rw [List.getD_eq_getElem?_getD, cnts_get p (hw a ha)]; rfl
      rw [cg]; omega
    rw [ef]
    refine ev_compF (g := tI) rfl (by simp [c2]) hvl fun v hv => ?_
    have hvi : InV (cnts K p) v := vecs_in hv
    have hvlen : v.length = K := by have := hvi.1; rwa [cnts_len] at this
    refine ⟨_, rfl, ?_, fun _ => by simp [e__law_ahead_1]⟩
    have key1 : evE (callN L P (n + 2)) c__law_ahead_1 [.v (.dat (mD true s rules)), .v (.dat (.int K)), .v (.dat (hD h)), .v (.dat (.int i)), .v (.dat (.list (iD ws))), .v (.dat (tI (cnts K p))), s6, .v (.dat (tI v)), .no] m = .ok (.dat (.list ((ws.filter fun a => decide (v.getD a 0 < (cnts K p).getD a 0)).map fun _ => PyData.int 1))) m := by
      refine ev_compF (g := fun x : Nat => PyData.int (x : Int)) rfl (by simp; rfl) (by omega) fun a ha => ?_
      refine ⟨_, rfl, ?_, fun _ => by simp [e__law_ahead_2]⟩
      have e1 : ixVal (tI v) (.int (a : Int)) = some (.int (v.getD a 0 : Nat)) := iD_at (by rw [hvlen]; exact hw a ha)
      have e2 : ixVal (tI (cnts K p)) (.int (a : Int)) = some (.int ((cnts K p).getD a 0 : Nat)) := cntsI_get (hw a ha)
      have eq : decide (v.getD a 0 < (cnts K p).getD a 0) = decide ((v.getD a 0 : Int) < ((cnts K p).getD a 0 : Int)) := by
        rw [Bool.eq_iff_iff, decide_eq_true_eq, decide_eq_true_eq]; omega
      rw [eq]
      simp [-List.getD_eq_getElem?_getD, -Int.ofNat_lt, t__law_ahead_1, e1, e2]
    have hone := ones_nil (ws.filter fun a => decide (v.getD a 0 < (cnts K p).getD a 0)) (Nat.le_trans (List.length_filter_le _ _) (by omega))
    simp [-List.getD_eq_getElem?_getD, t__law_ahead_2, bA_c__law_ahead_1, key1, hone]
  have key3 : evE (callN L P (n + 2)) c__law_ahead_3 [.v (.dat (mD true s rules)), .v (.dat (.int K)), .v (.dat (hD h)), .v (.dat (.int i)), .v (.dat (.list (iD ws))), .v (.dat (tI (cnts K p))), .v (.dat (.list ((lotV K p ws).map tI))), .no, .no] m = .ok (.dat (.list (iD (lot s rules K p ws)))) m := by
    unfold lot iD
    rw [List.map_map]
    refine ev_compM (g := tI) (by simp) (by unfold lotV; exact Nat.le_trans (List.length_filter_le _ _) hvl) fun v hv => ?_
    have hvv : v ∈ vecs (cnts K p) := by unfold lotV at hv; exact (List.mem_filter.mp hv).1
    have q : callN L P (n + 2) 42 [.dat (mD true s rules), .dat (hD p), .dat (tI v)] m = .ok (.dat (.int (board s rules p v))) m := board_ok (L := L) (n := n + 1) (m := m) (v := v) hm hpo (by rw [vecs_mem_len v hvv, cnts_len]) (by omega)
    exact ⟨_, rfl, by simp [e__law_ahead_3, es, q]⟩
  have hs := sset_lot (ws := ws) hm hpo k4 hpl
  generalize (lotV K p ws).map tI = A1 at key2 key3
  simp [d__law_ahead, es, c1, key2, key3, hs]
theorem lfits_ok {b s K : Nat} {rules : List (List Nat)} {h : Hi} {st : St} (hm : MOk b s rules) (k4 : K ≤ 4) (ho : HOk K rules.length h) (hl : h.length ≤ 10) (hi : inS rules.length h st) :
    callN L P (n + 4) 49 [.dat (mD true s rules), .dat (.int K), .dat (hD h), .dat (sD true st)] m = .ok (.dat (.bool (unsP s rules K h st))) m := by
  rw [call_eq P__law_fits rfl]
  have ne : ("exchange" : Str) ≠ ("put" : Str) := by decide
  cases st with
  | put i d =>
    have hi' : i < h.length ∧ d < rules.length := hi
    have q := lt0_ok ho hi'.1
    have e2 := hD_ix hi'.1
    have e3 : pD (lt0 h i) = .tuple [.int (lt0 h i).1, .int (lt0 h i).2] := rfl
    rw [e3] at e2
    have c1 : callN L P (n + 3) 48 [.dat (mD true s rules), .dat (.int K), .dat (hD h), .dat (.int i), .dat (.list (iD [(lt0 h i).1]))] m = .ok (.dat (.list (iD (lotS s rules K (h.take i) [(lt0 h i).1])))) m := lahead_ok (L := L) (n := n) (m := m) hm k4 ho hl (by omega) (by simp; exact q.1) (by simp)
    obtain ⟨g1, g2⟩ := lotS_len (ws := [(lt0 h i).1]) (s := s) (K := K) hm (ho_take ho i)
    have e4 : iD [(lt0 h i).1] = [.int ((lt0 h i).1 : Nat)] := rfl
    rw [e4] at c1
    obtain ⟨l, hl'⟩ : ∃ l, l = lotS s rules K (h.take i) [(lt0 h i).1] := ⟨_, rfl⟩
    have eu : unsP s rules K h (.put i d) = (l.filter fun x => !decide ((stepR rules (lt0 h i).2 x : Int) = (stepR rules d x : Int))).isEmpty := by
      rw [← uns_put hi'.2, ← hl']
      unfold likeL
      rw [Bool.eq_iff_iff, decide_eq_true_eq, List.mem_filter, List.mem_range, List.all_eq_true, List.isEmpty_iff, List.filter_eq_nil_iff]
      constructor
      · rintro ⟨_, H⟩ x hx
        have := beq_iff_eq.mp (H x hx)
        simp; omega
      · intro H
        refine ⟨hi'.2, fun x hx => beq_iff_eq.mpr ?_⟩
        have := H x hx
        simp at this; omega
    rw [← hl'] at c1 g1 g2
    have key : evE (callN L P (n + 3)) c__law_fits_1 [.v (.dat (mD true s rules)), .v (.dat (.int K)), .v (.dat (hD h)), .v (.dat (sD true (.put i d))), .no, .v (.dat (.int i)), .v (.dat (.tuple (rD rules))), .v (.dat (.int ((lt0 h i).1 : Nat))), .v (.dat (.int ((lt0 h i).2 : Nat))), .no, .no, .no] m = .ok (.dat (.list ((l.filter fun x => !decide ((stepR rules (lt0 h i).2 x : Int) = (stepR rules d x : Int))).map fun _ => PyData.int 1))) m := by
      refine ev_compF (l := l) (g := fun x : Nat => PyData.int (x : Int)) rfl ?_ (by omega) fun x hx => ?_
      · simp [c1]; rfl
      · refine ⟨_, rfl, ?_, fun _ => by simp [e__law_fits_1]⟩
        have hxb := g1 x hx
        have e1 := row_ix hm q.2 hxb
        have e5 := row_ix hm hi'.2 hxb
        simp [-List.getD_eq_getElem?_getD, t__law_fits_1, rD_ix q.2, rD_ix hi'.2, sD_2put, e1, e5]
    have hone := ones_nil (l.filter fun x => !decide ((stepR rules (lt0 h i).2 x : Int) = (stepR rules d x : Int))) (Nat.le_trans (List.length_filter_le _ _) (by omega))
    rw [eu]
    generalize (l.filter fun x => !decide ((stepR rules (lt0 h i).2 x : Int) = (stepR rules d x : Int))) = l2 at key hone
    generalize (l2.map fun _ => PyData.int 1) = l3 at key hone
    simp [-List.getD_eq_getElem?_getD, d__law_fits, sD_0put, sD_1put, mD_1, e2, eqS, bA_c__law_fits_1, key, hone]
  | ex i =>
    have hi' : i + 1 < h.length := hi
    have q := lt0_ok (i := i) ho (by omega)
    have q2 := lt0_ok ho hi'
    have e2 := hD_ix (h := h) (i := i) (by omega)
    have e5 := hD_ix1 hi'
    have e3 : pD (lt0 h i) = .tuple [.int (lt0 h i).1, .int (lt0 h i).2] := rfl
    have e6 : pD (lt0 h (i + 1)) = .tuple [.int (lt0 h (i + 1)).1, .int (lt0 h (i + 1)).2] := rfl
    rw [e3] at e2
    rw [e6] at e5
    have c1 : callN L P (n + 3) 48 [.dat (mD true s rules), .dat (.int K), .dat (hD h), .dat (.int i), .dat (.list (iD [(lt0 h i).1, (lt0 h (i + 1)).1]))] m = .ok (.dat (.list (iD (lotS s rules K (h.take i) [(lt0 h i).1, (lt0 h (i + 1)).1])))) m := lahead_ok (L := L) (n := n) (m := m) hm k4 ho hl (by omega) (fun a ha => by
      simp only [List.mem_cons, List.not_mem_nil, or_false] at ha
      rcases ha with rfl | rfl
      · exact q.1
      · exact q2.1) (by simp)
    obtain ⟨g1, g2⟩ := lotS_len (ws := [(lt0 h i).1, (lt0 h (i + 1)).1]) (s := s) (K := K) hm (ho_take ho i)
    have e4 : iD [(lt0 h i).1, (lt0 h (i + 1)).1] = [.int ((lt0 h i).1 : Nat), .int ((lt0 h (i + 1)).1 : Nat)] := rfl
    rw [e4] at c1
    obtain ⟨l, hl'⟩ : ∃ l, l = lotS s rules K (h.take i) [(lt0 h i).1, (lt0 h (i + 1)).1] := ⟨_, rfl⟩
    have eu : unsP s rules K h (.ex i) = (l.filter fun x => !decide ((stepR rules (lt0 h i).2 (stepR rules (lt0 h (i + 1)).2 x) : Int) = (stepR rules (lt0 h (i + 1)).2 (stepR rules (lt0 h i).2 x) : Int))).isEmpty := by
      rw [← uns_ex, ← hl']
      rw [Bool.eq_iff_iff, List.all_eq_true, List.isEmpty_iff, List.filter_eq_nil_iff]
      constructor
      · intro H x hx
        have := beq_iff_eq.mp (H x hx)
        simp; omega
      · intro H x hx
        refine beq_iff_eq.mpr ?_
        have := H x hx
        simp at this; omega
    rw [← hl'] at c1 g1 g2
    have key : evE (callN L P (n + 3)) c__law_fits_2 [.v (.dat (mD true s rules)), .v (.dat (.int K)), .v (.dat (hD h)), .v (.dat (sD true (.ex i))), .v (.dat (.list (iD l))), .v (.dat (.int i)), .v (.dat (.tuple (rD rules))), .v (.dat (.int ((lt0 h i).1 : Nat))), .v (.dat (.int ((lt0 h i).2 : Nat))), .v (.dat (.int ((lt0 h (i + 1)).1 : Nat))), .v (.dat (.int ((lt0 h (i + 1)).2 : Nat))), .no] m = .ok (.dat (.list ((l.filter fun x => !decide ((stepR rules (lt0 h i).2 (stepR rules (lt0 h (i + 1)).2 x) : Int) = (stepR rules (lt0 h (i + 1)).2 (stepR rules (lt0 h i).2 x) : Int))).map fun _ => PyData.int 1))) m := by
      refine ev_compF (l := l) (g := fun x : Nat => PyData.int (x : Int)) rfl (by simp; rfl) (by omega) fun x hx => ?_
      refine ⟨_, rfl, ?_, fun _ => by simp [e__law_fits_2]⟩
      have hxb := g1 x hx
      have e1 := row_ix hm q.2 hxb
      have e7 := row_ix hm q2.2 hxb
      have e8 := row_ix hm q.2 (step_lt hm q2.2 hxb)
      have e9 := row_ix hm q2.2 (step_lt hm q.2 hxb)
      simp [-List.getD_eq_getElem?_getD, t__law_fits_2, rD_ix q.2, rD_ix q2.2, e1, e7, e8, e9]
    have hone := ones_nil (l.filter fun x => !decide ((stepR rules (lt0 h i).2 (stepR rules (lt0 h (i + 1)).2 x) : Int) = (stepR rules (lt0 h (i + 1)).2 (stepR rules (lt0 h i).2 x) : Int))) (Nat.le_trans (List.length_filter_le _ _) (by omega))
    rw [eu]
    generalize (l.filter fun x => !decide ((stepR rules (lt0 h i).2 (stepR rules (lt0 h (i + 1)).2 x) : Int) = (stepR rules (lt0 h (i + 1)).2 (stepR rules (lt0 h i).2 x) : Int))) = l2 at key hone
    generalize (l2.map fun _ => PyData.int 1) = l3 at key hone
    simp [-List.getD_eq_getElem?_getD, d__law_fits, sD_0ex, sD_1ex, mD_1, e2, e5, eqS, ne, c1, bA_c__law_fits_2, key, hone]
theorem lrefused_ok {b s K : Nat} {rules : List (List Nat)} {h : Hi} {st : St} (hm : MOk b s rules) (k1 : 1 ≤ K) (k4 : K ≤ 4) (ho : HOk K rules.length h) (hl : h.length ≤ 10) (hv : vS rules.length h st) (hsm : smS st) (hu : unsP s rules K h st = false) :
    callN L P (n + 14) 50 [.dat (mD true s rules), .dat (.int K), .dat (hD h), .dat (sD true st)] m = .ok (.dat (.bool true)) m := by
  rw [call_eq P__law_refused rfl]
  have k := stepped_ok (L := L) (n := n) (m := m) (st := st) true hm k1 k4 ho hl hv
  rw [hu, if_neg (by simp)] at k
  obtain ⟨z, hz⟩ := (sD_fac true hsm).repr (by omega) (by omega)
  have e1 : cmpVal .eq (.str z) (.str z) = some (.bool true) := by rw [eqS]; simp
  simp [d__law_refused, k, tryGo, clrS, hSs, hE, hz, e1]
theorem lists_hist {h : Hi} (hl : h.length ≤ 1000) : callN L P (n + 3) 47 [.dat (hD h)] m = .ok (.dat (hG false false h)) m := by
  have e : hG false false h = .list ((hDl h).map flat) := by
    unfold hG hDl
    rw [List.map_map]
    rfl
  rw [e]
  refine lists_T (by rw [hDl_len]; exact hl) fun d hd => ?_
  obtain ⟨p, _, rfl⟩ := List.mem_map.mp hd
  exact lists_T (ds := [.int p.1, .int p.2]) (f := id) (by simp) (fun d hd => by
    simp only [List.mem_cons, List.not_mem_nil, or_false] at hd
    rcases hd with rfl | rfl <;> exact lists_I _)
end K23

set_option Elab.async false
set_option linter.all false
set_option maxRecDepth 100000
set_option maxHeartbeats 2000000
namespace K23
open PySem PySem.Spec PyProof.Rows L2 Eng
variable {m : Mem}
/-! ### the law -/
theorem rng_get {r i : Nat} {d : PyData} (h : (rngD 0 r)[i]? = some d) : i < r ∧ d = .int (0 + (i : Int)) := by
  unfold rngD at h
  rw [List.getElem?_map, Option.map_eq_some_iff] at h
  obtain ⟨j, hj, rfl⟩ := h
  have hi : i < r := by have := (List.getElem?_eq_some_iff.mp hj).1; rwa [List.length_range] at this
  rw [List.getElem?_range hi] at hj
  cases hj
  exact ⟨hi, rfl⟩
theorem consS {L : Nat} {C : Calls} {s : S} {ss : Ss} {σ σ1 σ2 : Eng.Env} {m m1 m2 : Mem} (h : evS L C s σ m = .ok (.nx, σ1) m1) (h2 : evSs L C ss σ1 m1 = .ok (.nx, σ2) m2) : evSs L C (.cons s ss) σ m = .ok (.nx, σ2) m2 := by
  rw [s_cons, h, R.bind_ok, then_nx, h2]
theorem pD_fac {p : Nat × Nat} (h1 : p.1 < 1001) (h2 : p.2 < 1001) : Fac (pD p) 24 1 := Fac.tuple (n := 2) (w := 11) (k := 0) (fun d hd => by
  simp only [List.mem_cons, List.not_mem_nil, or_false] at hd
  rcases hd with rfl | rfl
  · exact Fac.int h1
  · exact Fac.int h2) (by simp)
theorem hD_fac {K R : Nat} {h : Hi} (ho : HOk K R h) (hK : K ≤ 1000) (hR : R ≤ 1000) (hl : h.length ≤ 10) : Fac (hD h) 250 2 := Fac.tuple (n := 10) (w := 24) (k := 1) (fun d hd => by
  obtain ⟨p, hp, rfl⟩ := List.mem_map.mp hd
  have := ho p hp
  exact pD_fac (by omega) (by omega)) (by rw [hDl_len]; exact hl)
theorem steps_fac {l : List St} (h : ∀ st ∈ l, smS st) (hl : l.length ≤ 69) : ∀ d ∈ l.map (sD true), Fac d 36 1 := fun d hd => by
  obtain ⟨st, hs, rfl⟩ := List.mem_map.mp hd
  exact sD_fac true (h st hs)
theorem eqStr (z : Str) : cmpVal .ne (.str z) (.str z) = some (.bool false) := by rw [neS]; simp
theorem inner_ok {b s K q : Nat} {rules : List (List Nat)} {h : Hi} {u0 : U} {s1 s3 s6 s8 s11 : Sl} (hm : MOk b s rules) (k1 : 1 ≤ K) (k4 : K ≤ 4) (ho : HOk K rules.length h) (hl : h.length ≤ 10) (hB : Bx q m) (hne : candL rules.length h ≠ []) :
    ∃ (m' : Mem) (t11 : Sl), evSs 1000 (callN 1000 P 19) b_law_1 [.v u0, s1, .v (.ref q), s3, .v (.dat (hD h)), .v (.dat (.list (((candL rules.length h).filter (unsP s rules K h)).map (sD true)))), s6, .v (.dat (.list ((candL rules.length h).map (sD true)))), s8, .v (.dat (mD true s rules)), .v (.dat (.int K)), s11] m = .ok (.nx, [.v u0, s1, .v (.ref q), s3, .v (.dat (hD h)), .v (.dat (.list (((candL rules.length h).filter (unsP s rules K h)).map (sD true)))), s6, .v (.dat (.list ((candL rules.length h).map (sD true)))), s8, .v (.dat (mD true s rules)), .v (.dat (.int K)), t11]) m' ∧ Bx q m' := by
  have hR := hm.l6
  obtain ⟨d, m1, d1, d2, d3⟩ := pick_box (L := 1000) (n := 17) (m := m) (xs := (candL rules.length h).map (sD true)) hB (by simpa using hne) (by rw [List.length_map]; have := candL_len hR hl; omega)
  have d2' : callN 1000 P 19 37 [.ref q, .dat (.list ((candL rules.length h).map (sD true)))] m = .ok (.dat d) m1 := d2
  obtain ⟨st, hst, rfl⟩ := List.mem_map.mp d1
  obtain ⟨hin, hv⟩ := candL_sub hst
  have hsm := allS_sm hR hl hin
  obtain ⟨Du, hDu⟩ : ∃ Du, Du = (candL rules.length h).filter (unsP s rules K h) := ⟨_, rfl⟩
  have hmem : st ∈ Du ↔ unsP s rules K h st = true := by
    rw [hDu, List.mem_filter]
    exact ⟨fun q => q.2, fun q => ⟨hst, q⟩⟩
  have hDs : ∀ x ∈ Du, smS x := fun x hx => by
    rw [hDu] at hx
    exact allS_sm hR hl (candL_sub (List.mem_filter.mp hx).1).1
  have hDl : Du.length ≤ 69 := by rw [hDu]; exact Nat.le_trans (List.length_filter_le _ _) (candL_len hR hl)
  rw [← hDu]
  have hnot := cmp_notinL (sD_fac true hsm) (by omega) (Fac.all (steps_fac hDs hDl)).lay
  rw [any_eqv (fun x _ => sD_plain x) fun x _ e => sD_inj e] at hnot
  generalize Du.map (sD true) = DD at hnot ⊢
  generalize (candL rules.length h).map (sD true) = CC at d2' ⊢
  by_cases hu : unsP s rules K h st = true
  · rw [decide_eq_true (hmem.mpr hu)] at hnot
    obtain ⟨e, m2, e1, e2, e3⟩ := pick_box (L := 1000) (n := 17) (m := m1) (xs := [sD true st, sD false st]) d3 (by simp) (by simp)
    have e2' : callN 1000 P 19 37 [.ref q, .dat (.list [sD true st, sD false st])] m1 = .ok (.dat e) m2 := e2
    obtain ⟨t, rfl⟩ : ∃ t, e = sD t st := by
      simp only [List.mem_cons, List.not_mem_nil, or_false] at e1
      rcases e1 with rfl | rfl
      · exact ⟨true, rfl⟩
      · exact ⟨false, rfl⟩
    have k := stepped_ok (L := 1000) (n := 6) (m := m2) (st := st) t hm k1 k4 ho hl hv
    rw [if_pos hu] at k
    have k' : callN 1000 P 19 34 [.dat (mD true s rules), .dat (.int K), .dat (hD h), .dat (sD t st)] m2 = .ok (.dat (hD (stepH h st))) m2 := k
    have kb : callN 1000 P 19 45 [.dat (hD h), .dat (sD true st)] m2 = .ok (.dat (hD (stepH h st))) m2 := lbehind_ok (L := 1000) (n := 18) (m := m2) true (allS_in hin)
    obtain ⟨z, hz⟩ := (hD_fac (step_ho ho hv) (by omega) (by omega) (by rw [step_len (R := 0)]; exact hl)).repr (by omega) (by omega)
    have el : b1Val .list (sD true st) = some (sD false st) := rfl
    refine ⟨m2, .v (.dat (sD true st)), ?_, e3⟩
    simp [b_law_1, d2', hnot, el, e2', k', kb, hz, eqStr]
  · have hu' : unsP s rules K h st = false := by simpa using hu
    rw [decide_eq_false (fun q => hu (hmem.mp q))] at hnot
    have k : callN 1000 P 19 50 [.dat (mD true s rules), .dat (.int K), .dat (hD h), .dat (sD true st)] m1 = .ok (.dat (.bool true)) m1 := lrefused_ok (L := 1000) (n := 5) (m := m1) hm k1 k4 ho hl hv hsm hu'
    refine ⟨m1, .v (.dat (sD true st)), ?_, d3⟩
    simp [b_law_1, d2', hnot, k]
def nthS : Nat → Ss → S
  | _, .nil => .pass
  | 0, .cons s _ => s
  | i + 1, .cons _ t => nthS i t
theorem b_law_2_cut : b_law_2 = .cons (nthS 0 b_law_2) (.cons (nthS 1 b_law_2) (.cons (nthS 2 b_law_2) (.cons (nthS 3 b_law_2) (.cons (nthS 4 b_law_2) (.cons (nthS 5 b_law_2) (.cons (nthS 6 b_law_2) (.cons (nthS 7 b_law_2) (.cons (nthS 8 b_law_2) (.cons (nthS 9 b_law_2) (.cons (nthS 10 b_law_2) .nil)))))))))) := rfl
section
variable {C : Calls} {m1 m2 m3 : Mem} {u0 u1 u2 u4 u5 : U} {s2 s3 s4 s5 s6 s7 s8 s9 s10 s11 : Sl} {x y : U}
theorem v0 (h : C 35 [u0, u1] m = .ok x m1) : evS 1000 C (nthS 0 b_law_2) [.v u0, .v u1, s2, s3, s4, s5, s6, s7, s8, s9, s10, s11] m = .ok (.nx, [.v u0, .v u1, .v x, s3, s4, s5, s6, s7, s8, s9, s10, s11]) m1 := by simp [nthS, b_law_2, h]
theorem v1 {d : PyData} {i j : Int} (h : C 38 [u2, .dat (.int 4), .dat (.int 3)] m = .ok (.dat d) m1) (h2 : C 36 [u2, .dat (.int 4)] m1 = .ok (.dat (.int i)) m2) (e : 1 + i = j) : evS 1000 C (nthS 1 b_law_2) [.v u0, .v u1, .v u2, s3, s4, s5, s6, s7, s8, s9, s10, s11] m = .ok (.nx, [.v u0, .v u1, .v u2, s3, s4, s5, s6, s7, s8, .v (.dat d), .v (.dat (.int j)), s11]) m2 := by subst e; simp [nthS, b_law_2, h, h2]
theorem v2 (h : C 36 [u2, .dat (.int 7)] m = .ok x m1) : evS 1000 C (nthS 2 b_law_2) [.v u0, .v u1, .v u2, s3, s4, s5, s6, s7, s8, s9, s10, s11] m = .ok (.nx, [.v u0, .v u1, .v u2, .v x, s4, s5, s6, s7, s8, s9, s10, s11]) m1 := by simp [nthS, b_law_2, h]
theorem v3a {i j k : Int} (h : C 36 [u2, .dat (.int 6)] m = .ok (.dat (.int i)) m1) (hi : i = 0) (h2 : C 36 [u2, .dat (.int 4)] m1 = .ok (.dat (.int j)) m2) (e : 7 + j = k) : evS 1000 C (nthS 3 b_law_2) [.v u0, .v u1, .v u2, s3, s4, s5, s6, s7, s8, s9, s10, s11] m = .ok (.nx, [.v u0, .v u1, .v u2, .v (.dat (.int k)), s4, s5, s6, s7, s8, s9, .v (.dat (.int 2)), s11]) m2 := by subst e hi; simp [nthS, b_law_2, h, h2]
theorem v3b {i : Int} (h : C 36 [u2, .dat (.int 6)] m = .ok (.dat (.int i)) m1) (hi : ¬ i = 0) : evS 1000 C (nthS 3 b_law_2) [.v u0, .v u1, .v u2, s3, s4, s5, s6, s7, s8, s9, s10, s11] m = .ok (.nx, [.v u0, .v u1, .v u2, s3, s4, s5, s6, s7, s8, s9, s10, s11]) m1 := by simp [nthS, b_law_2, h, hi]
theorem v4 {u3 u9 u10 : U} (h : C 39 [u2, u9, u10, u3] m = .ok x m1) : evS 1000 C (nthS 4 b_law_2) [.v u0, .v u1, .v u2, .v u3, s4, s5, s6, s7, s8, .v u9, .v u10, s11] m = .ok (.nx, [.v u0, .v u1, .v u2, .v u3, .v x, s5, s6, s7, s8, .v u9, .v u10, s11]) m1 := by simp [nthS, b_law_2, h]
theorem v5 {u3 u9 u10 : U} (h : C 46 [u9, u10, u4] m = .ok x m1) : evS 1000 C (nthS 5 b_law_2) [.v u0, .v u1, .v u2, .v u3, .v u4, s5, s6, s7, s8, .v u9, .v u10, s11] m = .ok (.nx, [.v u0, .v u1, .v u2, .v u3, .v u4, .v x, s6, s7, s8, .v u9, .v u10, s11]) m1 := by simp [nthS, b_law_2, h]
theorem v6 {u3 u9 u10 z : U} (h : C 47 [u9] m = .ok x m1) (h2 : C 47 [u4] m1 = .ok y m2) (h3 : C 33 [x, u10, y] m2 = .ok z m3) : evS 1000 C (nthS 6 b_law_2) [.v u0, .v u1, .v u2, .v u3, .v u4, .v u5, s6, s7, s8, .v u9, .v u10, s11] m = .ok (.nx, [.v u0, .v u1, .v u2, .v u3, .v u4, .v u5, .v z, s7, s8, .v u9, .v u10, s11]) m3 := by simp [nthS, b_law_2, h, h2, h3]
theorem v7 {u3 u9 u10 : U} {l : List PyData} {z : Str} (hz : b1Val .repr (.tuple l) = some (.str z)) (h : C 33 [u9, u10, u4] m = .ok (.dat (.tuple l)) m1) : evS 1000 C (nthS 7 b_law_2) [.v u0, .v u1, .v u2, .v u3, .v u4, .v (.dat (.list l)), .v (.dat (.tuple l)), s7, s8, .v u9, .v u10, s11] m = .ok (.nx, [.v u0, .v u1, .v u2, .v u3, .v u4, .v (.dat (.list l)), .v (.dat (.tuple l)), s7, s8, .v u9, .v u10, s11]) m1 := by
  have et : b1Val .tuple (.list l) = some (.tuple l) := rfl
  have ep : permL [u4, u10, u9] [2, 1, 0] = some [u9, u10, u4] := rfl
  simp [nthS, b_law_2, et, hz, eqStr, ep, h]
theorem v8 {u3 u6 u9 u10 : U} (h : C 44 [u9, u4] m = .ok x m1) : evS 1000 C (nthS 8 b_law_2) [.v u0, .v u1, .v u2, .v u3, .v u4, .v u5, .v u6, s7, s8, .v u9, .v u10, s11] m = .ok (.nx, [.v u0, .v u1, .v u2, .v u3, .v u4, .v u5, .v u6, .v x, s8, .v u9, .v u10, s11]) m1 := by simp [nthS, b_law_2, h]
end
theorem filt_none {b s K : Nat} {rules : List (List Nat)} {h : Hi} {u0 u1 u2 u3 u6 : U} {s8 s11 : Sl} (hm : MOk b s rules) (k1 : 1 ≤ K) (k4 : K ≤ 4) (ho : HOk K rules.length h) (hl : h.length ≤ 10) :
    evE (callN 1000 P 19) c_law_1 [.v u0, .v u1, .v u2, .v u3, .v (.dat (hD h)), .v (.dat (.list (((candL rules.length h).filter (unsP s rules K h)).map (sD true)))), .v u6, .v (.dat (.list ((candL rules.length h).map (sD true)))), s8, .v (.dat (mD true s rules)), .v (.dat (.int K)), s11] m = .ok (.dat (.list [])) m := by
  have hR := hm.l6
  have e : ([] : List PyData) = ((candL rules.length h).filter fun _ => false).map (sD true) := by simp
  rw [e]
  refine ev_compF (g := sD true) rfl (by simp) (by have := candL_len hR hl; omega) fun st hst => ?_
  obtain ⟨hin, hv⟩ := candL_sub hst
  have hsm := allS_sm hR hl hin
  refine ⟨_, rfl, ?_, fun q => by cases q⟩
  obtain ⟨Du, hDu⟩ : ∃ Du, Du = (candL rules.length h).filter (unsP s rules K h) := ⟨_, rfl⟩
  have hmem : st ∈ Du ↔ unsP s rules K h st = true := by
    rw [hDu, List.mem_filter]
    exact ⟨fun q => q.2, fun q => ⟨hst, q⟩⟩
  have hDs : ∀ x ∈ Du, smS x := fun x hx => by
    rw [hDu] at hx
    exact allS_sm hR hl (candL_sub (List.mem_filter.mp hx).1).1
  have hDl : Du.length ≤ 69 := by rw [hDu]; exact Nat.le_trans (List.length_filter_le _ _) (candL_len hR hl)
  rw [← hDu]
  have hinn := cmp_inL (sD_fac true hsm) (by omega) (Fac.all (steps_fac hDs hDl)).lay
  rw [any_eqv (fun x _ => sD_plain x) fun x _ e => sD_inj e] at hinn
  have ed : decide (st ∈ Du) = unsP s rules K h st := by rw [Bool.eq_iff_iff, decide_eq_true_eq, hmem]
  rw [ed] at hinn
  have k : callN 1000 P 19 49 [.dat (mD true s rules), .dat (.int K), .dat (hD h), .dat (sD true st)] m = .ok (.dat (.bool (unsP s rules K h st))) m := lfits_ok (L := 1000) (n := 15) (m := m) hm k4 ho hl (allS_in hin)
  have hb := cmp_neB (unsP s rules K h st) (unsP s rules K h st)
  rw [beq_self_eq_true] at hb
  generalize Du.map (sD true) = DD at hinn ⊢
  generalize (candL rules.length h).map (sD true) = CC
  simp [t_law_1, k, hinn, hb]
theorem body_tail {ns : List Int} {k : Nat} {b s K N q : Nat} {rules : List (List Nat)} {s4 s5 s6 s7 s8 s11 : Sl} (hm : MOk b s rules) (hR3 : rules.length ≤ 3) (k1 : 1 ≤ K) (k4 : K ≤ 4) (hN : N ≤ 10) (hB : Bx q m) :
    ∃ (m' : Mem) (t2 t3 t4 t5 t6 t7 t8 t9 t10 t11 : Sl), evSs 1000 (callN 1000 P 19) (.cons (nthS 4 b_law_2) (.cons (nthS 5 b_law_2) (.cons (nthS 6 b_law_2) (.cons (nthS 7 b_law_2) (.cons (nthS 8 b_law_2) (.cons (nthS 9 b_law_2) (.cons (nthS 10 b_law_2) .nil))))))) [.v (.dat (.list (ns.map .int))), .v (.dat (.int k)), .v (.ref q), .v (.dat (.int N)), s4, s5, s6, s7, s8, .v (.dat (mD true s rules)), .v (.dat (.int K)), s11] m = .ok (.nx, [.v (.dat (.list (ns.map .int))), .v (.dat (.int k)), t2, t3, t4, t5, t6, t7, t8, t9, t10, t11]) m' := by
  have hR : 1 ≤ rules.length := by
    have := hm.ne
    cases rules with
    | nil => exact absurd rfl this
    | cons _ _ => simp
  obtain ⟨h, m1, d1, d2, d3, d4⟩ := history_ok (L := 1000) (n := 17) (m := m) (a := K) (k := N) (s := s) (rules := rules) hB k1 (by omega) hR (by omega) (by omega)
  have d3' : callN 1000 P 19 39 [.ref q, .dat (mD true s rules), .dat (.int K), .dat (.int N)] m = .ok (.dat (hD h)) m1 := d3
  have hl : h.length ≤ 10 := by omega
  have c5 : callN 1000 P 19 46 [.dat (mD true s rules), .dat (.int K), .dat (hD h)] m1 = .ok (.dat (.list (((candL rules.length h).filter (unsP s rules K h)).map (sD true)))) m1 := lunseen_ok (L := 1000) (n := 16) (m := m1) hm k4 d2 hl
  have l1 : callN 1000 P 19 47 [.dat (mD true s rules)] m1 = .ok (.dat (mG false s rules)) m1 := lists_mach (L := 1000) (n := 15) (m := m1) hm
  have l2 : callN 1000 P 19 47 [.dat (hD h)] m1 = .ok (.dat (hG false false h)) m1 := lists_hist (L := 1000) (n := 16) (m := m1) (by omega)
  have cm : callN 1000 P 18 12 [.dat (mG false s rules)] m1 = .ok (.dat (mD true s rules)) m1 := check_machineG_ok (L := 1000) (n := 11) (m := m1) false hm
  have ch : callN 1000 P 18 17 [.dat (mD true s rules), .dat (.int K), .dat (hG false false h)] m1 = .ok (.dat (hD h)) m1 := check_history_G (L := 1000) (n := 10) (m := m1) true false false hm k1 k4 d2 (by omega)
  have cm' : callN 1000 P 18 12 [.dat (mD true s rules)] m1 = .ok (.dat (mD true s rules)) m1 := check_machine_ok (L := 1000) (n := 11) (m := m1) true hm
  have ch' : callN 1000 P 18 17 [.dat (mD true s rules), .dat (.int K), .dat (hD h)] m1 = .ok (.dat (hD h)) m1 := check_history_ok (L := 1000) (n := 10) (m := m1) true hm k1 k4 d2 (by omega)
  have c6 := unseen_steps_ok (L := 1000) (n := 5) (m := m1) hm k1 k4 d2 hl cm ch
  have c7 := unseen_steps_ok (L := 1000) (n := 5) (m := m1) hm k1 k4 d2 hl cm' ch'
  have c8 : callN 1000 P 19 44 [.dat (mD true s rules), .dat (hD h)] m1 = .ok (.dat (.list ((candL rules.length h).map (sD true)))) m1 := candidates_ok (L := 1000) (n := 18) (m := m1) hm d2 hl
  have hDs : ∀ x ∈ (candL rules.length h).filter (unsP s rules K h), smS x := fun x hx => allS_sm hm.l6 hl (candL_sub (List.mem_filter.mp hx).1).1
  have hDl : ((candL rules.length h).filter (unsP s rules K h)).length ≤ 69 := Nat.le_trans (List.length_filter_le _ _) (candL_len hm.l6 hl)
  obtain ⟨z, hz⟩ := (Fac.tuple (n := 69) (steps_fac hDs hDl) (by rw [List.length_map]; exact hDl)).repr (by omega) (by omega)
  have f9 := fun (u6 : U) (s8 : Sl) => filt_none (m := m1) (u0 := .dat (.list (ns.map .int))) (u1 := .dat (.int k)) (u2 := .ref q) (u3 := .dat (.int N)) (u6 := u6) (s8 := s8) (s11 := s11) hm k1 k4 d2 hl
  have e9 : ∀ (u6 : U), evS 1000 (callN 1000 P 19) (nthS 9 b_law_2) [.v (.dat (.list (ns.map .int))), .v (.dat (.int k)), .v (.ref q), .v (.dat (.int N)), .v (.dat (hD h)), .v (.dat (.list (((candL rules.length h).filter (unsP s rules K h)).map (sD true)))), .v u6, .v (.dat (.list ((candL rules.length h).map (sD true)))), s8, .v (.dat (mD true s rules)), .v (.dat (.int K)), s11] m1 = .ok (.nx, [.v (.dat (.list (ns.map .int))), .v (.dat (.int k)), .v (.ref q), .v (.dat (.int N)), .v (.dat (hD h)), .v (.dat (.list (((candL rules.length h).filter (unsP s rules K h)).map (sD true)))), .v u6, .v (.dat (.list ((candL rules.length h).map (sD true)))), s8, .v (.dat (mD true s rules)), .v (.dat (.int K)), s11]) m1 := fun u6 => by
    have hn : cmpVal .ne (.list []) (.list []) = some (.bool false) := rfl
    have := f9 u6 s8
    generalize ((candL rules.length h).filter (unsP s rules K h)).map (sD true) = DD at this ⊢
    generalize (candL rules.length h).map (sD true) = CC at this ⊢
    simp [nthS, b_law_2, bA_c_law_1, this, hn]
  -- the loop
  obtain ⟨T, hT⟩ : ∃ T : Nat, T = if 5 < (candL rules.length h).length then 5 else (candL rules.length h).length := ⟨_, rfl⟩
  have := forGo_inv (body := fun σ m => evSs 1000 (callN 1000 P 19) b_law_1 σ m) (tg := .nm 8) (rngD 0 T) (fun i σ m' => Bx q m' ∧ ∃ (t8 t11 : Sl), σ = [.v (.dat (.list (ns.map .int))), .v (.dat (.int k)), .v (.ref q), .v (.dat (.int N)), .v (.dat (hD h)), .v (.dat (.list (((candL rules.length h).filter (unsP s rules K h)).map (sD true)))), .v (.dat (.tuple (((candL rules.length h).filter (unsP s rules K h)).map (sD true)))), .v (.dat (.list ((candL rules.length h).map (sD true)))), t8, .v (.dat (mD true s rules)), .v (.dat (.int K)), t11])
    (fun i d σ m' hd ⟨hB, t8, t11, hσ⟩ => by
      subst hσ
      have hi := (rng_get hd).1
      have hne : candL rules.length h ≠ [] := fun e => by
        rw [e] at hT
        simp at hT; omega
      obtain ⟨m2, t11', g1, g2⟩ := inner_ok (m := m') (u0 := .dat (.list (ns.map .int))) (s1 := .v (.dat (.int k))) (s3 := .v (.dat (.int N))) (s6 := .v (.dat (.tuple (((candL rules.length h).filter (unsP s rules K h)).map (sD true))))) (s8 := .v (.dat d)) (s11 := t11) hm k1 k4 d2 hl hB hne
      exact ⟨_, _, m2, rfl, g1, g2, .v (.dat d), t11', rfl⟩)
    (m := m1) (σ := [.v (.dat (.list (ns.map .int))), .v (.dat (.int k)), .v (.ref q), .v (.dat (.int N)), .v (.dat (hD h)), .v (.dat (.list (((candL rules.length h).filter (unsP s rules K h)).map (sD true)))), .v (.dat (.tuple (((candL rules.length h).filter (unsP s rules K h)).map (sD true)))), .v (.dat (.list ((candL rules.length h).map (sD true)))), s8, .v (.dat (mD true s rules)), .v (.dat (.int K)), s11]) ⟨d4, s8, s11, rfl⟩
  obtain ⟨σ', m', g1, _, t8, t11, rfl⟩ := this
  have lh : ∀ l : List St, b1Val .len (.list (l.map (sD true))) = some (.int (l.length : Nat)) := fun l => by show some (PyData.int ((l.map (sD true)).length : Nat)) = _; rw [List.length_map]
  have hTle : T ≤ 5 := by rw [hT]; split <;> omega
  have eT : (if (5 : Int) < ((candL rules.length h).length : Nat) then (5 : Int) else ((candL rules.length h).length : Nat)) = (T : Int) := by
    rw [hT]
    by_cases q : 5 < (candL rules.length h).length
    · rw [if_pos (by omega), if_pos q]; rfl
    · rw [if_neg (by omega), if_neg q]
  have loop : evS 1000 (callN 1000 P 19) (nthS 10 b_law_2) [.v (.dat (.list (ns.map .int))), .v (.dat (.int k)), .v (.ref q), .v (.dat (.int N)), .v (.dat (hD h)), .v (.dat (.list (((candL rules.length h).filter (unsP s rules K h)).map (sD true)))), .v (.dat (.tuple (((candL rules.length h).filter (unsP s rules K h)).map (sD true)))), .v (.dat (.list ((candL rules.length h).map (sD true)))), s8, .v (.dat (mD true s rules)), .v (.dat (.int K)), s11] m1 = .ok (.nx, [.v (.dat (.list (ns.map .int))), .v (.dat (.int k)), .v (.ref q), .v (.dat (.int N)), .v (.dat (hD h)), .v (.dat (.list (((candL rules.length h).filter (unsP s rules K h)).map (sD true)))), .v (.dat (.tuple (((candL rules.length h).filter (unsP s rules K h)).map (sD true)))), .v (.dat (.list ((candL rules.length h).map (sD true)))), t8, .v (.dat (mD true s rules)), .v (.dat (.int K)), t11]) m' := by
    show evS 1000 _ (.for_ _ _ _) _ _ = _
    simp only [s_forE, it_rng1, ev_b2, ev_cst, ev_b1, bA_var, ev_var, getV, List.getElem?_cons_zero, List.getElem?_cons_succ, R.bind_ok, d1_dat, lh, R.dat_some, d2_dat, b2_min, eT, asInt_int, rng1_nat (show T ≤ 100000 by omega)]
    exact g1
  refine ⟨m', .v (.ref q), .v (.dat (.int N)), .v (.dat (hD h)), .v (.dat (.list (((candL rules.length h).filter (unsP s rules K h)).map (sD true)))), .v (.dat (.tuple (((candL rules.length h).filter (unsP s rules K h)).map (sD true)))), .v (.dat (.list ((candL rules.length h).map (sD true)))), t8, .v (.dat (mD true s rules)), .v (.dat (.int K)), t11, ?_⟩
  exact consS (v4 d3') (consS (v5 c5) (consS (v6 l1 l2 c6) (consS (v7 hz c7) (consS (v8 c8) (consS (e9 _) (consS loop rfl))))))
theorem law_body {ns : List Int} {k : Nat} {s2 s3 s4 s5 s6 s7 s8 s9 s10 s11 : Sl} (hns : ns.length ≤ 63) (hk : k ≤ 1000) : ∃ (m' : Mem) (t2 t3 t4 t5 t6 t7 t8 t9 t10 t11 : Sl), evSs 1000 (callN 1000 P 19) b_law_2 [.v (.dat (.list (ns.map .int))), .v (.dat (.int k)), s2, s3, s4, s5, s6, s7, s8, s9, s10, s11] m = .ok (.nx, [.v (.dat (.list (ns.map .int))), .v (.dat (.int k)), t2, t3, t4, t5, t6, t7, t8, t9, t10, t11]) m' := by
  obtain ⟨m1, a1, a2⟩ := box_ok (L := 1000) (n := 18) (m := m) (ns := ns) hk hns
  generalize hq : m.length = q at a1 a2
  obtain ⟨b, s, rules, m2, c1, c2, c3, c4, c5⟩ := machine_ok (L := 1000) (n := 15) (m := m1) (B := 4) (D := 3) a2 (by omega) (by omega) (by omega) (by omega)
  obtain ⟨K0, m3, b1, b2, b3⟩ := take_ok (L := 1000) (n := 18) (k := 4) c5 (by omega) (by omega)
  obtain ⟨N, m4, e1, e2, e3⟩ := take_ok (L := 1000) (n := 18) (k := 7) b3 (by omega) (by omega)
  obtain ⟨z, m5, f1, f2, f3⟩ := take_ok (L := 1000) (n := 18) (k := 6) e3 (by omega) (by omega)
  have a1' : callN 1000 P 19 35 [.dat (.list (ns.map .int)), .dat (.int k)] m = .ok (.ref q) m1 := a1
  have c4' : callN 1000 P 19 38 [.ref q, .dat (.int 4), .dat (.int 3)] m1 = .ok (.dat (mD true s rules)) m2 := c4
  have b2' : callN 1000 P 19 36 [.ref q, .dat (.int 4)] m2 = .ok (.dat (.int K0)) m3 := b2
  have e2' : callN 1000 P 19 36 [.ref q, .dat (.int 7)] m3 = .ok (.dat (.int N)) m4 := e2
  have f2' : callN 1000 P 19 36 [.ref q, .dat (.int 6)] m4 = .ok (.dat (.int z)) m5 := f2
  have eK : (1 : Int) + (K0 : Int) = ((1 + K0 : Nat) : Int) := by omega
  rw [b_law_2_cut]
  by_cases hz : z = 0
  · obtain ⟨t, m6, g1, g2, g3⟩ := take_ok (L := 1000) (n := 18) (k := 4) f3 (by omega) (by omega)
    have g2' : callN 1000 P 19 36 [.ref q, .dat (.int 4)] m5 = .ok (.dat (.int t)) m6 := g2
    have eN : (7 : Int) + (t : Int) = ((7 + t : Nat) : Int) := by omega
    obtain ⟨m', t2, t3, t4, t5, t6, t7, t8, t9, t10, t11, h⟩ := body_tail (m := m6) (ns := ns) (k := k) (b := b) (s := s) (K := 2) (N := 7 + t) (q := q) (rules := rules) (s4 := s4) (s5 := s5) (s6 := s6) (s7 := s7) (s8 := s8) (s11 := s11) c1 c3 (by omega) (by omega) (by omega) g3
    exact ⟨m', t2, t3, t4, t5, t6, t7, t8, t9, t10, t11, consS (v0 a1') (consS (v1 c4' b2' eK) (consS (v2 e2') (consS (v3a f2' (by omega) g2' eN) h)))⟩
  · obtain ⟨m', t2, t3, t4, t5, t6, t7, t8, t9, t10, t11, h⟩ := body_tail (m := m5) (ns := ns) (k := k) (b := b) (s := s) (K := 1 + K0) (N := N) (q := q) (rules := rules) (s4 := s4) (s5 := s5) (s6 := s6) (s7 := s7) (s8 := s8) (s11 := s11) c1 c3 (by omega) (by omega) (by omega) f3
    exact ⟨m', t2, t3, t4, t5, t6, t7, t8, t9, t10, t11, consS (v0 a1') (consS (v1 c4' b2' eK) (consS (v2 e2') (consS (v3b f2' (by omega)) h)))⟩
theorem law_true (ns : List Int) (hns : ns.length ≤ 63) : ∃ m', callN 1000 P 20 51 [.dat (.list (ns.map .int))] [] = .ok (.dat (.bool true)) m' := by
  obtain ⟨r, hr, hr6⟩ : ∃ r : Nat, (∀ m : Mem, evI (callN 1000 P 19) (.rng1 (.b2 .max (.cst (.int 4)) (.b2 .min (.b1 .len (.var 0)) (.cst (.int 9))))) [.v (.dat (.list (ns.map .int))), .no, .no, .no, .no, .no, .no, .no, .no, .no, .no, .no] m = .ok (rngD 0 r) m) ∧ r ≤ 1000 := by
    obtain ⟨r, e, h⟩ : ∃ r : Nat, (if (if (9 : Int) < ns.length then (9 : Int) else ns.length) > 4 then (if (9 : Int) < ns.length then (9 : Int) else ns.length) else 4) = (r : Int) ∧ r ≤ 1000 := by
      by_cases h6 : (9 : Int) < ns.length
      · exact ⟨9, by rw [if_pos h6, if_pos (by omega)]; rfl, by omega⟩
      · rw [if_neg h6]
        by_cases h3 : (ns.length : Int) > 4
        · exact ⟨ns.length, by rw [if_pos h3], by omega⟩
        · exact ⟨4, by rw [if_neg h3]; rfl, by omega⟩
    refine ⟨r, fun m => ?_, h⟩
    have lh : b1Val .len (.list (ns.map PyData.int)) = some (.int ns.length) := by show some (PyData.int ((ns.map PyData.int).length : Nat)) = _; rw [List.length_map]
    simp only [it_rng1, ev_b2, ev_cst, ev_b1, bA_var, ev_var, getV, List.getElem?_cons_zero, R.bind_ok, d1_dat, lh, R.dat_some, d2_dat, b2_min, b2_max, e, asInt_int]
    exact rng1_nat (by omega)
  have := forGo_inv (body := fun σ m => evSs 1000 (callN 1000 P 19) b_law_2 σ m) (tg := .nm 1) (rngD 0 r) (fun i σ m' => ∃ (s1 t2 t3 t4 t5 t6 t7 t8 t9 t10 t11 : Sl), σ = [.v (.dat (.list (ns.map .int))), s1, t2, t3, t4, t5, t6, t7, t8, t9, t10, t11])
    (fun i d σ m' hd ⟨s1, t2, t3, t4, t5, t6, t7, t8, t9, t10, t11, hσ⟩ => by
      subst hσ
      have hi : i < r := by have := (List.getElem?_eq_some_iff.mp hd).1; rwa [rng_len] at this
      obtain ⟨_, rfl⟩ := rng_get hd
      obtain ⟨m2, v2, v3, v4, v5, v6, v7, v8, v9, v10, v11, k⟩ := law_body (m := m') (ns := ns) (k := i) (s2 := t2) (s3 := t3) (s4 := t4) (s5 := t5) (s6 := t6) (s7 := t7) (s8 := t8) (s9 := t9) (s10 := t10) (s11 := t11) hns (by omega)
      refine ⟨[.v (.dat (.list (ns.map .int))), .v (.dat (.int i)), t2, t3, t4, t5, t6, t7, t8, t9, t10, t11], _, m2, ?_, k, _, v2, v3, v4, v5, v6, v7, v8, v9, v10, v11, rfl⟩
      rw [Int.zero_add]; rfl)
    (m := []) (σ := [.v (.dat (.list (ns.map .int))), .no, .no, .no, .no, .no, .no, .no, .no, .no, .no, .no]) ⟨.no, .no, .no, .no, .no, .no, .no, .no, .no, .no, .no, rfl⟩
  obtain ⟨σ', m', h2, s1, t2, t3, t4, t5, t6, t7, t8, t9, t10, t11, rfl⟩ := this
  refine ⟨m', ?_⟩
  have loop : evS 1000 (callN 1000 P 19) l_law_2 [.v (.dat (.list (ns.map .int))), .no, .no, .no, .no, .no, .no, .no, .no, .no, .no, .no] [] = .ok (.nx, [.v (.dat (.list (ns.map .int))), s1, t2, t3, t4, t5, t6, t7, t8, t9, t10, t11]) m' := by
    show evS 1000 _ (.for_ _ _ _) _ _ = _
    rw [s_forE, hr, R.bind_ok]
    exact h2
  rw [call_eq P_law rfl]
  have e0 : (([.dat (.list (ns.map .int))] : List U).map Sl.v ++ List.replicate (d_law.N.length - ([.dat (.list (ns.map .int))] : List U).length) Sl.no) = [.v (.dat (.list (ns.map .int))), .no, .no, .no, .no, .no, .no, .no, .no, .no, .no, .no] := rfl
  rw [e0]
  simp only [d_law, s_cons, loop, R.bind_ok, then_nx, s_retE, ev_cst, then_ret, s_nil, fin_ret]
end K23

open PySem PySem.W PyProof.Rows in
set_option maxRecDepth 100000 in
set_option maxHeartbeats 0 in
theorem PySem.Challenge.cw_ownback_k23_whole_steps_that_nobody_sees_holds : PySem.Challenge.rw_ownback_k23_whole_steps_that_nobody_sees.Holds := by
  w_on; o_law; k_head; (case hw => w_witness2)
  k_fill
  refine Eng.walk_eng (l := PySem.Challenge.rw_ownback_k23_whole_steps_that_nobody_sees) (n := 63) (k := 20) (lawId := 51) (G := K23.G) (P := K23.tb.prog) (L := 1000) (fd := K23.d_law) rfl (by decide) rfl ⟨rfl, by decide, by decide⟩ (fun w h Y => PySem.W.kIn_of Y) ?T K23.P_law rfl rfl K23.law_true
  case T =>
    intro w mg h KX Gn
    refine Eng.tab_of (t := K23.tb) KX Gn rfl ?dI K23.sd ?nI ?gI ?dD ?xT
    case dI =>
      refine' And.intro (Eng.di_mk ?zza0 ?zzl0 ?zzc0 ?zzk0) ?zzr0
      (case zza0 => k_is); (case zzl0 => k_is); (case zzc0 => k_is); (case zzk0 => k_is)
      refine' And.intro (Eng.di_mk ?zza1 ?zzl1 ?zzc1 ?zzk1) ?zzr1
      (case zza1 => k_is); (case zzl1 => k_is); (case zzc1 => k_is); (case zzk1 => k_is)
      refine' And.intro (Eng.di_mk ?zza2 ?zzl2 ?zzc2 ?zzk2) ?zzr2
      (case zza2 => k_is); (case zzl2 => k_is); (case zzc2 => k_is); (case zzk2 => k_is)
      refine' And.intro (Eng.di_mk ?zza3 ?zzl3 ?zzc3 ?zzk3) ?zzr3
      (case zza3 => k_is); (case zzl3 => k_is); (case zzc3 => k_is); (case zzk3 => k_is)
      refine' And.intro (Eng.di_mk ?zza4 ?zzl4 ?zzc4 ?zzk4) ?zzr4
      (case zza4 => k_is); (case zzl4 => k_is); (case zzc4 => k_is); (case zzk4 => k_is)
      refine' And.intro (Eng.di_mk ?zza5 ?zzl5 ?zzc5 ?zzk5) ?zzr5
      (case zza5 => k_is); (case zzl5 => k_is); (case zzc5 => k_is); (case zzk5 => k_is)
      refine' And.intro (Eng.di_mk ?zza6 ?zzl6 ?zzc6 ?zzk6) ?zzr6
      (case zza6 => k_is); (case zzl6 => k_is); (case zzc6 => k_is); (case zzk6 => k_is)
      refine' And.intro (Eng.di_mk ?zza7 ?zzl7 ?zzc7 ?zzk7) ?zzr7
      (case zza7 => k_is); (case zzl7 => k_is); (case zzc7 => k_is); (case zzk7 => k_is)
      refine' And.intro (Eng.di_mk ?zza8 ?zzl8 ?zzc8 ?zzk8) ?zzr8
      (case zza8 => k_is); (case zzl8 => k_is); (case zzc8 => k_is); (case zzk8 => k_is)
      refine' And.intro (Eng.di_mk ?zza9 ?zzl9 ?zzc9 ?zzk9) ?zzr9
      (case zza9 => k_is); (case zzl9 => k_is); (case zzc9 => k_is); (case zzk9 => k_is)
      refine' And.intro (Eng.di_mk ?zza10 ?zzl10 ?zzc10 ?zzk10) ?zzr10
      (case zza10 => k_is); (case zzl10 => k_is); (case zzc10 => k_is); (case zzk10 => k_is)
      refine' And.intro (Eng.di_mk ?zza11 ?zzl11 ?zzc11 ?zzk11) ?zzr11
      (case zza11 => k_is); (case zzl11 => k_is); (case zzc11 => k_is); (case zzk11 => k_is)
      refine' And.intro (Eng.di_mk ?zza12 ?zzl12 ?zzc12 ?zzk12) ?zzr12
      (case zza12 => k_is); (case zzl12 => k_is); (case zzc12 => k_is); (case zzk12 => k_is)
      refine' And.intro (Eng.di_mk ?zza13 ?zzl13 ?zzc13 ?zzk13) ?zzr13
      (case zza13 => k_is); (case zzl13 => k_is); (case zzc13 => k_is); (case zzk13 => k_is)
      refine' And.intro (Eng.di_mk ?zza14 ?zzl14 ?zzc14 ?zzk14) ?zzr14
      (case zza14 => k_is); (case zzl14 => k_is); (case zzc14 => k_is); (case zzk14 => k_is)
      refine' And.intro (Eng.di_mk ?zza15 ?zzl15 ?zzc15 ?zzk15) ?zzr15
      (case zza15 => k_is); (case zzl15 => k_is); (case zzc15 => k_is); (case zzk15 => k_is)
      refine' And.intro (Eng.di_mk ?zza16 ?zzl16 ?zzc16 ?zzk16) ?zzr16
      (case zza16 => k_is); (case zzl16 => k_is); (case zzc16 => k_is); (case zzk16 => k_is)
      refine' And.intro (Eng.di_mk ?zza17 ?zzl17 ?zzc17 ?zzk17) ?zzr17
      (case zza17 => k_is); (case zzl17 => k_is); (case zzc17 => k_is); (case zzk17 => k_is)
      refine' And.intro (Eng.di_mk ?zza18 ?zzl18 ?zzc18 ?zzk18) ?zzr18
      (case zza18 => k_is); (case zzl18 => k_is); (case zzc18 => k_is); (case zzk18 => k_is)
      refine' And.intro (Eng.di_mk ?zza19 ?zzl19 ?zzc19 ?zzk19) ?zzr19
      (case zza19 => k_is); (case zzl19 => k_is); (case zzc19 => k_is); (case zzk19 => k_is)
      refine' And.intro (Eng.di_mk ?zza20 ?zzl20 ?zzc20 ?zzk20) ?zzr20
      (case zza20 => k_is); (case zzl20 => k_is); (case zzc20 => k_is); (case zzk20 => k_is)
      refine' And.intro (Eng.di_mk ?zza21 ?zzl21 ?zzc21 ?zzk21) ?zzr21
      (case zza21 => k_is); (case zzl21 => k_is); (case zzc21 => k_is); (case zzk21 => k_is)
      refine' And.intro (Eng.di_mk ?zza22 ?zzl22 ?zzc22 ?zzk22) ?zzr22
      (case zza22 => k_is); (case zzl22 => k_is); (case zzc22 => k_is); (case zzk22 => k_is)
      refine' And.intro (Eng.di_mk ?zza23 ?zzl23 ?zzc23 ?zzk23) ?zzr23
      (case zza23 => k_is); (case zzl23 => k_is); (case zzc23 => k_is); (case zzk23 => k_is)
      refine' And.intro (Eng.di_mk ?zza24 ?zzl24 ?zzc24 ?zzk24) ?zzr24
      (case zza24 => k_is); (case zzl24 => k_is); (case zzc24 => k_is); (case zzk24 => k_is)
      refine' And.intro (Eng.di_mk ?zza25 ?zzl25 ?zzc25 ?zzk25) ?zzr25
      (case zza25 => k_is); (case zzl25 => k_is); (case zzc25 => k_is); (case zzk25 => k_is)
      refine' And.intro (Eng.di_mk ?zza26 ?zzl26 ?zzc26 ?zzk26) ?zzr26
      (case zza26 => k_is); (case zzl26 => k_is); (case zzc26 => k_is); (case zzk26 => k_is)
      refine' And.intro (Eng.di_mk ?zza27 ?zzl27 ?zzc27 ?zzk27) ?zzr27
      (case zza27 => k_is); (case zzl27 => k_is); (case zzc27 => k_is); (case zzk27 => k_is)
      refine' And.intro (Eng.di_mk ?zza28 ?zzl28 ?zzc28 ?zzk28) ?zzr28
      (case zza28 => k_is); (case zzl28 => k_is); (case zzc28 => k_is); (case zzk28 => k_is)
      refine' And.intro (Eng.di_mk ?zza29 ?zzl29 ?zzc29 ?zzk29) ?zzr29
      (case zza29 => k_is); (case zzl29 => k_is); (case zzc29 => k_is); (case zzk29 => k_is)
      refine' And.intro (Eng.di_mk ?zza30 ?zzl30 ?zzc30 ?zzk30) ?zzr30
      (case zza30 => k_is); (case zzl30 => k_is); (case zzc30 => k_is); (case zzk30 => k_is)
      refine' And.intro (Eng.di_mk ?zza31 ?zzl31 ?zzc31 ?zzk31) ?zzr31
      (case zza31 => k_is); (case zzl31 => k_is); (case zzc31 => k_is); (case zzk31 => k_is)
      refine' And.intro (Eng.di_mk ?zza32 ?zzl32 ?zzc32 ?zzk32) ?zzr32
      (case zza32 => k_is); (case zzl32 => k_is); (case zzc32 => k_is); (case zzk32 => k_is)
      refine' And.intro (Eng.di_mk ?zza33 ?zzl33 ?zzc33 ?zzk33) ?zzr33
      (case zza33 => k_is); (case zzl33 => k_is); (case zzc33 => k_is); (case zzk33 => k_is)
      refine' And.intro (Eng.di_mk ?zza34 ?zzl34 ?zzc34 ?zzk34) ?zzr34
      (case zza34 => k_is); (case zzl34 => k_is); (case zzc34 => k_is); (case zzk34 => k_is)
      refine' And.intro (Eng.di_mk ?zza35 ?zzl35 ?zzc35 ?zzk35) ?zzr35
      (case zza35 => k_is); (case zzl35 => k_is); (case zzc35 => k_is); (case zzk35 => k_is)
      refine' And.intro (Eng.di_mk ?zza36 ?zzl36 ?zzc36 ?zzk36) ?zzr36
      (case zza36 => k_is); (case zzl36 => k_is); (case zzc36 => k_is); (case zzk36 => k_is)
      refine' And.intro (Eng.di_mk ?zza37 ?zzl37 ?zzc37 ?zzk37) ?zzr37
      (case zza37 => k_is); (case zzl37 => k_is); (case zzc37 => k_is); (case zzk37 => k_is)
      refine' And.intro (Eng.di_mk ?zza38 ?zzl38 ?zzc38 ?zzk38) ?zzr38
      (case zza38 => k_is); (case zzl38 => k_is); (case zzc38 => k_is); (case zzk38 => k_is)
      refine' And.intro (Eng.di_mk ?zza39 ?zzl39 ?zzc39 ?zzk39) ?zzr39
      (case zza39 => k_is); (case zzl39 => k_is); (case zzc39 => k_is); (case zzk39 => k_is)
      refine' And.intro (Eng.di_mk ?zza40 ?zzl40 ?zzc40 ?zzk40) ?zzr40
      (case zza40 => k_is); (case zzl40 => k_is); (case zzc40 => k_is); (case zzk40 => k_is)
      refine' And.intro (Eng.di_mk ?zza41 ?zzl41 ?zzc41 ?zzk41) ?zzr41
      (case zza41 => k_is); (case zzl41 => k_is); (case zzc41 => k_is); (case zzk41 => k_is)
      refine' And.intro (Eng.di_mk ?zza42 ?zzl42 ?zzc42 ?zzk42) ?zzr42
      (case zza42 => k_is); (case zzl42 => k_is); (case zzc42 => k_is); (case zzk42 => k_is)
      refine' And.intro (Eng.di_mk ?zza43 ?zzl43 ?zzc43 ?zzk43) ?zzr43
      (case zza43 => k_is); (case zzl43 => k_is); (case zzc43 => k_is); (case zzk43 => k_is)
      refine' And.intro (Eng.di_mk ?zza44 ?zzl44 ?zzc44 ?zzk44) ?zzr44
      (case zza44 => k_is); (case zzl44 => k_is); (case zzc44 => k_is); (case zzk44 => k_is)
      refine' And.intro (Eng.di_mk ?zza45 ?zzl45 ?zzc45 ?zzk45) ?zzr45
      (case zza45 => k_is); (case zzl45 => k_is); (case zzc45 => k_is); (case zzk45 => k_is)
      refine' And.intro (Eng.di_mk ?zza46 ?zzl46 ?zzc46 ?zzk46) ?zzr46
      (case zza46 => k_is); (case zzl46 => k_is); (case zzc46 => k_is); (case zzk46 => k_is)
      refine' And.intro (Eng.di_mk ?zza47 ?zzl47 ?zzc47 ?zzk47) ?zzr47
      (case zza47 => k_is); (case zzl47 => k_is); (case zzc47 => k_is); (case zzk47 => k_is)
      refine' And.intro (Eng.di_mk ?zza48 ?zzl48 ?zzc48 ?zzk48) ?zzr48
      (case zza48 => k_is); (case zzl48 => k_is); (case zzc48 => k_is); (case zzk48 => k_is)
      refine' And.intro (Eng.di_mk ?zza49 ?zzl49 ?zzc49 ?zzk49) ?zzr49
      (case zza49 => k_is); (case zzl49 => k_is); (case zzc49 => k_is); (case zzk49 => k_is)
      refine' And.intro (Eng.di_mk ?zza50 ?zzl50 ?zzc50 ?zzk50) ?zzr50
      (case zza50 => k_is); (case zzl50 => k_is); (case zzc50 => k_is); (case zzk50 => k_is)
      refine' And.intro (Eng.di_mk ?zza51 ?zzl51 ?zzc51 ?zzk51) ?zzr51
      (case zza51 => k_is); (case zzl51 => k_is); (case zzc51 => k_is); (case zzk51 => k_is)
      exact trivial
    case nI =>
      refine' And.intro ?zzn0 ?zzm0
      (case zzn0 => k_is)
      refine' And.intro ?zzn1 ?zzm1
      (case zzn1 => k_is)
      refine' And.intro ?zzn2 ?zzm2
      (case zzn2 => k_is)
      refine' And.intro ?zzn3 ?zzm3
      (case zzn3 => k_is)
      refine' And.intro ?zzn4 ?zzm4
      (case zzn4 => k_is)
      refine' And.intro ?zzn5 ?zzm5
      (case zzn5 => k_is)
      refine' And.intro ?zzn6 ?zzm6
      (case zzn6 => k_is)
      refine' And.intro ?zzn7 ?zzm7
      (case zzn7 => k_is)
      refine' And.intro ?zzn8 ?zzm8
      (case zzn8 => k_is)
      refine' And.intro ?zzn9 ?zzm9
      (case zzn9 => k_is)
      refine' And.intro ?zzn10 ?zzm10
      (case zzn10 => k_is)
      refine' And.intro ?zzn11 ?zzm11
      (case zzn11 => k_is)
      refine' And.intro ?zzn12 ?zzm12
      (case zzn12 => k_is)
      refine' And.intro ?zzn13 ?zzm13
      (case zzn13 => k_is)
      refine' And.intro ?zzn14 ?zzm14
      (case zzn14 => k_is)
      refine' And.intro ?zzn15 ?zzm15
      (case zzn15 => k_is)
      refine' And.intro ?zzn16 ?zzm16
      (case zzn16 => k_is)
      refine' And.intro ?zzn17 ?zzm17
      (case zzn17 => k_is)
      refine' And.intro ?zzn18 ?zzm18
      (case zzn18 => k_is)
      exact trivial
    case gI =>
      refine' And.intro (Eng.gs_mk (by decide) ?zzg0) ?zzq0
      (case zzg0 => k_is)
      refine' And.intro (Eng.gs_mk (by decide) ?zzg1) ?zzq1
      (case zzg1 => k_is)
      refine' And.intro (Eng.gi_mk ?zzg2) ?zzq2
      (case zzg2 => k_is)
      refine' And.intro (Eng.gi_mk ?zzg3) ?zzq3
      (case zzg3 => k_is)
      refine' And.intro (Eng.gi_mk ?zzg4) ?zzq4
      (case zzg4 => k_is)
      exact trivial
    case dD =>
      exact trivial
    case xT =>
      refine' Eng.xt_mk [_] KX Gn ?yown ?ymat ?yisx
      case yown =>
        refine' And.intro (Exists.intro _ (Eng.own_mk KX Gn ?yaC0 ?yaS0 ?ynP0 ?yxL0 ?yhbm0 ?ysa0 ?yga0 ?ygg0 ?ynb0 ?ya10 ?yt10 ?ykC0 ?yeC0 ?yvC0 ?ytC0 ?yhC0 ?ysC0 ?ysu0 ?ytp0 ?ynf0 ?yl10 ?yc10 ?yl20 ?yl30 ?yl40 ?yl50 ?yl60)) ?yr0
        (case yaC0 => k_is)
        (case yaS0 => k_is)
        (case ynP0 => first | rfl | decide +kernel)
        (case yxL0 => k_is)
        (case yhbm0 => first | rfl | decide +kernel)
        (case ysa0 => k_is)
        (case yga0 => k_is)
        (case ygg0 => k_is)
        (case ynb0 => k_is)
        (case ya10 => k_is)
        (case yt10 => k_is)
        (case ykC0 => k_is)
        (case yeC0 => k_is)
        (case yvC0 => k_is)
        (case ytC0 => k_is)
        (case yhC0 => k_is)
        (case ysC0 => first | k_is | rfl)
        (case ysu0 => first | ks_is | k_is)
        (case ytp0 => k_is)
        (case ynf0 => decide)
        (case yl10 => k_is)
        (case yc10 => k_is)
        (case yl20 => k_is)
        (case yl30 => first | rfl | k_is)
        (case yl40 => first | rfl | decide +kernel)
        (case yl50 => k_is)
        (case yl60 => first | rfl | decide +kernel)
        exact trivial
      case ymat =>
        refine' And.intro (And.intro ?ys0_0 trivial) ?yt0
        (case ys0_0 => first | k_is | rfl)
        exact trivial
      case yisx =>
        refine' And.intro (Eng.isx_mk (by rfl) ?yi0 ?yj0 ?yk0 ?yl0 ?ym0 ?yn0) ?yo0
        (case yi0 => k_is)
        (case yj0 => first | kit_is | k_is)
        (case yk0 => k_is)
        (case yl0 => k_is)
        (case ym0 => k_is)
        (case yn0 => first | k_is | rfl)
        refine' And.intro (Eng.isx_mk (by rfl) ?yi1 ?yj1 ?yk1 ?yl1 ?ym1 ?yn1) ?yo1
        (case yi1 => k_is)
        (case yj1 => first | kit_is | k_is)
        (case yk1 => k_is)
        (case yl1 => k_is)
        (case ym1 => k_is)
        (case yn1 => first | k_is | rfl)
        exact trivial

