import PyProof.Rows.All
import Wide.All
import OpenK.AllK
import Wide.FinOn
import HandS.ForMost
import HandS.Deep
import HandS.DictTup
import KE.KDictKeyed
import HandS.Exc
import HandS.Wide
import HandS.TupAny
import HandS.TupMul
import HandS.IsInst
import HandS.Style
import HandS.Zip
import HandS.ExcOwn
import HandS.TryOnly
import HandS.Lambda
import HandS.TryMany
import HandS.WideMore
import HandS.Sort
import HandS.HeadHook3
import KE.SortData
import KE.DataAny
import KE.KTupSum
import KE.KExcSuper
import KE.KSuper
import HandS.ExcField
import KE.KExcIs
import KE.KIsAll
import HandS.ExcIs
import KE.GoesMore
import HandS.SetFor
import HandS.Strs
import HandS.TupSets
import HandS.SetBool
import HandS.Conv
import KE.KDictSum
import KE.KDictCopyH
import KE.KDictDisplayH
import KE.KDictList
import KE.KRevSl
import PyProof.P3In
import KE.GoesEnum
import HandS.Ends
import HandS.EndTab
import PyProof.Rows.RegFStrParts
import PySem.Challenge.RW_ownback_k07_whole_presses_and_what_stand
set_option Elab.async false
set_option linter.all false
set_option maxRecDepth 100000
/-! Dicts whose keys are tuples of numbers, None and such tuples; their values are data. -/
namespace L2
open PySem PySem.Spec PyProof.Rows
mutual
/-- the key that a piece of data is -/
def nk : PyData → Option NestedKey
  | .none => some .none
  | .int i => some (.num i)
  | .tuple ds => (nkAll ds).map .tup
  | _ => none
def nkAll : List PyData → Option (List NestedKey)
  | [] => some []
  | d :: ds => (nk d).bind fun k => (nkAll ds).map (k :: ·)
end
/-- .. that a dict of ours takes -/
def keyOfD : PyData → Option NestedKey
  | .tuple ds => (nkAll ds).bind fun ks => if NestedKey.depthAll ks + 1 ≤ 8 then some (.tup ks) else none
  | _ => none
mutual
def noTx : NestedKey → Bool
  | .text _ => false
  | .tup ks => noTxAll ks
  | _ => true
def noTxAll : List NestedKey → Bool
  | [] => true
  | k :: ks => noTx k && noTxAll ks
end
mutual
/-- the hash of a key without texts -/
def hash0 : NestedKey → Int
  | .none => reduceHash 0xFCA86420
  | .num i => hashInt i
  | .text x => 0
  | .tup ks => reduceHash (Builtin.Tuple.tupleHashOf (hashes0 ks))
def hashes0 : List NestedKey → List Int
  | [] => []
  | k :: ks => hash0 k :: hashes0 ks
end
mutual
theorem hash0_eq (w : World) : ∀ k, noTx k = true → NestedKey.hash w k = hash0 k
  | .none, _ => by simp only [NestedKey.hash, hash0]
  | .num i, _ => by simp only [NestedKey.hash, hash0]
  | .text x, h => by simp [noTx] at h
  | .tup ks, h => by
    simp only [noTx] at h
    simp only [NestedKey.hash, hash0, hashes0_eq w ks h]
theorem hashes0_eq (w : World) : ∀ ks, noTxAll ks = true → NestedKey.hashes w ks = hashes0 ks
  | [], _ => by simp only [NestedKey.hashes, hashes0]
  | k :: ks, h => by
    simp only [noTxAll, Bool.and_eq_true] at h
    simp only [NestedKey.hashes, hashes0, hash0_eq w k h.1, hashes0_eq w ks h.2]
end
mutual
theorem nk_tx : ∀ (d : PyData) (k : NestedKey), nk d = some k → noTx k = true ∧ k.data = d
  | .none, k, h => by simp only [nk, Option.some.injEq] at h; subst h; exact ⟨rfl, by simp only [NestedKey.data]⟩
  | .int i, k, h => by simp only [nk, Option.some.injEq] at h; subst h; exact ⟨rfl, by simp only [NestedKey.data]⟩
  | .tuple ds, k, h => by
    simp only [nk, Option.map_eq_some_iff] at h
    obtain ⟨ks, h, rfl⟩ := h
    obtain ⟨h1, h2⟩ := nkAll_tx ds ks h
    exact ⟨by simp only [noTx, h1], by simp only [NestedKey.data, h2]⟩
  | .bool b, k, h => by simp [nk] at h
  | .str b, k, h => by simp [nk] at h
  | .list b, k, h => by simp [nk] at h
  | .dict b, k, h => by simp [nk] at h
theorem nkAll_tx : ∀ (ds : List PyData) (ks : List NestedKey), nkAll ds = some ks → noTxAll ks = true ∧ NestedKey.datas ks = ds
  | [], ks, h => by simp only [nkAll, Option.some.injEq] at h; subst h; exact ⟨rfl, by simp only [NestedKey.datas]⟩
  | d :: ds, ks, h => by
    simp only [nkAll, Option.bind_eq_some_iff, Option.map_eq_some_iff] at h
    obtain ⟨k, h1, ks', h2, rfl⟩ := h
    obtain ⟨a1, a2⟩ := nk_tx d k h1
    obtain ⟨b1, b2⟩ := nkAll_tx ds ks' h2
    exact ⟨by simp only [noTxAll, a1, b1, Bool.and_self], by simp only [NestedKey.datas, a2, b2]⟩
end
theorem keyOfD_some {d : PyData} {k : NestedKey} (h : keyOfD d = some k) : nk d = some k ∧ k.depth ≤ 8 ∧ noTx k = true ∧ k.data = d ∧ ∃ ks, k = .tup ks := by
  cases d with
  | tuple ds =>
    simp only [keyOfD, Option.bind_eq_some_iff] at h
    obtain ⟨ks, h1, h2⟩ := h
    split at h2
    · rename_i hd
      cases h2
      have hn : nk (.tuple ds) = some (.tup ks) := by simp only [nk, h1, Option.map_some]
      exact ⟨hn, by simp only [NestedKey.depth]; exact hd, (nk_tx _ _ hn).1, (nk_tx _ _ hn).2, ks, rfl⟩
    · cases h2
  | _ => simp [keyOfD] at h
/-- what stands at a key; what stands behind a store -/
def valN (kvs : List (NestedKey × PyData)) (k : NestedKey) : Option PyData := (kvs.find? fun kv => decide (kv.1 = k)).map (·.2)
def putN (kvs : List (NestedKey × PyData)) (k : NestedKey) (d : PyData) : List (NestedKey × PyData) :=
  if (valN kvs k).isSome then kvs.map (fun kv => if kv.1 = k then (kv.1, d) else kv) else kvs ++ [(k, d)]
/-- the dict's object, by its entries -/
def DicPhi (a : Addr) (es : List (NestedKey × Addr × Value)) : Heap → Prop := fun h => ∃ o ens ep, h.get? a = some o ∧ o.ExactDict ∧ o.data = .dict ens ep ∧ ens.toList = es.map fun x => ⟨hash0 x.1, .ref x.2.1, x.2.2⟩
/-- an entry: its key, its value -/
def DicE (K : PySem.W.Frag) (H : Hp) (q : NestedKey × Addr × Value) (p : NestedKey × PyData) : Prop :=
  q.1 = p.1 ∧ nk q.1.data = some q.1 ∧ noTx q.1 = true ∧ q.1.depth ≤ 8 ∧ Dp K H (.ref q.2.1) q.1.data ∧ ∃ v, RelV v q.2.2 ∧ Dp K H v p.2
abbrev DicAt (K : PySem.W.Frag) (H : Hp) (es : List (NestedKey × Addr × Value)) (kvs : List (NestedKey × PyData)) : Prop := Paired (DicE K H) es kvs
theorem DicAt.keys {K : PySem.W.Frag} {H : Hp} {es : List (NestedKey × Addr × Value)} {kvs : List (NestedKey × PyData)} (h : DicAt K H es kvs) : es.map (·.1) = kvs.map (·.1) := by
  induction h with
  | nil => rfl
  | cons h t ih => rw [List.map_cons, List.map_cons, ih, h.1]
theorem DicAt.len {K : PySem.W.Frag} {H : Hp} {es : List (NestedKey × Addr × Value)} {kvs : List (NestedKey × PyData)} (h : DicAt K H es kvs) : es.length = kvs.length := by
  have := congrArg List.length h.keys
  rwa [List.length_map, List.length_map] at this
theorem DicAt.ent {K : PySem.W.Frag} {H : Hp} {es : List (NestedKey × Addr × Value)} {kvs : List (NestedKey × PyData)} (h : DicAt K H es kvs) (w : World) (P : Program) : (es.map fun x => (⟨hash0 x.1, .ref x.2.1, x.2.2⟩ : DictEntry)) = es.map (entryOfKey (nestedKind P w)) := by
  induction h with
  | nil => rfl
  | cons h t ih =>
    rw [List.map_cons, List.map_cons, ih]
    congr 1
    show _ = (⟨NestedKey.hash w _, _, _⟩ : DictEntry)
    rw [hash0_eq w _ h.2.2.1]
/-- what a look-up gives -/
theorem DicAt.val {K : PySem.W.Frag} {H : Hp} {es : List (NestedKey × Addr × Value)} {kvs : List (NestedKey × PyData)} (h : DicAt K H es kvs) (k : NestedKey) :
    match atKey es k, valN kvs k with
    | some q, some d => ∃ v, RelV v q.2 ∧ Dp K H v d
    | none, none => True
    | _, _ => False := by
  induction h with
  | nil => exact True.intro
  | @cons q p qs ps h t ih =>
    obtain ⟨h1, _, _, _, _, h2⟩ := h
    by_cases e : q.1 = k
    · have e' : p.1 = k := h1.symm.trans e
      have a : atKey (q :: qs) k = some q.2 := by simp [atKey, List.find?_cons, e]
      have b : valN (p :: ps) k = some p.2 := by simp [valN, List.find?_cons, e']
      rw [a, b]; exact h2
    · have e' : ¬ p.1 = k := fun z => e (h1.trans z)
      have a : atKey (q :: qs) k = atKey qs k := by simp [atKey, List.find?_cons, e]
      have b : valN (p :: ps) k = valN ps k := by simp [valN, List.find?_cons, e']
      rw [a, b]; exact ih
theorem DicAt.isSome {K : PySem.W.Frag} {H : Hp} {es : List (NestedKey × Addr × Value)} {kvs : List (NestedKey × PyData)} (h : DicAt K H es kvs) (k : NestedKey) : (atKey es k).isSome = (valN kvs k).isSome := by
  have := h.val k
  cases h1 : atKey es k <;> cases h2 : valN kvs k <;> rw [h1, h2] at this <;> first | rfl | exact this.elim
theorem DicAt.some {K : PySem.W.Frag} {H : Hp} {es : List (NestedKey × Addr × Value)} {kvs : List (NestedKey × PyData)} (h : DicAt K H es kvs) {k : NestedKey} {d : PyData} (e : valN kvs k = some d) : ∃ q, atKey es k = some q ∧ ∃ v, RelV v q.2 ∧ Dp K H v d := by
  have := h.val k
  rw [e] at this
  cases h1 : atKey es k with
  | none => rw [h1] at this; exact this.elim
  | some q => rw [h1] at this; exact ⟨q, rfl, this⟩
theorem DicAt.put {K : PySem.W.Frag} {H : Hp} {es : List (NestedKey × Addr × Value)} {kvs : List (NestedKey × PyData)} (h : DicAt K H es kvs) {k : NestedKey} {b : Addr} {v : V} {u : Value} {d kd : PyData} (hk : keyOfD kd = Option.some k) (hb : Dp K H (.ref b) kd) (r : RelV v u) (hd : Dp K H v d) :
    DicAt K H (storedH es k b u) (putN kvs k d) := by
  obtain ⟨k1, k2, k3, k4, _⟩ := keyOfD_some hk
  have e := h.isSome k
  unfold putN storedH
  rw [← e]
  by_cases q : (atKey es k).isSome = true
  · rw [if_pos q, if_pos q]
    clear e q
    induction h with
    | nil => exact .nil
    | @cons q p qs ps h t ih =>
      rw [List.map_cons, List.map_cons]
      refine .cons ?_ ih
      obtain ⟨h1, h2⟩ := h
      unfold putAt
      by_cases z : q.1 = k
      · rw [if_pos z, if_pos (h1.symm.trans z)]
        exact ⟨h1, h2.1, h2.2.1, h2.2.2.1, h2.2.2.2.1, v, r, hd⟩
      · rw [if_neg z, if_neg (fun y => z (h1.trans y))]; exact ⟨h1, h2⟩
  · rw [if_neg q, if_neg q]
    exact Paired.snoc h ⟨rfl, by rw [k4]; exact k1, k3, k2, by rw [k4]; exact hb, v, r, hd⟩
/-! dicts by whole numbers -/
def valI (kvs : List (Int × PyData)) (i : Int) : Option PyData := (kvs.find? fun kv => decide (kv.1 = i)).map (·.2)
def KdAt (K : PySem.W.Frag) (H : Hp) : List (Key × V) → List (Int × PyData) → Prop
  | [], [] => True
  | p :: ws, q :: kvs => p.1 = .inl q.1 ∧ Dp K H p.2 q.2 ∧ KdAt K H ws kvs
  | _, _ => False
theorem KdAt.val {K : PySem.W.Frag} {H : Hp} : ∀ {ws : List (Key × V)} {kvs : List (Int × PyData)}, KdAt K H ws kvs → ∀ (i : Int) (d : PyData), valI kvs i = some d → ∃ v, valV ws (.inl i) = some v ∧ Dp K H v d
  | [], [], _, i, d, e => by simp [valI] at e
  | p :: ws, q :: kvs, h, i, d, e => by
    obtain ⟨h1, h2, h3⟩ := h
    by_cases hi : q.1 = i
    · have e' : valI (q :: kvs) i = some q.2 := by simp [valI, List.find?_cons, hi]
      rw [e'] at e
      cases e
      exact ⟨p.2, valV_pos (by rw [h1, hi]), h2⟩
    · have e' : valI (q :: kvs) i = valI kvs i := by simp [valI, List.find?_cons, hi]
      rw [e'] at e
      obtain ⟨v, e1, e2⟩ := KdAt.val h3 i d e
      refine ⟨v, ?_, e2⟩
      rw [valV_neg (fun z => hi (by rw [h1] at z; injection z))]
      exact e1
  | [], _ :: _, h, _, _, _ => h.elim
  | _ :: _, [], h, _, _, _ => h.elim
theorem KdAt.isSome {K : PySem.W.Frag} {H : Hp} : ∀ {ws : List (Key × V)} {kvs : List (Int × PyData)}, KdAt K H ws kvs → ∀ (i : Int), (valV ws (.inl i)).isSome = (valI kvs i).isSome
  | [], [], _, i => rfl
  | p :: ws, q :: kvs, h, i => by
    obtain ⟨h1, h2, h3⟩ := h
    by_cases hi : q.1 = i
    · have e' : valI (q :: kvs) i = some q.2 := by simp [valI, List.find?_cons, hi]
      rw [e', valV_pos (by rw [h1, hi])]; rfl
    · have e' : valI (q :: kvs) i = valI kvs i := by simp [valI, List.find?_cons, hi]
      rw [e', valV_neg (fun z => hi (by rw [h1] at z; injection z))]
      exact KdAt.isSome h3 i
  | [], _ :: _, h, _ => h.elim
  | _ :: _, [], h, _ => h.elim
end L2

set_option Elab.async false
set_option linter.all false
set_option maxRecDepth 100000
/-! The evaluator: a small language of our own (E, S), what it means over plain data. -/
namespace Eng
open PySem
noncomputable section

abbrev D := PyData
/-- a value: data, or an object that may change -/
inductive U where
  | dat (d : PyData) | ref (i : Nat)
/-- an object that may change -/
inductive MObj where
  | lst (xs : List PyData)
  | dct (kvs : List (NestedKey × PyData))
  | tab (x : Str)
  | kd (kvs : List (Int × PyData))
  | refs (ks : List Nat)
abbrev Mem := List MObj
/-- a name's slot: nothing, a value, a list of its own -/
inductive Sl where
  | no | v (u : U) | own (xs : List PyData)
abbrev Env := List Sl

inductive R (α : Type) where
  | ok (a : α) (m : Mem) | exc (c : Nat) (x : U) (m : Mem) | bad
def R.bind {α β : Type} (r : R α) (k : α → Mem → R β) : R β :=
  match r with
  | .ok a m => k a m
  | .exc c x m => .exc c x m
  | .bad => .bad
@[simp] theorem R.bind_ok {α β : Type} (a : α) (m : Mem) (k : α → Mem → R β) : (R.ok a m).bind k = k a m := rfl
@[simp] theorem R.bind_exc {α β : Type} (c : Nat) (x : U) (m : Mem) (k : α → Mem → R β) : (R.exc c x m).bind k = .exc c x m := rfl
@[simp] theorem R.bind_bad {α β : Type} (k : α → Mem → R β) : (R.bad : R α).bind k = .bad := rfl
theorem R.bind_bind {α β γ : Type} (r : R α) (k : α → Mem → R β) (k' : β → Mem → R γ) : (r.bind k).bind k' = r.bind fun a m => (k a m).bind k' := by cases r <;> rfl
/-- where nothing may be raised -/
def R.quiet {α : Type} (r : R α) : R α := match r with
  | .ok a m => .ok a m
  | _ => .bad
@[simp] theorem R.quiet_ok {α : Type} (a : α) (m : Mem) : (R.ok a m).quiet = .ok a m := rfl
@[simp] theorem R.quiet_bad {α : Type} : (R.bad : R α).quiet = .bad := rfl

def asB : U → Mem → R Bool := fun u m => match u with
  | .dat (.bool b) => .ok b m
  | _ => .bad
@[simp] theorem asB_bool (b : Bool) (m : Mem) : asB (.dat (.bool b)) m = .ok b m := rfl
inductive BinO where
  | add | sub | mul | mod | fdiv | pow | shl | bor | band
  deriving DecidableEq
inductive CmpO where
  | eq | ne | lt | le | gt | ge | is | isnot | in_ | notin
  deriving DecidableEq
inductive B1 where
  | len | tuple | list | abs | int | all | any | sum | max | min | repr | sorted
  deriving DecidableEq
inductive B2 where
  | max | min
  deriving DecidableEq
inductive GdO where
  | in_ | notin | item
  deriving DecidableEq
inductive ClsT where
  | int | bool | str | list | tuple
  deriving DecidableEq

inductive Tg where
  | nm (i : Nat) | tp (ts : List Tg)

mutual
inductive HE where
  | cst (d : PyData) | fld | var (j : Nat) | rep (e : HE) | isx (D : Str) (b : Bool) | tup (es : HEs) | lst (es : HEs) | cmp (o : CmpO) (a b : HE) | and (a b : HE) | nt (a : HE)
inductive HEs where
  | nil | cons (e : HE) (es : HEs)
end
inductive HB where
  | ne (a b : HE) | eq (a b : HE) | not (b : HB) | or (a b : HB) | isx (D : Str) (b : Bool)
inductive HS where
  | ife (b : HB) (e : HE) | ret (e : HE)
/-- what a def makes of what it got: return f(); f(), then return aft; f(); return d; return (z, f()); return [z, f()] -/
inductive HM where
  | ret | exp | exr (d : PyData) | tup (z : Str) | lst (z : Str)
structure HD where
  md : HM
  aft : PyData
  hs : List (Nat × List HS)
mutual
inductive E where
  | cst (d : PyData)
  | glb (x : Str) (d : PyData)
  | var (i : Nat)
  | bv (i : Nat)
  | tup (es : Es)
  | lst (es : Es)
  | newl (es : Es)
  | newD
  | newD1 (k v : E)
  | keysl (a : E)
  | hear (xs : List Str) (x y : Str) (hd : HD) (e : E)
  | idx (a b : E)
  | dlen (a : E)
  | dictP (a : E)
  | iteN (t a b : E)
  | ssc (elt : E) (tg : Tg) (it : It) (cond : E) (own : List (Str × Nat))
  | newRs (tg : Tg) (it : It) (own : List (Str × Nat))
  | popM (i : Nat)
  | lrng (a : E)
  | sortk (a : E)
  | sset (a : E)
  | dget (i : Nat) (es : Es)
  | lmul (es : Es) (k : E)
  | ladd (a b : E)
  | din (n : Bool) (a d : E)
  | bin (o : BinO) (a b : E)
  | neg (a : E)
  | not (a : E)
  | and (a b : E)
  | or (a b : E)
  | cmp (o : CmpO) (a b : E)
  | chain (o o' : CmpO) (a b c : E)
  | ite (t a b : E)
  | call (f : Nat) (es : Es)
  | callk (f : Nat) (es : Es) (ks : Es) (perm : List Nat)
  | b1 (f : B1) (a : E)
  | b2 (f : B2) (a b : E)
  | isi (a : E) (c : ClsT)
  | isi2 (a : E) (c c' : ClsT)
  | ix (a i : E)
  | sl (a lo hi : E)
  | rev (a : E)
  | gd (o : GdO) (x : Str) (kvs : List (Str × Int)) (nks : List Str) (a : E)
  | comp (elt : E) (tg : Tg) (it : It) (cond : E) (own : List (Str × Nat))
  | comp2 (elt : E) (tg : Tg) (it : It) (tg' : Tg) (it' : It) (cond : E) (own : List (Str × Nat))
  | no
inductive Es where
  | nil | cons (e : E) (es : Es)
inductive It where
  | seq (e : E) | rng1 (a : E) | rng2 (a b : E) | enum (e : E) | zip2 (a b : E)
end

/-! ### sizes -/
mutual
def szOk : PyData → Bool
  | .none | .bool _ | .int _ => true
  | .str x => decide (x.length ≤ sizeLine)
  | .list xs | .tuple xs => decide (xs.length ≤ sizeLine) && szAll xs
  | .dict _ => false
def szAll : List PyData → Bool
  | [] => true
  | x :: xs => szOk x && szAll xs
end

/-! ### built-ins by values -/
def asInts : List PyData → Option (List Int)
  | [] => some []
  | .int i :: r => (asInts r).map (i :: ·)
  | _ :: _ => none
def asBools : List PyData → Option (List Bool)
  | [] => some []
  | .bool i :: r => (asBools r).map (i :: ·)
  | _ :: _ => none
def maxL : List Int → Int
  | [] => 0
  | [x] => x
  | x :: r => max x (maxL r)
def minL : List Int → Int
  | [] => 0
  | [x] => x
  | x :: r => min x (minL r)

/-- data that sorted can order -/
def sortOk (xs : List PyData) : Prop := (xs.length < 2 ∧ ∀ d ∈ xs, ∃ r, d = .tuple r) ∨ (PySem.W.AllAlike xs ∧ PySem.W.Sortable xs ∧ ∀ d ∈ xs, d.depth ≤ 60)
def b1Val : B1 → PyData → Option PyData
  | .len, .list xs => some (.int xs.length)
  | .len, .tuple xs => some (.int xs.length)
  | .len, .str x => some (.int x.length)
  | .tuple, .list xs => some (.tuple xs)
  | .tuple, .tuple xs => some (.tuple xs)
  | .list, .list xs => some (.list xs)
  | .list, .tuple xs => some (.list xs)
  | .abs, .int i => some (.int (if i < 0 then -i else i))
  | .int, .int i => some (.int i)
  | .int, .bool b => some (.int (if b then 1 else 0))
  | .all, .list xs => (asBools xs).map fun bs => .bool (bs.all id)
  | .any, .list xs => match asBools xs with
    | some bs => some (.bool (bs.any id))
    | none => (asInts xs).map fun ns => .bool (ns.any fun i => i != 0)
  | .any, .tuple xs => (asInts xs).map fun ns => .bool (ns.any fun i => i != 0)
  | .sum, .list xs => (asInts xs).map fun ns => .int ns.sum
  | .sum, .tuple xs => (asInts xs).map fun ns => .int ns.sum
  | .sorted, .list xs => @ite _ (sortOk xs) (Classical.propDecidable _) (some (.list (xs.mergeSort (PySem.W.dataLe false id)))) none
  | .max, .list xs => (asInts xs).bind fun ns => if ns = [] then none else some (.int (maxL ns))
  | .min, .list xs => (asInts xs).bind fun ns => if ns = [] then none else some (.int (minL ns))
  | .repr, d => if d.showable && decide (d.shown.length ≤ sizeLine) && decide (d.depth ≤ 60) then some (.str d.shown) else none
  | _, _ => none
/-- sorted(set(x)) -/
def sortD (ns : List Int) : List Int := ns.eraseDups.mergeSort fun a b => decide (a ≤ b)
def asTupI : List PyData → Option (List (List Int))
  | [] => some []
  | .tuple ys :: r => (asInts ys).bind fun k => (asTupI r).map (k :: ·)
  | _ => none
def sortT (ks : List (List Int)) : List (List Int) := ks.eraseDups.mergeSort fun a b => decide (TS.code 64 a ≤ TS.code 64 b)
def flatT (ks : List (List Int)) : Bool := ks.all fun k => k.length == (ks.headD []).length && k.all fun i => decide (0 ≤ i ∧ i < 64)
def ssetV : PyData → Option PyData
  | .list xs => match asInts xs with
    | some ns => if ns.length ≤ 1000 ∧ (sortD ns).length < 64 then some (.list ((sortD ns).map .int)) else none
    | none => (asTupI xs).bind fun ks => if flatT ks = true ∧ ks.eraseDups.length < 63 then some (.list ((sortT ks).map fun k => .tuple (k.map .int))) else none
  | _ => none
def b2Val : B2 → PyData → PyData → Option PyData
  | .max, .int i, .int j => some (.int (if j > i then j else i))
  | .min, .int i, .int j => some (.int (if j < i then j else i))
  | _, _, _ => none
instance (i j : Int) : Decidable (L2.CMul i j) := by unfold L2.CMul; infer_instance
instance (i j : Int) : Decidable (L2.CPow i j) := by unfold L2.CPow; infer_instance
instance (i j : Int) : Decidable (L2.CDivW i j) := by unfold L2.CDivW; infer_instance
def binVal : BinO → PyData → PyData → Option PyData
  | .add, .int i, .int j => some (.int (i + j))
  | .add, .str x, .str y => @ite _ (x.length + y.length ≤ sizeLine) (Classical.propDecidable _) (some (.str (x ++ y))) none
  | .add, .list xs, .list ys => @ite _ (xs.length + ys.length ≤ sizeLine) (Classical.propDecidable _) (some (.list (xs ++ ys))) none
  | .add, .tuple xs, .tuple ys => @ite _ (xs.length + ys.length ≤ sizeLine) (Classical.propDecidable _) (some (.tuple (xs ++ ys))) none
  | .sub, .int i, .int j => some (.int (i - j))
  | .mul, .int i, .int j => @ite _ (L2.CMul i j) (Classical.propDecidable _) (some (.int (i * j))) none
  | .mul, .tuple xs, .int k => @ite _ (xs ≠ [] ∧ xs.length ≤ 1000 ∧ 0 ≤ k ∧ k ≤ 1000) (Classical.propDecidable _) (some (.tuple (List.replicate k.toNat xs).flatten)) none
  | .mod, .int i, .int j => @ite _ (0 < j) (Classical.propDecidable _) (some (.int (i % j))) none
  | .fdiv, .int i, .int j => @ite _ (L2.CDivW i j) (Classical.propDecidable _) (some (.int (i / j))) none
  | .pow, .int i, .int j => @ite _ (L2.CPow i j) (Classical.propDecidable _) (some (.int (i ^ j.toNat))) none
  | .shl, .int i, .int j => @ite _ (L2.CPow i j) (Classical.propDecidable _) (some (.int (i * 2 ^ j.toNat))) none
  | .bor, .int i, .int j => some (.int (Builtin.bitOr i j))
  | .band, .int i, .int j => some (.int (Builtin.bitAnd i j))
  | _, _, _ => none
def lmulV : PyData → PyData → Option PyData
  | .list xs, .int k => @ite _ (-(2 ^ 63) ≤ k ∧ k < 2 ^ 63 ∧ xs.length * k.toNat ≤ sizeLine) (Classical.propDecidable _) (some (.list (List.replicate k.toNat xs).flatten)) none
  | _, _ => none
def laddV : PyData → PyData → Option PyData
  | .list xs, .list ys => @ite _ (xs.length + ys.length ≤ sizeLine) (Classical.propDecidable _) (some (.list (xs ++ ys))) none
  | _, _ => none
def isNoneD : PyData → Bool
  | .none => true
  | _ => false
def cmpVal : CmpO → PyData → PyData → Option PyData
  | .eq, .int i, .int j => some (.bool (decide (i = j)))
  | .eq, .str x, .str y => some (.bool (decide (x = y)))
  | .ne, .int i, .int j => some (.bool (!decide (i = j)))
  | .ne, .str x, .str y => some (.bool (!decide (x = y)))
  | .eq, d, e => if SeqAt.shaped d = true ∧ SeqAt.shaped e = true then some (.bool (PyData.eqv d e)) else none
  | .ne, d, e => if SeqAt.shaped d = true ∧ SeqAt.shaped e = true then some (.bool (!PyData.eqv d e)) else none
  | .in_, d, .list ds => if d.canLay0 = true ∧ PyData.canLayAll0 ds = true ∧ d.depth ≤ 60 then some (.bool (ds.any fun z => PyData.eqv z d)) else none
  | .in_, d, .tuple ds => if d.canLay0 = true ∧ PyData.canLayAll0 ds = true ∧ d.depth ≤ 60 then some (.bool (ds.any fun z => PyData.eqv z d)) else none
  | .notin, d, .list ds => if d.canLay0 = true ∧ PyData.canLayAll0 ds = true ∧ d.depth ≤ 60 then some (.bool (!ds.any fun z => PyData.eqv z d)) else none
  | .notin, d, .tuple ds => if d.canLay0 = true ∧ PyData.canLayAll0 ds = true ∧ d.depth ≤ 60 then some (.bool (!ds.any fun z => PyData.eqv z d)) else none
  | .lt, .int i, .int j => some (.bool (decide (i < j)))
  | .le, .int i, .int j => some (.bool (decide (i ≤ j)))
  | .gt, .int i, .int j => some (.bool (decide (j < i)))
  | .ge, .int i, .int j => some (.bool (decide (j ≤ i)))
  | .is, d, .none => some (.bool (isNoneD d))
  | .isnot, d, .none => some (.bool (!isNoneD d))
  | .is, .bool a, .bool b => some (.bool (decide (a = b)))
  | .isnot, .bool a, .bool b => some (.bool (!decide (a = b)))
  | _, _, _ => none
def ixVal : PyData → PyData → Option PyData
  | .list xs, .int i => L2.atI xs i
  | .tuple xs, .int i => L2.atI xs i
  | _, _ => none
def cutD (xs : List PyData) (lo hi : Option Int) : List PyData := (xs.drop (HT.sIx xs.length 0 lo)).take (HT.sIx xs.length xs.length hi - HT.sIx xs.length 0 lo)
def slVal (d : PyData) (lo hi : Option Int) : Option PyData := match d with
  | .list xs => some (.list (cutD xs lo hi))
  | .tuple xs => some (.tuple (cutD xs lo hi))
  | _ => none
def revD : PyData → Option PyData
  | .list xs => some (.list xs.reverse)
  | .tuple xs => some (.tuple xs.reverse)
  | _ => none
/-- a dict of the module's own, whose keys are told: kvs are there, nks are not -/
def gdVal (o : GdO) (kvs : List (Str × Int)) (nks : List Str) : PyData → Option PyData
  | .str z => match o, kvs.lookup z with
    | .in_, some _ => some (.bool true)
    | .in_, none => if z ∈ nks then some (.bool false) else none
    | .notin, some _ => some (.bool false)
    | .notin, none => if z ∈ nks then some (.bool true) else none
    | .item, some i => some (.int i)
    | .item, none => none
  | _ => none
def clsVal : ClsT → PyData → Bool
  | .int, .int _ => true
  | .int, .bool _ => true
  | .bool, .bool _ => true
  | .str, .str _ => true
  | .list, .list _ => true
  | .tuple, .tuple _ => true
  | _, _ => false
def rngD (lo : Int) (n : Nat) : List PyData := (List.range n).map fun (i : Nat) => .int (lo + (i : Int))
def enumD (n : Nat) : List PyData → List PyData
  | [] => []
  | x :: r => .tuple [.int n, x] :: enumD (n + 1) r
def zipD : List PyData → List PyData → List PyData
  | x :: xs, y :: ys => .tuple [x, y] :: zipD xs ys
  | _, _ => []

def R.ofO {α : Type} (o : Option α) (m : Mem) : R α := match o with
  | some a => .ok a m
  | none => .bad
@[simp] theorem R.ofO_some {α : Type} (a : α) (m : Mem) : R.ofO (some a) m = .ok a m := rfl
@[simp] theorem R.ofO_none {α : Type} (m : Mem) : R.ofO (none : Option α) m = .bad := rfl
def R.dat (o : Option PyData) (m : Mem) : R U := match o with
  | some a => .ok (.dat a) m
  | none => .bad
@[simp] theorem R.dat_some (a : PyData) (m : Mem) : R.dat (some a) m = .ok (.dat a) m := rfl
@[simp] theorem R.dat_none (m : Mem) : R.dat none m = .bad := rfl

/-! ### targets -/
mutual
def asgTg : Tg → PyData → Env → Option Env
  | .nm i, d, σ => if i < σ.length then some (σ.set i (.v (.dat d))) else none
  | .tp ts, .tuple ds, σ => asgTgs ts ds σ
  | .tp _, _, _ => none
def asgTgs : List Tg → List PyData → Env → Option Env
  | [], [], σ => some σ
  | t :: ts, d :: ds, σ => (asgTg t d σ).bind fun σ' => asgTgs ts ds σ'
  | _, _, _ => none
end
mutual
def slotsTg : Tg → List Nat
  | .nm i => [i]
  | .tp ts => slotsTgs ts
def slotsTgs : List Tg → List Nat
  | [] => []
  | t :: ts => slotsTg t ++ slotsTgs ts
end
def wipeE (σ : Env) : List Nat → Env
  | [] => σ
  | v :: vs => (wipeE σ vs).set v .no

/-- a call by its number -/
abbrev Calls := Nat → List U → Mem → R U

def datL : List U → Option (List PyData)
  | [] => some []
  | .dat d :: r => (datL r).map (d :: ·)
  | .ref _ :: _ => none
/-- keyword arguments into the parameters' order -/
def permL (us : List U) (perm : List Nat) : Option (List U) := perm.mapM fun i => us[i]?

def condGo (cond : Option (Env → Mem → R U)) (σ : Env) (m : Mem) : R Bool := match cond with
  | none => .ok true m
  | some c => (c σ m).bind asB
def d1 (F : PyData → Option PyData) (x : U) (m : Mem) : R U := match x with
  | .dat d => R.dat (F d) m
  | _ => .bad
def d2 (F : PyData → PyData → Option PyData) (x y : U) (m : Mem) : R U := match x, y with
  | .dat d, .dat e => R.dat (F d e) m
  | _, _ => .bad
@[simp] theorem d1_dat (F : PyData → Option PyData) (d : PyData) (m : Mem) : d1 F (.dat d) m = R.dat (F d) m := rfl
@[simp] theorem d2_dat (F : PyData → PyData → Option PyData) (d e : PyData) (m : Mem) : d2 F (.dat d) (.dat e) m = R.dat (F d e) m := rfl
def asTup (us : List U) (m : Mem) : R U := R.dat ((datL us).map .tuple) m
def asLst (us : List U) (m : Mem) : R U := R.dat ((datL us).map .list) m
def asNew (us : List U) (m : Mem) : R U := match datL us with
  | some ds => .ok (.ref m.length) (m ++ [.lst ds])
  | none => .bad
def negD : PyData → Option PyData
  | .int i => some (.int (-i))
  | _ => none
def ixU (x y : U) (m : Mem) : R U := match x, y with
  | .dat d, .dat e => R.dat (ixVal d e) m
  | .ref k, .dat e => match m[k]? with
    | some (.lst xs) => match e with
      | .int j => R.dat (L2.atI xs j) m
      | _ => .bad
    | some (.dct kvs) => R.dat ((L2.keyOfD e).bind (L2.valN kvs)) m
    | some (.kd kvs) => match e with
      | .int j => R.dat (L2.valI kvs j) m
      | _ => .bad
    | some (.refs ks) => match e with
      | .int j => match L2.atI ks j with
        | some i => .ok (.ref i) m
        | none => .bad
      | _ => .bad
    | _ => .bad
  | _, _ => .bad
/-- x in y, x not in y: a dict of ours -/
def dinU (n : Bool) (x y : U) (m : Mem) : R U := match x, y with
  | .dat e, .ref k => match m[k]? with
    | some (.dct kvs) => R.dat ((L2.keyOfD e).map fun q => .bool (xor n (L2.valN kvs q).isSome)) m
    | some (.kd kvs) => match e with
      | .int j => R.dat (some (.bool (xor n (L2.valI kvs j).isSome))) m
      | _ => .bad
    | _ => .bad
  | _, _ => .bad
@[simp] theorem ixU_dat (d e : PyData) (m : Mem) : ixU (.dat d) (.dat e) m = R.dat (ixVal d e) m := rfl
/-- sorted(x): a dict of ours, its keys -/
def sortKOk (ds : List PyData) : Prop := PySem.W.AllAlike ds ∧ PySem.W.Sortable ds ∧ ∀ d ∈ ds, d.depth ≤ 60
def keysU (x : U) (m : Mem) : R U := match x with
  | .ref k => match m[k]? with
    | some (.dct kvs) => .ok (.dat (.list (kvs.map (·.1.data)))) m
    | _ => .bad
  | _ => .bad
/-- xs.index(d) -/
def lstU (x : U) (m : Mem) : R (List PyData) := match x with
  | .dat (.list ds) => .ok ds m
  | _ => .bad
def idxV (ds : List PyData) (d : PyData) : Option PyData := if SeqAt.shaped (.list ds) && SeqAt.shaped d then (ds.findIdx? fun z => PyData.eqv z d).map (fun j => .int (j : Nat)) else none
/-- a whole number as a test -/
def asNz (x : U) (m : Mem) : R Bool := match x with
  | .dat (.int i) => .ok (i != 0) m
  | _ => .bad
/-- dict(xs), xs a list of pairs (whole number, value), of unlike numbers -/
def asPairs : List PyData → Option (List (Int × PyData))
  | [] => some []
  | .tuple [.int i, d] :: r => (asPairs r).map ((i, d) :: ·)
  | _ => none
def dictPU (x : U) (m : Mem) : R U := match x with
  | .dat (.list ds) => match asPairs ds with
    | some kvs => @ite _ ((kvs.map (·.1)).Nodup ∧ kvs.length ≤ sizeLine) (Classical.propDecidable _) (.ok (.ref m.length) (m ++ [.kd kvs])) .bad
    | none => .bad
  | _ => .bad
/-- [[] for .. in ..]: lists that may change, held by one that stays -/
def rsGo (tg : Tg) (σ : Env) (ds : List PyData) (m : Mem) : R U := @ite _ (∀ d ∈ ds, ∃ σ', asgTg tg d σ = some σ') (Classical.propDecidable _)
  (.ok (.ref (m.length + ds.length)) ((m ++ List.replicate ds.length (.lst [])) ++ [.refs (List.range' m.length ds.length)])) .bad
/-- x.pop(), x a list that may change -/
def popMGo (σ : Env) (i : Nat) (m : Mem) : R U := match σ[i]? with
  | some (.v (.ref k)) => match m[k]? with
    | some (.lst xs) => match xs.getLast? with
      | some d => .ok (.dat d) (m.set k (.lst xs.dropLast))
      | none => .bad
    | _ => .bad
  | _ => .bad
/-- list(range(n)) -/
def lrngU (j : Int) (m : Mem) : R U := @ite _ (-(2 ^ 62) ≤ j ∧ j ≤ 2 ^ 24) (Classical.propDecidable _) (.ok (.dat (.list (rngD 0 j.toNat))) m) .bad
/-- len(x): a dict of ours -/
def dlenU (x : U) (m : Mem) : R U := match x with
  | .ref k => match m[k]? with
    | some (.dct kvs) => .ok (.dat (.int kvs.length)) m
    | _ => .bad
  | _ => .bad
def newD1U (q : Nat) (x y : U) (m : Mem) : R U := match x, y with
  | .dat kd, .dat d => match m[q]? with
    | some (.dct []) => match L2.keyOfD kd with
      | some k => .ok (.ref q) (m.set q (.dct [(k, d)]))
      | none => .bad
    | _ => .bad
  | _, _ => .bad
def sortKU (x : U) (m : Mem) : R U := match x with
  | .ref k => match m[k]? with
    | some (.dct kvs) => @ite _ (sortKOk (kvs.map (·.1.data))) (Classical.propDecidable _) (.ok (.dat (.list ((kvs.map (·.1.data)).mergeSort (PySem.W.dataLe false id)))) m) .bad
    | _ => .bad
  | _ => .bad
/-- x.get(k, y) -/
def dctU (x : U) (m : Mem) : R Nat := match x with
  | .ref k => match m[k]? with
    | some (.dct _) => .ok k m
    | _ => .bad
  | _ => .bad
def dgetU (k : Nat) (us : List U) (m : Mem) : R U := match us with
  | [.dat e, .dat z] => match m[k]? with
    | some (.dct kvs) => R.dat ((L2.keyOfD e).map fun q => (L2.valN kvs q).getD z) m
    | _ => .bad
  | _ => .bad
def boolOf : Option PyData → Mem → R Bool
  | some (.bool b), m => .ok b m
  | _, _ => .bad
def c2 (F : PyData → PyData → Option PyData) (x y : U) (m : Mem) : R Bool := match x, y with
  | .dat d, .dat e => boolOf (F d e) m
  | _, _ => .bad
@[simp] theorem c2_dat (F : PyData → PyData → Option PyData) (d e : PyData) (m : Mem) : c2 F (.dat d) (.dat e) m = boolOf (F d e) m := rfl
@[simp] theorem boolOf_some (b : Bool) (m : Mem) : boolOf (some (.bool b)) m = .ok b m := rfl
def asInt (x : U) (m : Mem) : R Int := match x with
  | .dat (.int i) => .ok i m
  | _ => .bad
@[simp] theorem asInt_int (i : Int) (m : Mem) : asInt (.dat (.int i)) m = .ok i m := rfl
def asD (x : U) (m : Mem) : R PyData := match x with
  | .dat d => .ok d m
  | _ => .bad
@[simp] theorem asD_dat (d : PyData) (m : Mem) : asD (.dat d) m = .ok d m := rfl
def seqU (x : U) (m : Mem) : R (List PyData) := match x with
  | .dat (.list xs) => .ok xs m
  | .dat (.tuple xs) => .ok xs m
  | _ => .bad
@[simp] theorem seqU_list (xs : List PyData) (m : Mem) : seqU (.dat (.list xs)) m = .ok xs m := rfl
@[simp] theorem seqU_tuple (xs : List PyData) (m : Mem) : seqU (.dat (.tuple xs)) m = .ok xs m := rfl
def rng1U (j : Int) (m : Mem) : R (List PyData) := @ite _ (-(2 ^ 62) ≤ j ∧ j < 2 ^ 62) (Classical.propDecidable _) (.ok (rngD 0 j.toNat) m) .bad
def rng2U (i j : Int) (m : Mem) : R (List PyData) := @ite _ (-(2 ^ 62) ≤ i ∧ i < 2 ^ 62 ∧ -(2 ^ 62) ≤ j ∧ j < 2 ^ 62) (Classical.propDecidable _) (.ok (rngD i (j - i).toNat) m) .bad
def enumU (xs : List PyData) (m : Mem) : R (List PyData) := .ok (enumD 0 xs) m
def zipU (x y : U) (m : Mem) : R (List PyData) := match x, y with
  | .dat (.list xs), .dat (.list ys) => .ok (zipD xs ys) m
  | .dat (.tuple xs), .dat (.tuple ys) => .ok (zipD xs ys) m
  | .dat (.list xs), .dat (.tuple ys) => .ok (zipD xs ys) m
  | .dat (.tuple xs), .dat (.list ys) => .ok (zipD xs ys) m
  | _, _ => .bad
@[simp] theorem zipU_list (xs ys : List PyData) (m : Mem) : zipU (.dat (.list xs)) (.dat (.list ys)) m = .ok (zipD xs ys) m := rfl
@[simp] theorem zipU_lt (xs ys : List PyData) (m : Mem) : zipU (.dat (.list xs)) (.dat (.tuple ys)) m = .ok (zipD xs ys) m := rfl
@[simp] theorem zipU_tl (xs ys : List PyData) (m : Mem) : zipU (.dat (.tuple xs)) (.dat (.list ys)) m = .ok (zipD xs ys) m := rfl
@[simp] theorem zipU_tuple (xs ys : List PyData) (m : Mem) : zipU (.dat (.tuple xs)) (.dat (.tuple ys)) m = .ok (zipD xs ys) m := rfl
def sizeU (xs : List PyData) (m : Mem) : R (List PyData) := @ite _ (xs.length ≤ sizeLine) (Classical.propDecidable _) (.ok xs m) .bad
def getV (σ : Env) (i : Nat) (m : Mem) : R U := match σ[i]? with
  | some (.v u) => .ok u m
  | _ => .bad
def getB (σ : Env) (i : Nat) (m : Mem) : R U := match σ[i]? with
  | some (.v u) => .ok u m
  | some (.own xs) => .ok (.dat (.list xs)) m
  | _ => .bad
/-- one list comprehension's loop -/
def compGo (elt : Env → Mem → R U) (cond : Option (Env → Mem → R U)) (tg : Tg) (σ : Env) : List PyData → Mem → R (List PyData)
  | [], m => .ok [] m
  | d :: ds, m =>
    match asgTg tg d σ with
    | none => .bad
    | some σ' => (condGo cond σ' m).bind fun b m1 => if b = true then (elt σ' m1).bind fun u m2 => (asD u m2).bind fun x m2 => (compGo elt cond tg σ ds m2).bind fun xs m3 => .ok (x :: xs) m3
        else compGo elt cond tg σ ds m1
/-- .. with a second loop in it -/
def comp2Go (elt : Env → Mem → R U) (cond : Option (Env → Mem → R U)) (tg : Tg) (it : Env → Mem → R (List PyData)) (tg' : Tg) (σ : Env) : List PyData → Mem → R (List PyData)
  | [], m => .ok [] m
  | d :: ds, m =>
    match asgTg tg d σ with
    | none => .bad
    | some σ' => (it σ' m).bind fun es m1 => (compGo elt cond tg' (wipeE σ' (slotsTg tg')) es m1).bind fun xs m2 => (comp2Go elt cond tg it tg' σ ds m2).bind fun ys m3 => .ok (xs ++ ys) m3
/-- where an object is only read: a name may hold a list of its own -/
def bA (a : E) (f : Env → Mem → R U) (σ : Env) (m : Mem) : R U := match a with
  | .bv i => getB σ i m
  | _ => f σ m
def oA (a : E) (f : Env → Mem → R U) (σ : Env) (m : Mem) : R (Option Int) := match a with
  | .no => .ok none m
  | _ => ((f σ m).bind asInt).bind fun i m1 => .ok (some i) m1
def cA (a : E) (f : Env → Mem → R U) : Option (Env → Mem → R U) := match a with
  | .no => none
  | _ => some fun σ m => (f σ m).quiet
inductive F where
  | nx | brk | cnt | ret (u : U)
mutual
def hE : HE → PyData → Env → Option PyData
  | .cst d, _, _ => some d
  | .fld, x, _ => some x
  | .var j, _, σ => match σ[j]? with
    | some (.v (.dat d)) => some d
    | _ => none
  | .rep e, x, σ => (hE e x σ).bind (b1Val .repr)
  | .isx _ b, _, _ => some (.bool b)
  | .tup es, x, σ => (hEs es x σ).map .tuple
  | .lst es, x, σ => (hEs es x σ).map .list
  | .cmp o a b, x, σ => (hE a x σ).bind fun d => (hE b x σ).bind fun e => cmpVal o d e
  | .and a b, x, σ => (hE a x σ).bind fun d => match d with
    | .bool true => hE b x σ
    | .bool false => some (.bool false)
    | _ => none
  | .nt a, x, σ => (hE a x σ).bind fun d => match d with
    | .bool c => some (.bool (!c))
    | _ => none
def hEs : HEs → PyData → Env → Option (List PyData)
  | .nil, _, _ => some []
  | .cons e es, x, σ => (hE e x σ).bind fun d => (hEs es x σ).map (d :: ·)
end
def boolD : PyData → Option Bool
  | .bool b => some b
  | _ => none
def hB : HB → PyData → Env → Option Bool
  | .ne a b, x, σ => (hE a x σ).bind fun d => (hE b x σ).bind fun e => (cmpVal .ne d e).bind boolD
  | .eq a b, x, σ => (hE a x σ).bind fun d => (hE b x σ).bind fun e => (cmpVal .eq d e).bind boolD
  | .not b, x, σ => (hB b x σ).map (!·)
  | .or a b, x, σ => (hB a x σ).bind fun c => if c = true then some true else hB b x σ
  | .isx _ b, _, _ => some b
def hSs : List HS → PyData → Env → Option F
  | [], _, _ => some .nx
  | .ife b e :: r, x, σ => (hB b x σ).bind fun c => if c = true then (hE e x σ).map fun d => F.ret (.dat d) else hSs r x σ
  | .ret e :: _, x, σ => (hE e x σ).map fun d => F.ret (.dat d)
/-- the tables of the defs that make lambdas stand first -/
def tabsOk (xs : List Str) (m : Mem) : Prop := ∀ (i : Nat) (x : Str), xs[i]? = some x → m[i]? = some (MObj.tab x)
def hearMd (md : HM) (aft : PyData) (u : U) (m : Mem) : R U := match md with
  | .ret => .ok u m
  | .exp => .ok (.dat aft) m
  | .exr d => .ok (.dat d) m
  | .tup z => match u with
    | .dat d => .ok (.dat (.tuple [.str z, d])) m
    | _ => .bad
  | .lst z => match u with
    | .dat d => .ok (.dat (.list [.str z, d])) m
    | _ => .bad
def hearHs (aft : PyData) : List (Nat × List HS) → Nat → U → Mem → R U
  | [], _, _, _ => .bad
  | (k, ss) :: r, c, x, m => if c = k then
      match x with
      | .dat d => match hSs ss d [] with
        | some (.ret u) => .ok u m
        | some .nx => .ok (.dat aft) m
        | _ => .bad
      | _ => .bad
    else hearHs aft r c x m
def hearGo (hd : HD) (r : R U) : R U := match r with
  | .ok u m => hearMd hd.md hd.aft u m
  | .exc c x m => hearHs hd.aft hd.hs c x m
  | .bad => .bad
mutual
def evE (C : Calls) : E → Env → Mem → R U
  | .cst d, _, m => .ok (.dat d) m
  | .glb _ d, _, m => .ok (.dat d) m
  | .var i, σ, m => getV σ i m
  | .bv _, _, _ => .bad
  | .tup es, σ, m => (evEs C es σ m).bind asTup
  | .lst es, σ, m => (evEs C es σ m).bind asLst
  | .newl es, σ, m => (evEs C es σ m).bind asNew
  | .lmul es k, σ, m => ((evEs C es σ m).bind asLst).bind fun x m1 => (evE C k σ m1).bind fun y m2 => d2 lmulV x y m2
  | .sortk a, σ, m => (evE C a σ m).bind sortKU
  | .sset a, σ, m => (evE C a σ m).bind (d1 ssetV)
  | .dget i es, σ, m => ((getV σ i m).bind dctU).bind fun k m1 => (evEs C es σ m1).bind fun us m2 => dgetU k us m2
  | .newD, _, m => .ok (.ref m.length) (m ++ [.dct []])
  | .newD1 k v, σ, m => (evE C k σ (m ++ [.dct []])).bind fun x m1 => (evE C v σ m1).bind fun y m2 => newD1U m.length x y m2
  | .keysl a, σ, m => (evE C a σ m).bind keysU
  | .hear xs _ _ hd e, σ, m => @ite _ (tabsOk xs m) (Classical.propDecidable _) (hearGo hd (evE C e σ m)) .bad
  | .dlen a, σ, m => (evE C a σ m).bind dlenU
  | .dictP a, σ, m => (evE C a σ m).bind dictPU
  | .lrng a, σ, m => ((evE C a σ m).bind asInt).bind lrngU
  | .idx a b, σ, m => (evE C a σ m).bind fun x m1 => (lstU x m1).bind fun ds m2 => (evE C b σ m2).bind (d1 (idxV ds))
  | .din n a d, σ, m => (evE C a σ m).bind fun x m1 => (evE C d σ m1).bind fun y m2 => dinU n x y m2
  | .bin o a b, σ, m => (bA a (evE C a) σ m).bind fun x m1 => (bA b (evE C b) σ m1).bind fun y m2 => d2 (binVal o) x y m2
  | .ladd a b, σ, m => (bA a (evE C a) σ m).bind fun x m1 => (bA b (evE C b) σ m1).bind fun y m2 => d2 (laddV) x y m2
  | .neg a, σ, m => (evE C a σ m).bind (d1 negD)
  | .not a, σ, m => ((evE C a σ m).bind asB).bind fun b m1 => .ok (.dat (.bool (!b))) m1
  | .and a b, σ, m => ((evE C a σ m).bind asB).bind fun c m1 => if c = true then evE C b σ m1 else .ok (.dat (.bool false)) m1
  | .or a b, σ, m => ((evE C a σ m).bind asB).bind fun c m1 => if c = true then .ok (.dat (.bool true)) m1 else evE C b σ m1
  | .cmp o a b, σ, m => (bA a (evE C a) σ m).bind fun x m1 => (bA b (evE C b) σ m1).bind fun y m2 => d2 (cmpVal o) x y m2
  | .chain o o' a b c, σ, m => (bA a (evE C a) σ m).bind fun x m1 => (bA b (evE C b) σ m1).bind fun y m2 => (c2 (cmpVal o) x y m2).bind fun k m3 =>
      if k = true then (bA c (evE C c) σ m3).bind fun z m4 => d2 (cmpVal o') y z m4 else .ok (.dat (.bool false)) m3
  | .iteN t a b, σ, m => ((evE C t σ m).bind asNz).bind fun c m1 => if c = true then evE C a σ m1 else evE C b σ m1
  | .ite t a b, σ, m => ((evE C t σ m).bind asB).bind fun c m1 => if c = true then evE C a σ m1 else evE C b σ m1
  | .call f es, σ, m => (evEs C es σ m).bind fun us m1 => C f us m1
  | .callk f es ks perm, σ, m => (evEs C es σ m).bind fun us m1 => (evEs C ks σ m1).bind fun zs m2 => (R.ofO (permL (us ++ zs) perm) m2).bind fun ws m3 => C f ws m3
  | .b1 f a, σ, m => (bA a (evE C a) σ m).bind (d1 (b1Val f))
  | .b2 f a b, σ, m => (evE C a σ m).bind fun x m1 => (evE C b σ m1).bind fun y m2 => d2 (b2Val f) x y m2
  | .isi a c, σ, m => (evE C a σ m).bind (d1 fun d => some (.bool (clsVal c d)))
  | .isi2 a c c', σ, m => (evE C a σ m).bind (d1 fun d => some (.bool (clsVal c d || clsVal c' d)))
  | .ix a i, σ, m => (bA a (evE C a) σ m).bind fun x m1 => (evE C i σ m1).bind fun y m2 => ixU x y m2
  | .sl a lo hi, σ, m => (bA a (evE C a) σ m).bind fun x m1 => (oA lo (evE C lo) σ m1).bind fun l m2 => (oA hi (evE C hi) σ m2).bind fun h m3 => d1 (fun d => slVal d l h) x m3
  | .rev a, σ, m => (bA a (evE C a) σ m).bind (d1 revD)
  | .gd o _ kvs nks a, σ, m => (evE C a σ m).bind (d1 (gdVal o kvs nks))
  | .comp elt tg it cond own, σ, m => ((evI C it σ m).bind sizeU).bind fun ds m1 =>
      (compGo (fun σ m => (evE C elt σ m).quiet) (cA cond (evE C cond)) tg (wipeE σ (own.map (·.2))) ds m1).quiet.bind fun xs m2 => .ok (.dat (.list xs)) m2
  | .newRs tg it own, σ, m => ((evI C it σ m).bind sizeU).bind fun ds m1 => rsGo tg (wipeE σ (own.map (·.2))) ds m1
  | .popM i, σ, m => popMGo σ i m
  | .ssc elt tg it cond own, σ, m => (((evI C it σ m).bind sizeU).bind fun ds m1 =>
      (compGo (fun σ m => (evE C elt σ m).quiet) (cA cond (evE C cond)) tg (wipeE σ (own.map (·.2))) ds m1).quiet.bind fun xs m2 => .ok (.dat (.list xs)) m2).bind (d1 ssetV)
  | .comp2 elt tg it tg' it' cond own, σ, m => ((evI C it σ m).bind sizeU).bind fun ds m1 =>
      ((comp2Go (fun σ m => (evE C elt σ m).quiet) (cA cond (evE C cond)) tg (fun σ m => (evI C it' σ m).quiet) tg' (wipeE σ (own.map (·.2))) ds m1).quiet.bind sizeU).bind fun xs m2 => .ok (.dat (.list xs)) m2
  | .no, _, _ => .bad
def evEs (C : Calls) : Es → Env → Mem → R (List U)
  | .nil, _, m => .ok [] m
  | .cons e es, σ, m => (evE C e σ m).bind fun u m1 => (evEs C es σ m1).bind fun us m2 => .ok (u :: us) m2
def evI (C : Calls) : It → Env → Mem → R (List PyData)
  | .seq e, σ, m => (evE C e σ m).bind seqU
  | .rng1 a, σ, m => ((evE C a σ m).bind asInt).bind rng1U
  | .rng2 a b, σ, m => ((evE C a σ m).bind asInt).bind fun i m1 => ((evE C b σ m1).bind asInt).bind fun j m2 => rng2U i j m2
  | .enum e, σ, m => ((evE C e σ m).bind seqU).bind enumU
  | .zip2 a b, σ, m => (evE C a σ m).bind fun x m1 => (evE C b σ m1).bind fun y m2 => zipU x y m2
end
end
end Eng

set_option Elab.async false
set_option linter.all false
set_option maxRecDepth 100000
set_option maxHeartbeats 1000000
/-! An own error whose __init__ says super().__init__('..') and keeps its argument: made, raised. -/
namespace EngX
open PySem PySem.W PySem.Calls PyProof.Rows PySem.HandSPX
def iA (fld : Str) (p1 p2 : Pos) : Arguments := { posonlyargs := [], args := [{ arg := "self", annotation := none, pos := p1 }, { arg := fld, annotation := none, pos := p2 }], vararg := none, kwonlyargs := [], kw_defaults := [], kwarg := none, defaults := [] }
def iB (fld msg : Str) (p0 p1 p2 p3 p4 p5 q1 q2 q3 q4 : Pos) : List Stmt :=
  [.Expr (.Call (.Attribute (.Call (.Name "super" p0) [] [] p1) "__init__" p2) [.Constant (.str msg) 0 p3] [] p4) p5, .Assign [.Attribute (.Name "self" q1) fld q2] (.Name fld q3) q4]
def iS (fld : Str) : Scope := { kind := .function, names := [(PySem.Str.ofString "self", .local), (fld, .local), (PySem.Str.ofString "__class__", .free), (PySem.Str.ofString "super", .globalImplicit)], isGenerator := false, isCoroutine := false, more := [] }
/-- what the written part says of an own error's class, at C, and of its __init__, at fI -/
structure OwnTxt (P : Program) (K : Frag) (mg : Str → Option Value) (x fld : Str) (C fI : Addr) : Prop where
  gC : mg x = some (.ref C)
  nS : mg "super" = none
  nP : (P.main.scope.names.lookup ("super" : Str)).isSome = false
  cls : ∃ nm q N bs bm sn sub ab col dd k0 k1 k2 k3 k5, K.lookup C = some (excClassObj nm q C N bs bm true sn sub ab col dd k0 k1 k2 k3 k5 "ValueError.__new__") ∧ refsVE bm = true
  sa : findIn K (.ref C) "__setattr__" = some (some (.builtin "object.__setattr__"))
  noN : findIn K (.ref C) fld = some none
  iC : findIn K (.ref C) "__init__" = some (some (.ref fI))
  tC : typeIn K (.ref fI) = some (.type "function")
  kC : keepIn K (.ref C) = true
  exC : subIn K (.ref C) (.type "BaseException") = some true
  vaC : subIn K (.ref C) (.type "ValueError") = some true
  tyC : typeIn K (.ref C) = some (.type "type")
  slf : mroIn K C (.ref C) = some true
  sup : ks_superIn K C C "__init__" = some (some (.builtin "ValueError.__init__"))
  tp : nsIn K cStatics "thirdparty.any" = some none
  nf : fld = ("at" : Str) ∨ fld = ("value" : Str) ∨ fld = ("most" : Str)
  xf : L2.XfC K C
  fn : ∃ (oc : Value) (od : Option Addr) (q msg : Str) (doc pm : Value) (an : Option Addr) (ct : Value) (osl : Array (Option Value)) (p1 p2 q0 q1 q2 q3 q4 q5 r1 r2 r3 r4 : Pos) (cda cc : Addr) (ccl cl : Value) (cdd cld : Option Addr) (vs : Array Value) (ccs csl : Array (Option Value)) (file : Str) (tf : Tok),
    K.lookup fI = some ⟨oc, od, .func (ksFn "__init__" q (iA fld p1 p2) (iB fld msg q0 q1 q2 q3 q4 q5 r1 r2 r3 r4) (iS fld) .none .none doc pm an (.ref cda) ct cc), osl⟩ ∧ codeIn K (.ref cda) q = true ∧
    K.lookup cda = some ⟨ccl, cdd, .fields vs, ccs⟩ ∧ vs[2]? = some (.str file tf) ∧ ((P.main.file : Str) == file) = true ∧ K.lookup cc = some ⟨cl, cld, .cell (some (.ref C)), csl⟩ ∧ (q2.endLine == q4.line) = true
theorem one_size (v : Value) : [v].length ≤ sizeLine := by
  rw [sizeLine_eq]
  exact (by decide : 1 ≤ 16777216)
/-- what __init__ leaves of a fresh exception at x -/
structure InitEnd (h h' : Heap) (x C dx t1 : Addr) (fld : Str) (v : Value) : Prop where
  keep : ∀ b o, b ≠ x → h.get? b = some o → h'.get? b = some o
  obj : h'.get? x = some { cls := .ref C, dict := some dx, data := .fields #[.ref t1, .none, .none, .none, .bool false, .none] }
  dbig : h.objs.size ≤ dx
  dne : dx ≠ x
  ns : h'.Ns1 dx (fun y => if y = fld then some v else none)
/-- a made error -/
structure OwnMade (h h' : Heap) (e C d : Addr) (fld : Str) (v : Value) : Prop where
  keep : ∀ b o, h.get? b = some o → h'.get? b = some o
  new : h.objs.size ≤ e
  obj : ∃ oe vs, h'.get? e = some oe ∧ oe.cls = .ref C ∧ oe.dict = some d ∧ oe.data = .fields vs ∧ vs[1]? = some .none ∧ vs[2]? = some .none
  dbig : h.objs.size ≤ d
  dne : d ≠ e
  ns : h'.Ns1 d (fun y => if y = fld then some v else none)
section
variable {prog : Program} {w : World} {A : Around} {E : Value → Shared → Prop} {R : Result → Shared → Prop} {s : Shared} {K : Frag} {mg : Str → Option Value} {C fI : Addr} {nm fld : Str}
theorem kept_but {K : Frag} {h h' : Heap} {x : Addr} (X : K.In h) (hx : K.lookup x = none) (k : ∀ b o, b ≠ x → h.get? b = some o → h'.get? b = some o) : K.In h' := fun a o e =>
  k a o (fun z => by rw [z, hx] at e; cases e) (X a o e)
/-- the built-in __init__ bound to the error, called -/
theorem call_line {o : Expr} {name : Str} {apos pos : Pos} {c : Const} {n : Nat} {p : Pos} {env : Env} (hln : (apos.endLine == pos.line) = true) : eval (.Call (.Attribute o name apos) [.Constant c n p] [] pos) env = (do
      let ov ← attributeBase o name env (eval o env)
      standAt apos.atName
      let (f, first) ← holding [ov] (getMethod ov name (do return (← importBound o env).getD true))
      callWith pos f first (backTo pos (starEach [.Constant c n p] env)) []) := by
  rw [arm_eval_Call]
  have hform : methodCallForm ([Expr.Constant c n p].length + ([] : List Keyword).length) (backTo pos (starEach [.Constant c n p] env)) (backToKw pos (keywordEach [] env)) = true := rfl
  have hpos : methodCallPos true o env apos pos = pure pos := by unfold methodCallPos; simp [hln]
  unfold methodCall calleeOf
  rw [hform]
  simp only [hpos, pure_bind, if_true]
  rfl
theorem call_mw {h : Heap} {g : Array GenState} {d : Drawn} {t : Nat} {os : OsState} {u e t0 : Addr} {rest : List Value} {Q : Value → Shared → Prop} {nm q : Str} {N : Addr} {bs bm : List Value} {hdct : Bool} {sn : List Str} {sub : List Value} {ab : Bool} {col : Option Bool} {dd : Option Addr} {k0 k1 k2 k3 k5 : Option Value}
    (hC : h.get? C = some (excClassObj nm q C N bs bm hdct sn sub ab col dd k0 k1 k2 k3 k5 "ValueError.__new__")) (he : h.get? e = some (excO C t0)) (hu : h.get? u = some (kxs_mw "ValueError.__init__" e)) (hrest : rest.length ≤ sizeLine)
    (hq : ∀ h' t1, (∀ b o, b ≠ e → h.get? b = some o → h'.get? b = some o) → h'.get? e = some (excO C t1) → Q .none ⟨h', g, d, t, os⟩) :
    wpAny (model prog w) A (call (.ref u) rest) Q E ⟨h, g, d, t, os⟩ := by
  refine wpAny_call (codeAny_of_tree ?_)
  show wpAny _ A.in1 (callAny (.ref u) ⟨rest, []⟩) _ _ _
  simp only [callAny]
  refine wpAny_bind (wpAny_load hu ?_)
  simp only [kxs_mw, show (Value.type "method-wrapper" == Value.type "method" || Value.type "method-wrapper" == Value.type "builtin_function_or_method" || Value.type "method-wrapper" == Value.type "method-wrapper") = true by decide, if_true]
  refine W.KFB.if_so (by decide) ?_
  refine wpAny_bind (check_bound_init F.excBase_ValueError.toExcCallFacts hC he rfl ?_)
  refine wpAny_bind (wpAny_pure (wpAny_pure ?_))
  refine ⟨plainId_quiet F.excBase_ValueError.init.plain _, codeAny_builtin F.excBase_ValueError.initEntry ?_⟩
  exact exc_init_tree (cls := .ref C) (t0 := t0) (dv := none) (c2 := .none) (c3 := .none) (b4 := .bool false) he hrest fun h' k e' _ => hq h' _ k e'
theorem own_init_at (T : OwnTxt prog K mg nm ("at" : Str) C fI) {x t0 : Addr} {v : Value} (X : K.In s.heap) (G : s.heap.Ns mainGlobals mg) (B : ∃ mb, s.heap.Ns builtinsNs mb ∧ ∀ x : Str, x ≠ "__name__" → mb x = bootBuiltins x) (hlim : s.heap.NoLimit) (hx : s.heap.get? x = some (excO C t0)) (hnx : K.lookup x = none) (hroom : A.depth < recursionLimit)
    (hq : ∀ h' tk dx t1, InitEnd s.heap h' x C dx t1 ("at" : Str) v → R (.ok (.ret .none)) { s with heap := h', toks := tk }) :
    codeAny (model prog w) A (.call (.ref fI) ⟨[.ref x, v], []⟩) R s := by
  obtain ⟨oc, od, qn, msg, doc, pm, an, ct, osl, p1, p2, q0, q1, q2, q3, q4, q5, r1, r2, r3, r4, cda, cc, ccl, cl, cdd, cld, vs, ccs, csl, file, tf, ho, hcd, hca, hvs, hfile, hcc, hln⟩ := T.fn
  obtain ⟨nm', q', N, bs, bm, sn, sub, ab, col, dd, k0, k1, k2, k3, k5, hC, hbm⟩ := T.cls
  have hcl : clsIn K C = some { name := nm', bases := bs, mro := .ref C :: bm, ns := N, qualname := q', hasDict := true, slotNames := sn, subclasses := sub, abstract := ab, collection := col, hasDel := false } := by unfold clsIn; rw [hC] <;> rfl
  have hnn : ∀ x ∈ (iS ("at" : Str)).names, x.2 ≠ .cell := by decide
  have lS : (iS ("at" : Str)).names.lookup ("self" : Str) = some .local := rfl
  have lF : (iS ("at" : Str)).names.lookup ("at" : Str) = some .local := rfl
  have lC : (iS ("at" : Str)).names.lookup ("__class__" : Str) = some .free := rfl
  have lU : (iS ("at" : Str)).names.lookup ("super" : Str) = some .globalImplicit := rfl
  have hdb : (("at" : Str) == ("__debug__" : Str)) = false := by decide
  refine ks_codeAny_call_defAt (body := iB ("at" : Str) msg q0 q1 q2 q3 q4 q5 r1 r2 r3 r4) (binds := [("self", .ref x), (("at" : Str), v)]) hroom (X _ _ ho) rfl hlim (codeRec_of X hcd) rfl (BindsTo.of_eq (by first | rfl | with_unfolding_all rfl)) hnn ?_ (fun h₁ hns hk₁ => ?_) rfl rfl rfl
  · intro y hy
    simp only [List.mem_cons, List.not_mem_nil, or_false] at hy
    rcases hy with rfl | rfl
    · exact lS
    · exact lF
  obtain ⟨mb, hB, hBv⟩ := B
  have X₁ : K.In h₁ := X.keeps hk₁
  have hx₁ := hk₁ _ _ hx
  have hxL : s.heap.objs.size ≠ x := Nat.ne_of_gt (Heap.lt_size hx)
  have hvS : ([("self", .ref x), (("at" : Str), v)] : List (Str × Value)).reverse.lookup ("self" : Str) = some (.ref x) := rfl
  have hvF : ([("self", .ref x), (("at" : Str), v)] : List (Str × Value)).reverse.lookup ("at" : Str) = some v := rfl
  refine ks_wpAt_execs_cons (ks_wpAt_Expr_any (ks_wpAt_MethodCall ?_ (call_line hln)))
  refine ks_wpAt_super_base (env := ksEnv qn (iS ("at" : Str)) s.heap.objs.size fI (.ref cda) cc) lU lC rfl rfl (X₁ _ _ ho) rfl rfl rfl (X₁ _ _ hca) rfl hvs hfile T.nP ?_
  refine ks_loadName_global rfl lU (loadGlobal_builtin (env := ksEnv qn (iS ("at" : Str)) s.heap.objs.size fI (.ref cda) cc) (G.keeps hk₁) T.nS (hB.keeps hk₁) ((hBv _ (by decide)).trans rfl) ⟨rfl, ?_⟩)
  refine wpAny_loadName_free rfl lC rfl ⟨_, X₁ _ _ hcc, rfl⟩ ?_
  refine wpAny_loadName_local rfl lS hns hvS ?_
  have hC₁ := X₁ _ _ hC
  refine ks_wpAny_isType_cls hC₁ rfl ⟨rfl, ?_⟩
  refine ks_wpAny_call_super hC₁ rfl hx₁ rfl (fun c e => by cases e) (looks_mroIn X₁ T.slf) (fun h₂ e₂ k₂ => ?_)
  have X₂ : K.In h₂ := X₁.keeps k₂
  have I₂ : InstAt h₂ x (excO C t0) C none := ⟨k₂ _ _ hx₁, rfl, rfl, trivial⟩
  have hsup : alongIn K "__init__" (((.ref C :: bm).dropWhile (· != .ref C)).drop 1) = some (some (.builtin "ValueError.__init__")) := by
    have := T.sup
    unfold ks_superIn at this
    rw [hcl, Option.bind_some] at this
    exact this
  refine kxs_getMethod kxs_ValueError e₂ (looks_opaque X₂ T.tp) (l₀ := .ref C :: bm) ?_ rfl X₂ hsup (I₂.type.andThen (looks_subIn X₂ T.vaC)) (ks_ne X₂ I₂ hcl) (by decide) ?_
  · exact fun A Q E s k q => wpAny_bind ((looks_clsIn X₂ hcl) A _ E s k (wpAny_pure q))
  have hw : (h₂.push (kxs_mw "ValueError.__init__" x)).get? h₂.objs.size = some (kxs_mw "ValueError.__init__" x) := Heap.get?_push_at rfl rfl
  have k₃ : ∀ b o, h₂.get? b = some o → (h₂.push (kxs_mw "ValueError.__init__" x)).get? b = some o := fun b o e => Heap.get?_push_of_some _ e
  have X₃ : K.In (h₂.push (kxs_mw "ValueError.__init__" x)) := X₂.keeps k₃
  have hx₃ := k₃ _ _ (k₂ _ _ hx₁)
  refine kxs_callWith (i := "ValueError.__init__") (x := x) rfl (evalArgs_plain ?_)
  refine spliced_cons (Constant_str (k := 0) (pos := q3) ?_)
  refine spliced_nil ?_
  refine ⟨hw, ?_⟩
  refine call_mw (X₃ _ _ hC) hx₃ hw (one_size _) fun h₄ t1 k₄ hx₄ => ?_
  show _root_.PySem.wpAt _ _ _ (execs [.Assign [.Attribute (.Name "self" r1) ("at" : Str) r2] (.Name ("at" : Str) r3) r4] _) _ _ _
  have kk : ∀ b o, b ≠ x → h₁.get? b = some o → h₄.get? b = some o := fun b o hb e => k₄ b o hb (k₃ _ _ (k₂ _ _ e))
  have X₄ : K.In h₄ := kept_but X₁ hnx kk
  have hns₄ : h₄.Ns s.heap.objs.size (fun y => ([("self", .ref x), (("at" : Str), v)] : List (Str × Value)).reverse.lookup y) := hns.at fun o q => kk _ o hxL q
  refine wpAt_of_wpAny (wpAny_execs_cons (plainObj_wpAny_Assign_Attribute ?_))
  refine wpAny_Name (wpAny_loadName_local rfl lF hns₄ hvF ?_) hdb
  refine wpAny_Name (wpAny_loadName_local rfl lS hns₄ hvS ?_) (by decide)
  refine set_plain X₄ (ox := excO C t1) (od := none) ⟨hx₄, rfl, rfl, trivial⟩ T.sa ?_
  refine exc_osa X₄ hx₄ hcl (show refsVE (.ref C :: bm) = true from hbm) rfl T.noN (fun h₅ tk₅ dx k₅ dn dne hx₅ hn₅ => ?_)
  show wpAny _ _ (execs _ _) _ _ _
  have z : s.heap.objs.size < h₄.objs.size := hns₄.lt
  exact wpAny_execs_nil (hq h₅ tk₅ dx t1 ⟨fun b o hb e => k₅ b o hb (kk b o hb (hk₁ b o e)), hx₅, Nat.le_of_lt (Nat.lt_of_lt_of_le z dn), dne, hn₅⟩)
theorem own_init_most (T : OwnTxt prog K mg nm ("most" : Str) C fI) {x t0 : Addr} {v : Value} (X : K.In s.heap) (G : s.heap.Ns mainGlobals mg) (B : ∃ mb, s.heap.Ns builtinsNs mb ∧ ∀ x : Str, x ≠ "__name__" → mb x = bootBuiltins x) (hlim : s.heap.NoLimit) (hx : s.heap.get? x = some (excO C t0)) (hnx : K.lookup x = none) (hroom : A.depth < recursionLimit)
    (hq : ∀ h' tk dx t1, InitEnd s.heap h' x C dx t1 ("most" : Str) v → R (.ok (.ret .none)) { s with heap := h', toks := tk }) :
    codeAny (model prog w) A (.call (.ref fI) ⟨[.ref x, v], []⟩) R s := by
  obtain ⟨oc, od, qn, msg, doc, pm, an, ct, osl, p1, p2, q0, q1, q2, q3, q4, q5, r1, r2, r3, r4, cda, cc, ccl, cl, cdd, cld, vs, ccs, csl, file, tf, ho, hcd, hca, hvs, hfile, hcc, hln⟩ := T.fn
  obtain ⟨nm', q', N, bs, bm, sn, sub, ab, col, dd, k0, k1, k2, k3, k5, hC, hbm⟩ := T.cls
  have hcl : clsIn K C = some { name := nm', bases := bs, mro := .ref C :: bm, ns := N, qualname := q', hasDict := true, slotNames := sn, subclasses := sub, abstract := ab, collection := col, hasDel := false } := by unfold clsIn; rw [hC] <;> rfl
  have hnn : ∀ x ∈ (iS ("most" : Str)).names, x.2 ≠ .cell := by decide
  have lS : (iS ("most" : Str)).names.lookup ("self" : Str) = some .local := rfl
  have lF : (iS ("most" : Str)).names.lookup ("most" : Str) = some .local := rfl
  have lC : (iS ("most" : Str)).names.lookup ("__class__" : Str) = some .free := rfl
  have lU : (iS ("most" : Str)).names.lookup ("super" : Str) = some .globalImplicit := rfl
  have hdb : (("most" : Str) == ("__debug__" : Str)) = false := by decide
  refine ks_codeAny_call_defAt (body := iB ("most" : Str) msg q0 q1 q2 q3 q4 q5 r1 r2 r3 r4) (binds := [("self", .ref x), (("most" : Str), v)]) hroom (X _ _ ho) rfl hlim (codeRec_of X hcd) rfl (BindsTo.of_eq (by first | rfl | with_unfolding_all rfl)) hnn ?_ (fun h₁ hns hk₁ => ?_) rfl rfl rfl
  · intro y hy
    simp only [List.mem_cons, List.not_mem_nil, or_false] at hy
    rcases hy with rfl | rfl
    · exact lS
    · exact lF
  obtain ⟨mb, hB, hBv⟩ := B
  have X₁ : K.In h₁ := X.keeps hk₁
  have hx₁ := hk₁ _ _ hx
  have hxL : s.heap.objs.size ≠ x := Nat.ne_of_gt (Heap.lt_size hx)
  have hvS : ([("self", .ref x), (("most" : Str), v)] : List (Str × Value)).reverse.lookup ("self" : Str) = some (.ref x) := rfl
  have hvF : ([("self", .ref x), (("most" : Str), v)] : List (Str × Value)).reverse.lookup ("most" : Str) = some v := rfl
  refine ks_wpAt_execs_cons (ks_wpAt_Expr_any (ks_wpAt_MethodCall ?_ (call_line hln)))
  refine ks_wpAt_super_base (env := ksEnv qn (iS ("most" : Str)) s.heap.objs.size fI (.ref cda) cc) lU lC rfl rfl (X₁ _ _ ho) rfl rfl rfl (X₁ _ _ hca) rfl hvs hfile T.nP ?_
  refine ks_loadName_global rfl lU (loadGlobal_builtin (env := ksEnv qn (iS ("most" : Str)) s.heap.objs.size fI (.ref cda) cc) (G.keeps hk₁) T.nS (hB.keeps hk₁) ((hBv _ (by decide)).trans rfl) ⟨rfl, ?_⟩)
  refine wpAny_loadName_free rfl lC rfl ⟨_, X₁ _ _ hcc, rfl⟩ ?_
  refine wpAny_loadName_local rfl lS hns hvS ?_
  have hC₁ := X₁ _ _ hC
  refine ks_wpAny_isType_cls hC₁ rfl ⟨rfl, ?_⟩
  refine ks_wpAny_call_super hC₁ rfl hx₁ rfl (fun c e => by cases e) (looks_mroIn X₁ T.slf) (fun h₂ e₂ k₂ => ?_)
  have X₂ : K.In h₂ := X₁.keeps k₂
  have I₂ : InstAt h₂ x (excO C t0) C none := ⟨k₂ _ _ hx₁, rfl, rfl, trivial⟩
  have hsup : alongIn K "__init__" (((.ref C :: bm).dropWhile (· != .ref C)).drop 1) = some (some (.builtin "ValueError.__init__")) := by
    have := T.sup
    unfold ks_superIn at this
    rw [hcl, Option.bind_some] at this
    exact this
  refine kxs_getMethod kxs_ValueError e₂ (looks_opaque X₂ T.tp) (l₀ := .ref C :: bm) ?_ rfl X₂ hsup (I₂.type.andThen (looks_subIn X₂ T.vaC)) (ks_ne X₂ I₂ hcl) (by decide) ?_
  · exact fun A Q E s k q => wpAny_bind ((looks_clsIn X₂ hcl) A _ E s k (wpAny_pure q))
  have hw : (h₂.push (kxs_mw "ValueError.__init__" x)).get? h₂.objs.size = some (kxs_mw "ValueError.__init__" x) := Heap.get?_push_at rfl rfl
  have k₃ : ∀ b o, h₂.get? b = some o → (h₂.push (kxs_mw "ValueError.__init__" x)).get? b = some o := fun b o e => Heap.get?_push_of_some _ e
  have X₃ : K.In (h₂.push (kxs_mw "ValueError.__init__" x)) := X₂.keeps k₃
  have hx₃ := k₃ _ _ (k₂ _ _ hx₁)
  refine kxs_callWith (i := "ValueError.__init__") (x := x) rfl (evalArgs_plain ?_)
  refine spliced_cons (Constant_str (k := 0) (pos := q3) ?_)
  refine spliced_nil ?_
  refine ⟨hw, ?_⟩
  refine call_mw (X₃ _ _ hC) hx₃ hw (one_size _) fun h₄ t1 k₄ hx₄ => ?_
  show _root_.PySem.wpAt _ _ _ (execs [.Assign [.Attribute (.Name "self" r1) ("most" : Str) r2] (.Name ("most" : Str) r3) r4] _) _ _ _
  have kk : ∀ b o, b ≠ x → h₁.get? b = some o → h₄.get? b = some o := fun b o hb e => k₄ b o hb (k₃ _ _ (k₂ _ _ e))
  have X₄ : K.In h₄ := kept_but X₁ hnx kk
  have hns₄ : h₄.Ns s.heap.objs.size (fun y => ([("self", .ref x), (("most" : Str), v)] : List (Str × Value)).reverse.lookup y) := hns.at fun o q => kk _ o hxL q
  refine wpAt_of_wpAny (wpAny_execs_cons (plainObj_wpAny_Assign_Attribute ?_))
  refine wpAny_Name (wpAny_loadName_local rfl lF hns₄ hvF ?_) hdb
  refine wpAny_Name (wpAny_loadName_local rfl lS hns₄ hvS ?_) (by decide)
  refine set_plain X₄ (ox := excO C t1) (od := none) ⟨hx₄, rfl, rfl, trivial⟩ T.sa ?_
  refine exc_osa X₄ hx₄ hcl (show refsVE (.ref C :: bm) = true from hbm) rfl T.noN (fun h₅ tk₅ dx k₅ dn dne hx₅ hn₅ => ?_)
  show wpAny _ _ (execs _ _) _ _ _
  have z : s.heap.objs.size < h₄.objs.size := hns₄.lt
  exact wpAny_execs_nil (hq h₅ tk₅ dx t1 ⟨fun b o hb e => k₅ b o hb (kk b o hb (hk₁ b o e)), hx₅, Nat.le_of_lt (Nat.lt_of_lt_of_le z dn), dne, hn₅⟩)
theorem own_init_value (T : OwnTxt prog K mg nm ("value" : Str) C fI) {x t0 : Addr} {v : Value} (X : K.In s.heap) (G : s.heap.Ns mainGlobals mg) (B : ∃ mb, s.heap.Ns builtinsNs mb ∧ ∀ x : Str, x ≠ "__name__" → mb x = bootBuiltins x) (hlim : s.heap.NoLimit) (hx : s.heap.get? x = some (excO C t0)) (hnx : K.lookup x = none) (hroom : A.depth < recursionLimit)
    (hq : ∀ h' tk dx t1, InitEnd s.heap h' x C dx t1 ("value" : Str) v → R (.ok (.ret .none)) { s with heap := h', toks := tk }) :
    codeAny (model prog w) A (.call (.ref fI) ⟨[.ref x, v], []⟩) R s := by
  obtain ⟨oc, od, qn, msg, doc, pm, an, ct, osl, p1, p2, q0, q1, q2, q3, q4, q5, r1, r2, r3, r4, cda, cc, ccl, cl, cdd, cld, vs, ccs, csl, file, tf, ho, hcd, hca, hvs, hfile, hcc, hln⟩ := T.fn
  obtain ⟨nm', q', N, bs, bm, sn, sub, ab, col, dd, k0, k1, k2, k3, k5, hC, hbm⟩ := T.cls
  have hcl : clsIn K C = some { name := nm', bases := bs, mro := .ref C :: bm, ns := N, qualname := q', hasDict := true, slotNames := sn, subclasses := sub, abstract := ab, collection := col, hasDel := false } := by unfold clsIn; rw [hC] <;> rfl
  have hnn : ∀ x ∈ (iS ("value" : Str)).names, x.2 ≠ .cell := by decide
  have lS : (iS ("value" : Str)).names.lookup ("self" : Str) = some .local := rfl
  have lF : (iS ("value" : Str)).names.lookup ("value" : Str) = some .local := rfl
  have lC : (iS ("value" : Str)).names.lookup ("__class__" : Str) = some .free := rfl
  have lU : (iS ("value" : Str)).names.lookup ("super" : Str) = some .globalImplicit := rfl
  have hdb : (("value" : Str) == ("__debug__" : Str)) = false := by decide
  refine ks_codeAny_call_defAt (body := iB ("value" : Str) msg q0 q1 q2 q3 q4 q5 r1 r2 r3 r4) (binds := [("self", .ref x), (("value" : Str), v)]) hroom (X _ _ ho) rfl hlim (codeRec_of X hcd) rfl (BindsTo.of_eq (by first | rfl | with_unfolding_all rfl)) hnn ?_ (fun h₁ hns hk₁ => ?_) rfl rfl rfl
  · intro y hy
    simp only [List.mem_cons, List.not_mem_nil, or_false] at hy
    rcases hy with rfl | rfl
    · exact lS
    · exact lF
  obtain ⟨mb, hB, hBv⟩ := B
  have X₁ : K.In h₁ := X.keeps hk₁
  have hx₁ := hk₁ _ _ hx
  have hxL : s.heap.objs.size ≠ x := Nat.ne_of_gt (Heap.lt_size hx)
  have hvS : ([("self", .ref x), (("value" : Str), v)] : List (Str × Value)).reverse.lookup ("self" : Str) = some (.ref x) := rfl
  have hvF : ([("self", .ref x), (("value" : Str), v)] : List (Str × Value)).reverse.lookup ("value" : Str) = some v := rfl
  refine ks_wpAt_execs_cons (ks_wpAt_Expr_any (ks_wpAt_MethodCall ?_ (call_line hln)))
  refine ks_wpAt_super_base (env := ksEnv qn (iS ("value" : Str)) s.heap.objs.size fI (.ref cda) cc) lU lC rfl rfl (X₁ _ _ ho) rfl rfl rfl (X₁ _ _ hca) rfl hvs hfile T.nP ?_
  refine ks_loadName_global rfl lU (loadGlobal_builtin (env := ksEnv qn (iS ("value" : Str)) s.heap.objs.size fI (.ref cda) cc) (G.keeps hk₁) T.nS (hB.keeps hk₁) ((hBv _ (by decide)).trans rfl) ⟨rfl, ?_⟩)
  refine wpAny_loadName_free rfl lC rfl ⟨_, X₁ _ _ hcc, rfl⟩ ?_
  refine wpAny_loadName_local rfl lS hns hvS ?_
  have hC₁ := X₁ _ _ hC
  refine ks_wpAny_isType_cls hC₁ rfl ⟨rfl, ?_⟩
  refine ks_wpAny_call_super hC₁ rfl hx₁ rfl (fun c e => by cases e) (looks_mroIn X₁ T.slf) (fun h₂ e₂ k₂ => ?_)
  have X₂ : K.In h₂ := X₁.keeps k₂
  have I₂ : InstAt h₂ x (excO C t0) C none := ⟨k₂ _ _ hx₁, rfl, rfl, trivial⟩
  have hsup : alongIn K "__init__" (((.ref C :: bm).dropWhile (· != .ref C)).drop 1) = some (some (.builtin "ValueError.__init__")) := by
    have := T.sup
    unfold ks_superIn at this
    rw [hcl, Option.bind_some] at this
    exact this
  refine kxs_getMethod kxs_ValueError e₂ (looks_opaque X₂ T.tp) (l₀ := .ref C :: bm) ?_ rfl X₂ hsup (I₂.type.andThen (looks_subIn X₂ T.vaC)) (ks_ne X₂ I₂ hcl) (by decide) ?_
  · exact fun A Q E s k q => wpAny_bind ((looks_clsIn X₂ hcl) A _ E s k (wpAny_pure q))
  have hw : (h₂.push (kxs_mw "ValueError.__init__" x)).get? h₂.objs.size = some (kxs_mw "ValueError.__init__" x) := Heap.get?_push_at rfl rfl
  have k₃ : ∀ b o, h₂.get? b = some o → (h₂.push (kxs_mw "ValueError.__init__" x)).get? b = some o := fun b o e => Heap.get?_push_of_some _ e
  have X₃ : K.In (h₂.push (kxs_mw "ValueError.__init__" x)) := X₂.keeps k₃
  have hx₃ := k₃ _ _ (k₂ _ _ hx₁)
  refine kxs_callWith (i := "ValueError.__init__") (x := x) rfl (evalArgs_plain ?_)
  refine spliced_cons (Constant_str (k := 0) (pos := q3) ?_)
  refine spliced_nil ?_
  refine ⟨hw, ?_⟩
  refine call_mw (X₃ _ _ hC) hx₃ hw (one_size _) fun h₄ t1 k₄ hx₄ => ?_
  show _root_.PySem.wpAt _ _ _ (execs [.Assign [.Attribute (.Name "self" r1) ("value" : Str) r2] (.Name ("value" : Str) r3) r4] _) _ _ _
  have kk : ∀ b o, b ≠ x → h₁.get? b = some o → h₄.get? b = some o := fun b o hb e => k₄ b o hb (k₃ _ _ (k₂ _ _ e))
  have X₄ : K.In h₄ := kept_but X₁ hnx kk
  have hns₄ : h₄.Ns s.heap.objs.size (fun y => ([("self", .ref x), (("value" : Str), v)] : List (Str × Value)).reverse.lookup y) := hns.at fun o q => kk _ o hxL q
  refine wpAt_of_wpAny (wpAny_execs_cons (plainObj_wpAny_Assign_Attribute ?_))
  refine wpAny_Name (wpAny_loadName_local rfl lF hns₄ hvF ?_) hdb
  refine wpAny_Name (wpAny_loadName_local rfl lS hns₄ hvS ?_) (by decide)
  refine set_plain X₄ (ox := excO C t1) (od := none) ⟨hx₄, rfl, rfl, trivial⟩ T.sa ?_
  refine exc_osa X₄ hx₄ hcl (show refsVE (.ref C :: bm) = true from hbm) rfl T.noN (fun h₅ tk₅ dx k₅ dn dne hx₅ hn₅ => ?_)
  show wpAny _ _ (execs _ _) _ _ _
  have z : s.heap.objs.size < h₄.objs.size := hns₄.lt
  exact wpAny_execs_nil (hq h₅ tk₅ dx t1 ⟨fun b o hb e => k₅ b o hb (kk b o hb (hk₁ b o e)), hx₅, Nat.le_of_lt (Nat.lt_of_lt_of_le z dn), dne, hn₅⟩)
theorem own_init (T : OwnTxt prog K mg nm fld C fI) {x t0 : Addr} {v : Value} (X : K.In s.heap) (G : s.heap.Ns mainGlobals mg) (B : ∃ mb, s.heap.Ns builtinsNs mb ∧ ∀ x : Str, x ≠ "__name__" → mb x = bootBuiltins x) (hlim : s.heap.NoLimit) (hx : s.heap.get? x = some (excO C t0)) (hnx : K.lookup x = none) (hroom : A.depth < recursionLimit)
    (hq : ∀ h' tk dx t1, InitEnd s.heap h' x C dx t1 fld v → R (.ok (.ret .none)) { s with heap := h', toks := tk }) :
    codeAny (model prog w) A (.call (.ref fI) ⟨[.ref x, v], []⟩) R s := by
  rcases T.nf with rfl | rfl | rfl
  · exact own_init_at T X G B hlim hx hnx hroom hq
  · exact own_init_value T X G B hlim hx hnx hroom hq
  · exact own_init_most T X G B hlim hx hnx hroom hq
theorem own_made (T : OwnTxt prog K mg nm fld C fI) {v : Value} (X : K.In s.heap) (G : s.heap.Ns mainGlobals mg) (B : ∃ mb, s.heap.Ns builtinsNs mb ∧ ∀ x : Str, x ≠ "__name__" → mb x = bootBuiltins x) (hlim : s.heap.NoLimit) (hroom : A.depth + 1 < recursionLimit)
    (hq : ∀ h' tk e d, OwnMade s.heap h' e C d fld v → R (.ok (.ret (.ref e))) { s with heap := h', toks := tk }) :
    codeAny (model prog w) A (.call (.ref C) ⟨[v], []⟩) R s := by
  obtain ⟨nm', q, N, bs, bm, sn, sub, ab, col, dd, k0, k1, k2, k3, k5, hC, hbm⟩ := T.cls
  obtain ⟨hp, g, dr, tk, os⟩ := s
  have k : ∀ b o, hp.get? b = some o → ((hp.push (kdv_tup [v])).push (excO C hp.objs.size)).get? b = some o := fun b o e => Heap.get?_push_of_some _ (Heap.get?_push_of_some _ e)
  have hget : ((hp.push (kdv_tup [v])).push (excO C hp.objs.size)).get? (hp.objs.size + 1) = some (excO C hp.objs.size) := by heap_get
  have hnx : K.lookup (hp.objs.size + 1) = none := by
    cases e : K.lookup (hp.objs.size + 1) with
    | none => rfl
    | some o =>
      have z : hp.get? (hp.objs.size + 1) = some o := X _ _ e
      exact absurd (Nat.lt_of_succ_lt (Heap.lt_size z)) (Nat.lt_irrefl _)
  obtain ⟨mb, hB, hBv⟩ := B
  refine call_own F.excBase_ValueError (fun X => refsVE_contains X bm hbm) (X _ _ hC) (looks_findIn X T.iC) (fun self => bind_fn X self T.tC) (one_size v) ?_
  refine own_init (s := ⟨(hp.push (kdv_tup [v])).push (excO C hp.objs.size), g, dr, tk, os⟩) T (X.keeps k) (G.keeps k) ⟨mb, hB.keeps k, hBv⟩ (hlim.keeps k) hget hnx ?_ fun h' tk' dx t1 ⟨k', hx, dn, dne, hns⟩ => ?_
  · show A.depth + 1 < recursionLimit
    exact hroom
  · have old : ∀ b o, hp.get? b = some o → h'.get? b = some o := fun b o e => k' b o (Nat.ne_of_lt (Nat.lt_succ_of_lt (Heap.lt_size e))) (k b o e)
    have z : hp.objs.size + 1 + 1 ≤ dx := by
      first
        | (simpa only [Heap.size_push] using dn)
        | exact dn
        | (have q := dn; rw [Heap.size_push, Heap.size_push] at q; exact q)
    exact ⟨rfl, hq h' tk' (hp.objs.size + 1) dx ⟨old, Nat.le_succ _, ⟨_, _, hx, rfl, rfl, rfl, rfl, rfl⟩, Nat.le_trans (Nat.le_trans (Nat.le_succ _) (Nat.le_succ _)) z, dne, hns⟩⟩
end
end EngX
namespace L2
open PySem PySem.Spec PyProof.Rows EngX
theorem relO_own {v : V} {v' : Value} {fld : Str} (r : RelV v v') (f : Str) : RelO (List.lookup f [(fld, v)]) (if f = fld then some v' else none) := by
  by_cases hw : f = fld
  · subst hw
    rw [if_pos rfl]
    have q : List.lookup f [(f, v)] = some v := by simp [List.lookup]
    rw [q]
    exact r
  · rw [if_neg hw]
    have qw : (f == fld) = false := by simpa using hw
    have q2 : List.lookup f [(fld, v)] = none := by simp [List.lookup, qw]
    rw [q2]
    trivial
section
variable {X : Cx} {C fI : Addr} {fld nm : Str}
/-- NAME(e), NAME an own error -/
def tMkOwn (C : Addr) (fld : Str) (ta : TA) : St → Hp → XK → Prop := fun σ H Q => ta σ H fun vs H1 => ∃ v, vs = [v] ∧ ∀ d, H1 d = none → Q (.ref C) (some d) (upd H1 d (.xd [(fld, v)]))
theorem pmk_ownX {a : Expr} {ta : TA} {p pos : Pos} {k : Nat} (T : OwnTxt X.prog X.K X.mg nm fld C fI) (hr : Room k X.A) (ha : PA X [a] ta) (hg : Gl X nm) (hdb : (nm == ("__debug__" : Str)) = false)
    (he : starEach (a :: []) X.env = (false, eval a X.env) :: starEach [] X.env) (hpl : (backTo pos (starEach [] X.env)).any (·.1) = false := by rfl) :
    PMk X (.Call (.Name nm p) [a] [] pos) (tMkOwn C fld ta) := by
  intro pins s σ H Q I h
  refine wpAny_Call_Name_kw (ld_glob I hg T.gC ?_ hdb)
  refine PySem.W.callWith_K (h₀ := X.base) I.ok.mod.kin T.kC (thn (ha.run pos pins s σ H _ I h) fun us s1 hh => ?_) he hpl
  obtain ⟨vs, H1, I1, r1, v, ev, q1⟩ := hh
  subst ev
  refine ⟨I1.kIn, ?_⟩
  cases r1 with
  | cons rv rn =>
    rename_i v' us'
    cases rn
    show wpAny _ _ (call (.ref C) [v']) _ _ _
    have hlim := I1.nolimit
    have hG := I1.ok.mod.glob.keeps I1.bk
    obtain ⟨mb, hB, hBv⟩ := I1.ok.mod.blt
    have hB1 := hB.keeps I1.bk
    obtain ⟨hp, g, dr, tk, os⟩ := s1
    refine wpAny_call (own_made T I1.kIn hG ⟨mb, hB1, hBv⟩ hlim (by have := hr.dp; omega) fun h' tk' e d M => ?_)
    show MkP X pins σ Q (.ref e) ⟨h', g, dr, tk', os⟩
    obtain ⟨oe, fv, hoe, hc, hd, hdat, h1, h2⟩ := M.obj
    have hns := M.ns
    obtain ⟨G', g1, g2⟩ := restrict h' fun b => decide (b ≠ e)
    have gk : ∀ b, b ≠ e → G'.get? b = h'.get? b := fun b hb => g1 b (decide_eq_true hb)
    have ge : G'.get? e = none := g2 e (by simp)
    have old : ∀ b o, hp.get? b = some o → G'.get? b = some o := fun b o q => (gk b (Nat.ne_of_lt (Nat.lt_of_lt_of_le (Heap.lt_size q) M.new))).trans (M.keep b o q)
    have ob : ObjOk X.prog X.w (upd H1 d (.xd [(fld, v)])) G' d (.xd [(fld, v)]) :=
      ⟨_, hns.at (fun o q => (gk d M.dne).trans q), fun f => relO_own rv f⟩
    have J : Inv X pins σ (upd H1 d (.xd [(fld, v)])) ⟨G', g, dr, tk', os⟩ := I1.laid (t' := tk') old M.dbig ob
    refine ⟨e, oe, fv, ⟨G', g, dr, tk', os⟩, _, .ref C, some d, rfl, J, fun b o q => ?_, ge, hoe, ⟨hc, hd⟩, hdat, h1, ?_, rfl, I1.bare, raises_own T.exC T.tyC, q1 d (I1.hok.fresh M.dbig)⟩
    · by_cases hb : b = e
      · have q' : G'.get? b = some o := q
        rw [hb, ge] at q'; cases q'
      · exact (gk b hb).symm.trans q
    · rw [upd_ne (Ne.symm M.dne)]
      exact I1.hok.fresh M.new
/-- raise NAME(e) -/
def tRaiseOwn (C : Addr) (fld : Str) (W : WX) (ta : TA) : TS := fun _ σ H => tMkOwn C fld ta σ H fun cls d H' => W cls d σ H'
theorem ps_raiseOwn {a : Expr} {ta : TA} {W : WX} {p pos pos2 : Pos} {k : Nat} (hc : X.calm = true) (T : OwnTxt X.prog X.K X.mg nm fld C fI) (hr : Room k X.A) (tk : Takes X W) (ha : PA X [a] ta) (hg : Gl X nm) (hdb : (nm == ("__debug__" : Str)) = false)
    (he : starEach (a :: []) X.env = (false, eval a X.env) :: starEach [] X.env) (hpl : (backTo pos (starEach [] X.env)).any (·.1) = false := by rfl) :
    PS X (.Raise (some (.Call (.Name nm p) [a] [] pos)) none pos2) (tRaiseOwn C fld W ta) := ps_raise hc tk (pmk_ownX T hr ha hg hdb he hpl)
end
end L2

set_option Elab.async false
set_option linter.all false
set_option maxRecDepth 100000
set_option maxHeartbeats 1000000
/-! isinstance of a caught error that has a field. -/
namespace L2
open PySem PySem.Spec PyProof.Rows
structure IsxC (K : PySem.W.Frag) (D : Addr) : Prop where
  cl : (PySem.W.clsIn K D).isSome = true
  hg : PySem.W.findIn K (.ref D) "__getattribute__" = some (some (.builtin "BaseException.__getattribute__"))
  hk : PySem.W.findIn K (.ref D) "__getattr__" = some none
  hs : PySem.W.subIn K (.ref D) (.type "BaseException") = some true
  ha : PySem.W.findIn K (.ref D) "__class__" = some (some (.builtin "object.__class__"))
  hn : PySem.W.specialIn K (.builtin "object.__class__") "__get__" = some (some (.builtin "getset_descriptor.__get__"))
  ht : PySem.W.takesIn K (.builtin "object.__class__") = some true
  hm : PySem.W.mroIn K D (.type "object") = some true
/-- isinstance(e, c), e the error that the suite holds, with a dict of its own -/
def rIsX (K : PySem.W.Frag) (D a : Addr) (d : Option Addr) : List V → Hp → VK → Prop := fun xs H Q => ∃ (c : V) (cv : Value) (b : Bool) (dd : Addr) (fs : List (Str × V)), xs = [.ref a, c] ∧ d = some dd ∧ H dd = some (.xd fs) ∧ (∀ u, RelV c u → u = cv) ∧ PySem.W.kitOne K (.ref D) cv = some b ∧ Q (.bl b) H
theorem call_isX {X : Cx} {a D : Addr} {d : Option Addr} {oe : Obj} {pn : List (Addr × Obj)} (C : IsxC X.K D) (hz : Zc (.ref D) d oe) (hf : ∃ vs, oe.data = .fields vs) : CallR (X.suite a ((a, oe) :: pn)) (.builtin "isinstance") (rIsX X.K D a d) := by
  intro pins s σ H xs us Q I r h
  obtain ⟨c, cv, b, dd, fs, rfl, rfl, hx, hcv, e, q⟩ := h
  cases r with
  | cons rx rr =>
    cases rr with
    | cons rt rr =>
      cases rr
      cases rx
      have ec := hcv _ rt
      subst ec
      obtain ⟨hget, _⟩ := I.pin (a, oe) (List.mem_append.mpr (.inl List.mem_cons_self))
      obtain ⟨vs, hv⟩ := hf
      obtain ⟨mA, hns, hr⟩ := I.hok dd _ hx
      obtain ⟨od, ho, hl⟩ := lookIn_ns hns
      have J : PySem.W.InstAt s.heap a oe D (some od) := ⟨hget, hz.1, by unfold PySem.W.notCls; rw [hv] <;> rfl, by rw [hz.2]; exact ho⟩
      exact PySem.W.kia_one (PySem.W.kitx_exc C.cl C.hg C.hk C.hs C.ha C.hn C.ht C.hm) I.kIn J e (fun z => nomatch z) fun tk => ⟨.bl b, H, I.kept (t' := tk) fun _ _ z => z, rfl, q⟩
end L2

set_option Elab.async false
set_option linter.all false
set_option maxRecDepth 100000
/-! The evaluator: statements, defs, a program. -/
namespace Eng
open PySem
noncomputable section

def augVal : BinO → PyData → PyData → Option PyData
  | .add, .int i, .int j => some (.int (i + j))
  | .sub, .int i, .int j => some (.int (i - j))
  | .mul, .int i, .int j => @ite _ (L2.CMul i j) (Classical.propDecidable _) (some (.int (i * j))) none
  | .fdiv, .int i, .int j => @ite _ (L2.CDivW i j) (Classical.propDecidable _) (some (.int (i / j))) none
  | _, _, _ => none
/-- a try's body: e; e, then return d; return e -/
inductive TM where
  | ex | exr (d : PyData) | rt
mutual
inductive S where
  | asg (i : Nat) (e : E)
  | own (i : Nat) (e : E)
  | frz (i : Nat)
  | asgT (ts : List Tg) (e : E)
  | par2 (i j : Nat) (a b : E)
  | par2o (i j : Nat) (a b : E)
  | par1o (i j : Nat) (a b : E)
  | par2oo (i j : Nat) (a b : E)
  | asgTo (i j : Nat) (a b : E)
  | par3o (i j l : Nat) (a b c : E)
  | par3m (i j l : Nat) (a b c : E)
  | par3z (i j l : Nat) (a b c : E)
  | augO (i : Nat) (ix : E) (o : BinO) (e : E)
  | setO (i : Nat) (ix e : E)
  | setOP (i : Nat) (ix : E) (j : Nat) (e : E)
  | setM (r ix e : E)
  | app (i : Nat) (e : E)
  | ext (i : Nat) (e : E)
  | setO2 (i : Nat) (ix ix2 e : E)
  | popO (i j : Nat)
  | appM (i : Nat) (e : E)
  | aug (i : Nat) (o : BinO) (e : E)
  | expr (e : E)
  | ife (c : E) (t f : Ss)
  | for_ (tg : Tg) (it : It) (body : Ss)
  | whl (c : E) (body : Ss)
  | ret (e : E)
  | retN
  | brk | cnt | pass
  | raise (c : Nat) (e : E)
  | tryO (md : TM) (e : E) (k : Nat) (d : PyData)
  | tryX (md : TM) (e : E) (i k : Nat) (hs : List HS)
inductive Ss where
  | nil | cons (s : S) (ss : Ss)
end

/-- the name of the error is forgotten -/
def clrS (σ : Env) (i : Nat) : Option Env := match σ[i]? with
  | some (.own _) => none
  | some _ => some (σ.set i .no)
  | none => none
def tryGo (md : TM) (i k : Nat) (hs : List HS) (σ : Env) (r : R U) : R (F × Env) := match r with
  | .ok u m => match md with
    | .ex => .ok (.nx, σ) m
    | .exr d => .ok (.ret (.dat d), σ) m
    | .rt => .ok (.ret u, σ) m
  | .exc c x m => if c = k then
      match x with
      | .dat d => match clrS σ i with
        | some σ' => match hSs hs d σ' with
          | some fl => .ok (fl, σ') m
          | none => .bad
        | none => .bad
      | _ => .bad
    else .exc c x m
  | .bad => .bad
def tryOGo (md : TM) (k : Nat) (dv : PyData) (σ : Env) (r : R U) : R (F × Env) := match r with
  | .ok u m => match md with
    | .ex => .ok (.nx, σ) m
    | .exr d => .ok (.ret (.dat d), σ) m
    | .rt => .ok (.ret u, σ) m
  | .exc c x m => if c = k then .ok (.ret (.dat dv), σ) m else .exc c x m
  | .bad => .bad
def forGo (body : Env → Mem → R (F × Env)) (tg : Tg) : List PyData → Env → Mem → R (F × Env)
  | [], σ, m => .ok (.nx, σ) m
  | d :: ds, σ, m =>
    match asgTg tg d σ with
    | none => .bad
    | some σ' => (body σ' m).bind fun x m1 => match x.1 with
      | .nx => forGo body tg ds x.2 m1
      | .cnt => forGo body tg ds x.2 m1
      | .brk => .ok (.nx, x.2) m1
      | .ret u => .ok (.ret u, x.2) m1
def whlGo (c : Env → Mem → R U) (body : Env → Mem → R (F × Env)) : Nat → Env → Mem → R (F × Env)
  | 0, _, _ => .bad
  | n + 1, σ, m => ((c σ m).bind asB).bind fun b m1 => if b = true then (body σ m1).bind fun x m2 => match x.1 with
        | .nx => whlGo c body n x.2 m2
        | .cnt => whlGo c body n x.2 m2
        | .brk => .ok (.nx, x.2) m2
        | .ret u => .ok (.ret u, x.2) m2
      else .ok (.nx, σ) m1
def setE (σ : Env) (i : Nat) (s : Sl) : Option Env := if i < σ.length then some (σ.set i s) else none

def setOGo (σ : Env) (i : Nat) (xs : List PyData) (u y : U) (m : Mem) : R (F × Env) := match u, y with
  | .dat d, .dat (.int k) => match L2.ixN xs.length k with
    | some j => .ok (.nx, σ.set i (.own (xs.set j d))) m
    | none => .bad
  | _, _ => .bad
def appGo (σ : Env) (i : Nat) (xs : List PyData) (u : U) (m : Mem) : R (F × Env) := match u with
  | .dat d => @ite _ (xs.length < sizeLine) (Classical.propDecidable _) (.ok (.nx, σ.set i (.own (xs ++ [d]))) m) .bad
  | _ => .bad
def appMGo (σ : Env) (k : Nat) (u : U) (m : Mem) : R (F × Env) := match u with
  | .dat d => match m[k]? with
    | some (.lst xs) => @ite _ (xs.length < sizeLine) (Classical.propDecidable _) (.ok (.nx, σ) (m.set k (.lst (xs ++ [d])))) .bad
    | _ => .bad
  | _ => .bad
def extGo (σ : Env) (i : Nat) (xs : List PyData) (u : U) (m : Mem) : R (F × Env) := match u with
  | .dat (.list ys) => @ite _ (xs.length + ys.length ≤ sizeLine) (Classical.propDecidable _) (.ok (.nx, σ.set i (.own (xs ++ ys))) m) .bad
  | _ => .bad
def setO2Go (σ : Env) (i : Nat) (d2 : PyData) (f : Env → Mem → R U) (x : F × Env) (m : Mem) : R (F × Env) := match x.2[i]? with
  | some (.own ys) => (f x.2 m).bind fun y m1 => setOGo x.2 i ys (.dat d2) y m1
  | _ => .bad
def popGo (σ : Env) (i j : Nat) (xs : List PyData) (m : Mem) : R (F × Env) := match xs.getLast? with
  | some d => if i = j then .bad else match setE (σ.set j (.own xs.dropLast)) i (.v (.dat d)) with
    | some σ' => .ok (.nx, σ') m
    | none => .bad
  | none => .bad
def augGo (σ : Env) (i : Nat) (o : BinO) (d : PyData) (u : U) (m : Mem) : R (F × Env) := match u with
  | .dat d' => match augVal o d d' with
    | some z => .ok (.nx, σ.set i (.v (.dat z))) m
    | none => .bad
  | _ => .bad
def ixO (xs : List PyData) (y : U) : Option (Nat × PyData) := match y with
  | .dat (.int k) => (L2.ixN xs.length k).bind fun j => (xs[j]?).map fun d => (j, d)
  | _ => none
def augOGo (σ : Env) (i : Nat) (o : BinO) (xs : List PyData) (p : Nat × PyData) (u : U) (m : Mem) : R (F × Env) := match u with
  | .dat d' => match augVal o p.2 d' with
    | some z => .ok (.nx, σ.set i (.own (xs.set p.1 z))) m
    | none => .bad
  | _ => .bad
def setMGo (σ : Env) (u x y : U) (m : Mem) : R (F × Env) := match u, x, y with
  | .dat d, .ref q, .dat e => match m[q]? with
    | some (.lst xs) => match e with
      | .int k => match L2.ixN xs.length k with
        | some j => .ok (.nx, σ) (m.set q (.lst (xs.set j d)))
        | none => .bad
      | _ => .bad
    | some (.dct kvs) => match L2.keyOfD e with
      | some k => @ite _ (kvs.length < sizeLine) (Classical.propDecidable _) (.ok (.nx, σ) (m.set q (.dct (L2.putN kvs k d)))) .bad
      | none => .bad
    | _ => .bad
  | _, _, _ => .bad
def setOPGo (σ : Env) (i j : Nat) (xs : List PyData) (d d2 : PyData) (y : U) (m : Mem) : R (F × Env) := match y with
  | .dat (.int k) => match L2.ixN xs.length k with
    | some q => match setE (σ.set i (.own (xs.set q d))) j (.v (.dat d2)) with
      | some σ' => .ok (.nx, σ') m
      | none => .bad
    | none => .bad
  | _ => .bad
mutual
def evS (L : Nat) (C : Calls) : S → Env → Mem → R (F × Env)
  | .asg i e, σ, m => (evE C e σ m).bind fun u m1 => match setE σ i (.v u) with
    | some σ' => .ok (.nx, σ') m1
    | none => .bad
  | .own i e, σ, m => (evE C e σ m).bind fun u m1 => match u with
    | .dat (.list xs) => match setE σ i (.own xs) with
      | some σ' => .ok (.nx, σ') m1
      | none => .bad
    | _ => .bad
  | .frz i, σ, m => match σ[i]? with
    | some (.own xs) => .ok (.nx, σ.set i (.v (.dat (.list xs)))) m
    | some (.v u) => .ok (.nx, σ) m
    | _ => .bad
  | .asgT ts e, σ, m => (evE C e σ m).bind fun u m1 => match u with
    | .dat (.tuple ds) => match asgTgs ts ds σ with
      | some σ' => .ok (.nx, σ') m1
      | none => .bad
    | _ => .bad
  | .par2 i j a b, σ, m => (evE C a σ m).bind fun x m1 => (evE C b σ m1).bind fun y m2 => match (setE σ i (.v x)).bind fun σ' => setE σ' j (.v y) with
    | some σ' => .ok (.nx, σ') m2
    | none => .bad
  | .par2o i j a b, σ, m => (evE C a σ m).bind fun x m1 => (evE C b σ m1).bind fun y m2 => match y with
    | .dat (.list xs) => match (setE σ i (.v x)).bind fun σ' => setE σ' j (.own xs) with
      | some σ' => .ok (.nx, σ') m2
      | none => .bad
    | _ => .bad
  | .par1o i j a b, σ, m => (evE C a σ m).bind fun x m1 => match x with
    | .dat (.list xs) => (evE C b σ m1).bind fun y m2 => match (setE σ i (.own xs)).bind fun σ' => setE σ' j (.v y) with
      | some σ' => .ok (.nx, σ') m2
      | none => .bad
    | _ => .bad
  | .asgTo i j a b, σ, m => (evE C a σ m).bind fun x m1 => match x with
    | .dat (.list xs) => (evE C b σ m1).bind fun y m2 => match (setE σ i (.own xs)).bind fun σ' => setE σ' j (.v y) with
      | some σ' => .ok (.nx, σ') m2
      | none => .bad
    | _ => .bad
  | .par2oo i j a b, σ, m => (evE C a σ m).bind fun x m1 => match x with
    | .dat (.list xs) => (evE C b σ m1).bind fun y m2 => match y with
      | .dat (.list ys) => match (setE σ i (.own xs)).bind fun σ' => setE σ' j (.own ys) with
        | some σ' => .ok (.nx, σ') m2
        | none => .bad
      | _ => .bad
    | _ => .bad
  | .par3o i j l a b c, σ, m => (evE C a σ m).bind fun x m1 => match x with
    | .dat (.list xs) => (evE C b σ m1).bind fun y m2 => (evE C c σ m2).bind fun z m3 => match ((setE σ i (.own xs)).bind fun σ' => setE σ' j (.v y)).bind fun σ' => setE σ' l (.v z) with
      | some σ' => .ok (.nx, σ') m3
      | none => .bad
    | _ => .bad
  | .par3z i j l a b c, σ, m => (evE C a σ m).bind fun x m1 => (evE C b σ m1).bind fun y m2 => (evE C c σ m2).bind fun z m3 => match z with
    | .dat (.list xs) => match ((setE σ i (.v x)).bind fun σ' => setE σ' j (.v y)).bind fun σ' => setE σ' l (.own xs) with
      | some σ' => .ok (.nx, σ') m3
      | none => .bad
    | _ => .bad
  | .par3m i j l a b c, σ, m => (evE C a σ m).bind fun x m1 => (evE C b σ m1).bind fun y m2 => match y with
    | .dat (.list xs) => (evE C c σ m2).bind fun z m3 => match ((setE σ i (.v x)).bind fun σ' => setE σ' j (.own xs)).bind fun σ' => setE σ' l (.v z) with
      | some σ' => .ok (.nx, σ') m3
      | none => .bad
    | _ => .bad
  | .augO i ix o e, σ, m => match σ[i]? with
    | some (.own xs) => (evE C ix σ m).bind fun y m1 => match ixO xs y with
      | some p => (evE C e σ m1).bind fun u m2 => augOGo σ i o xs p u m2
      | none => .bad
    | _ => .bad
  | .setOP i ix j e, σ, m => (evE C e σ m).bind fun u m1 => match u with
    | .dat (.tuple [d, d2]) => match σ[i]? with
      | some (.own xs) => (evE C ix σ m1).bind fun y m2 => setOPGo σ i j xs d d2 y m2
      | _ => .bad
    | _ => .bad
  | .setO i ix e, σ, m => (evE C e σ m).bind fun u m1 => match σ[i]? with
    | some (.own xs) => (evE C ix σ m1).bind fun y m2 => setOGo σ i xs u y m2
    | _ => .bad
  | .setM r ix e, σ, m => (evE C e σ m).bind fun u m1 => (evE C r σ m1).bind fun x m2 => (evE C ix σ m2).bind fun y m3 => setMGo σ u x y m3
  | .app i e, σ, m => match σ[i]? with
    | some (.own xs) => (evE C e σ m).bind fun u m1 => appGo σ i xs u m1
    | _ => .bad
  | .ext i e, σ, m => match σ[i]? with
    | some (.own xs) => (evE C e σ m).bind fun u m1 => extGo σ i xs u m1
    | _ => .bad
  | .setO2 i ix ix2 e, σ, m => (evE C e σ m).bind fun u m1 => match u with
    | .dat (.tuple [d, d2]) => match σ[i]? with
      | some (.own xs) => ((evE C ix σ m1).bind fun y m2 => setOGo σ i xs (.dat d) y m2).bind (setO2Go σ i d2 (evE C ix2))
      | _ => .bad
    | _ => .bad
  | .appM i e, σ, m => match σ[i]? with
    | some (.v (.ref k)) => match m[k]? with
      | some (.lst _) => (evE C e σ m).bind fun u m1 => appMGo σ k u m1
      | _ => .bad
    | _ => .bad
  | .popO i j, σ, m => match σ[j]? with
    | some (.own xs) => popGo σ i j xs m
    | _ => .bad
  | .aug i o e, σ, m => match σ[i]? with
    | some (.v (.dat d)) => (evE C e σ m).bind fun u m1 => augGo σ i o d u m1
    | _ => .bad
  | .expr e, σ, m => (evE C e σ m).bind fun _ m1 => .ok (.nx, σ) m1
  | .ife c t f, σ, m => ((evE C c σ m).bind asB).bind fun b m1 => if b = true then evSs L C t σ m1 else evSs L C f σ m1
  | .for_ tg it body, σ, m => (evI C it σ m).bind fun ds m1 => forGo (fun σ m => evSs L C body σ m) tg ds σ m1
  | .whl c body, σ, m => whlGo (fun σ m => evE C c σ m) (fun σ m => evSs L C body σ m) L σ m
  | .ret e, σ, m => (evE C e σ m).bind fun u m1 => .ok (.ret u, σ) m1
  | .retN, σ, m => .ok (.ret (.dat .none), σ) m
  | .brk, σ, m => .ok (.brk, σ) m
  | .cnt, σ, m => .ok (.cnt, σ) m
  | .pass, σ, m => .ok (.nx, σ) m
  | .raise c e, σ, m => (evE C e σ m).bind fun u m1 => .exc c u m1
  | .tryO md e k d, σ, m => tryOGo md k d σ (evE C e σ m)
  | .tryX md e i k hs, σ, m => tryGo md i k hs σ (evE C e σ m)
def evSs (L : Nat) (C : Calls) : Ss → Env → Mem → R (F × Env)
  | .nil, σ, m => .ok (.nx, σ) m
  | .cons s ss, σ, m => (evS L C s σ m).bind fun x m1 => match x.1 with
    | .nx => evSs L C ss x.2 m1
    | _ => .ok x m1
end

/-- a def: its name, how many parameters, its names by slot (parameters first), its body -/
structure FD where
  name : Str
  np : Nat
  N : List Str
  body : Ss
abbrev Prog := Nat → Option FD

def runFD (L : Nat) (C : Calls) (fd : FD) (us : List U) (m : Mem) : R U :=
  if us.length = fd.np then
    (evSs L C fd.body (us.map Sl.v ++ List.replicate (fd.N.length - us.length) .no) m).bind fun x m1 => match x.1 with
      | .ret u => .ok u m1
      | .nx => .ok (.dat .none) m1
      | _ => .bad
  else .bad
def callN (L : Nat) (P : Prog) : Nat → Calls
  | 0 => fun _ _ _ => .bad
  | n + 1 => fun f us m => match P f with
    | some fd => runFD L (callN L P n) fd us m
    | none => .bad
theorem callN_succ {L : Nat} {P : Prog} {n f : Nat} {fd : FD} {us : List U} {m : Mem} (h : P f = some fd) : callN L P (n + 1) f us m = runFD L (callN L P n) fd us m := by
  show (match P f with | some fd => runFD L (callN L P n) fd us m | none => .bad) = _
  rw [h]
end
end Eng

set_option Elab.async false
set_option linter.all false
set_option maxRecDepth 100000
/-! What the evaluator's state is in the abstract heap; how outcomes are handed on. -/
namespace Eng
open PySem PySem.Spec PyProof.Rows L2

def Sub (H H' : Hp) : Prop := ∀ a o, H a = some o → H' a = some o
theorem Sub.refl (H : Hp) : Sub H H := fun _ _ h => h
theorem Sub.trans {H H' H'' : Hp} (a : Sub H H') (b : Sub H' H'') : Sub H H'' := fun x o h => b x o (a x o h)
theorem Sub.new {H : Hp} {p : Addr} {o : HO} (h : H p = none) : Sub H (upd H p o) := fun b x e => by
  rw [upd_ne (ne_of_none e h)]; exact e
theorem Sub.none {H H' : Hp} (s : Sub H H') {p : Addr} (h : H' p = none) : H p = none := by
  cases e : H p with
  | none => rfl
  | some o => rw [s p o e] at h; cases h
end Eng
namespace L2
open PySem PySem.Spec PyProof.Rows Eng
section
variable {K : PySem.W.Frag} {H H' : Hp}
theorem SqL.mono (s : Sub H H') {a : Addr} {xs : List V} (h : SqL K H a xs) : SqL K H' a xs := by
  rcases h with (h | ⟨o, h⟩) | h
  · exact .inl (.inl (s _ _ h))
  · exact .inl (.inr ⟨o, s _ _ h⟩)
  · exact .inr h
theorem SqT.mono (s : Sub H H') {a : Addr} {xs : List V} (h : SqT K H a xs) : SqT K H' a xs := by
  rcases h with (h | ⟨o, h⟩) | h
  · exact .inl (.inl (s _ _ h))
  · exact .inl (.inr ⟨o, s _ _ h⟩)
  · exact .inr h
mutual
theorem Dp.mono (s : Sub H H') : ∀ (d : PyData) (v : V), Dp K H v d → Dp K H' v d
  | .none, _, h => by cases h; exact .non
  | .bool b, _, h => by cases h; exact .bl b
  | .int i, _, h => by cases h; exact .int i
  | .str x, _, h => by cases h; exact .str x
  | .list ds, _, h => by
    cases h with
    | lst hs ha => exact .lst (SqL.mono s hs) (DpAll.mono s ds _ ha)
  | .tuple ds, _, h => by
    cases h with
    | tup hs ha => exact .tup (SqT.mono s hs) (DpAll.mono s ds _ ha)
  | .dict _, _, h => by cases h
theorem DpAll.mono (s : Sub H H') : ∀ (ds : List PyData) (vs : List V), DpAll K H vs ds → DpAll K H' vs ds
  | [], _, h => by cases h; exact .nil
  | d :: ds, _, h => by
    cases h with
    | cons h1 h2 => exact .cons (Dp.mono s d _ h1) (DpAll.mono s ds _ h2)
end
theorem DicAt.mono (s : Sub H H') {es : List (NestedKey × Addr × Value)} {kvs : List (NestedKey × PyData)} (h : DicAt K H es kvs) : DicAt K H' es kvs :=
  Paired.mapP h fun _ _ ⟨h1, h2, h3, h4, h5, v, h6, h7⟩ => ⟨h1, h2, h3, h4, Dp.mono s _ _ h5, v, h6, Dp.mono s _ _ h7⟩
theorem DpAll.len : ∀ {ds : List PyData} {vs : List V}, DpAll K H vs ds → vs.length = ds.length
  | [], _, h => by cases h; rfl
  | d :: ds, _, h => by
    cases h with
    | cons h1 h2 => rw [List.length_cons, List.length_cons, DpAll.len h2]
theorem DpAll.get : ∀ {ds : List PyData} {vs : List V}, DpAll K H vs ds → ∀ {i : Nat} {d : PyData}, ds[i]? = some d → ∃ v, vs[i]? = some v ∧ Dp K H v d
  | [], _, h, i, d, e => by simp at e
  | x :: ds, _, h, i, d, e => by
    cases h with
    | cons h1 h2 =>
      cases i with
      | zero => simp at e; subst e; exact ⟨_, rfl, h1⟩
      | succ i => simp at e; obtain ⟨v, e', h'⟩ := DpAll.get h2 e; exact ⟨v, by simpa using e', h'⟩
theorem DpAll.app : ∀ {ds es : List PyData} {vs ws : List V}, DpAll K H vs ds → DpAll K H ws es → DpAll K H (vs ++ ws) (ds ++ es)
  | [], _, _, _, h, h' => by cases h; exact h'
  | _ :: _, _, _, _, h, h' => by
    cases h with
    | cons h1 h2 => exact .cons h1 (DpAll.app h2 h')
theorem DpAll.drop : ∀ {ds : List PyData} {vs : List V} (n : Nat), DpAll K H vs ds → DpAll K H (vs.drop n) (ds.drop n)
  | _, _, 0, h => h
  | [], _, n + 1, h => by cases h; exact .nil
  | _ :: _, _, n + 1, h => by
    cases h with
    | cons h1 h2 => exact DpAll.drop n h2
theorem DpAll.take : ∀ {ds : List PyData} {vs : List V} (n : Nat), DpAll K H vs ds → DpAll K H (vs.take n) (ds.take n)
  | _, _, 0, h => .nil
  | [], _, n + 1, h => by cases h; exact .nil
  | _ :: _, _, n + 1, h => by
    cases h with
    | cons h1 h2 => exact .cons h1 (DpAll.take n h2)
theorem DpAll.set : ∀ {ds : List PyData} {vs : List V} {d : PyData} {v : V} (n : Nat), DpAll K H vs ds → Dp K H v d → DpAll K H (vs.set n v) (ds.set n d)
  | [], _, _, _, n, h, _ => by cases h; exact .nil
  | _ :: _, _, _, _, 0, h, h' => by
    cases h with
    | cons h1 h2 => exact .cons h' h2
  | _ :: _, _, _, _, n + 1, h, h' => by
    cases h with
    | cons h1 h2 => exact .cons h1 (DpAll.set n h2 h')
theorem DpAll.ints : ∀ {ns : List Int} {ds : List PyData} {vs : List V}, DpAll K H vs ds → asInts ds = some ns → vs = ns.map V.int
  | ns, [], _, h, e => by cases h; simp [asInts] at e; subst e; rfl
  | ns, d :: ds, _, h, e => by
    cases h with
    | cons h1 h2 =>
      cases d with
      | int i =>
        cases h1
        simp only [asInts, Option.map_eq_some_iff] at e
        obtain ⟨r, e, rfl⟩ := e
        rw [DpAll.ints h2 e]; rfl
      | _ => simp [asInts] at e
theorem DpAll.bools : ∀ {ns : List Bool} {ds : List PyData} {vs : List V}, DpAll K H vs ds → asBools ds = some ns → vs = ns.map V.bl
  | ns, [], _, h, e => by cases h; simp [asBools] at e; subst e; rfl
  | ns, d :: ds, _, h, e => by
    cases h with
    | cons h1 h2 =>
      cases d with
      | bool i =>
        cases h1
        simp only [asBools, Option.map_eq_some_iff] at e
        obtain ⟨r, e, rfl⟩ := e
        rw [DpAll.bools h2 e]; rfl
      | _ => simp [asBools] at e
end

end L2
namespace Eng
open PySem PySem.Spec PyProof.Rows L2
/-! ### sizes -/
theorem szAll_iff {ds : List PyData} : szAll ds = true ↔ ∀ d ∈ ds, szOk d = true := by
  induction ds with
  | nil => simp [szAll]
  | cons d ds ih => simp [szAll, ih]
theorem sz_list {ds : List PyData} : szOk (.list ds) = true ↔ ds.length ≤ sizeLine ∧ szAll ds = true := by simp [szOk]
theorem sz_tuple {ds : List PyData} : szOk (.tuple ds) = true ↔ ds.length ≤ sizeLine ∧ szAll ds = true := by simp [szOk]
mutual
theorem noDict_of_sz : ∀ d : PyData, szOk d = true → d.hasDict = false
  | .none, _ => by simp only [PyData.hasDict]
  | .bool _, _ => by simp only [PyData.hasDict]
  | .int _, _ => by simp only [PyData.hasDict]
  | .str x, h => by simp only [PyData.hasDict]
  | .list xs, h => by simp only [szOk, Bool.and_eq_true] at h; simp only [PyData.hasDict]; exact noDictAll_of_sz xs h.2
  | .tuple xs, h => by simp only [szOk, Bool.and_eq_true] at h; simp only [PyData.hasDict]; exact noDictAll_of_sz xs h.2
  | .dict _, h => by simp [szOk] at h
theorem noDictAll_of_sz : ∀ ds : List PyData, szAll ds = true → PyData.hasDictAll ds = false
  | [], _ => by simp only [PyData.hasDictAll]
  | d :: ds, h => by
    simp only [szAll, Bool.and_eq_true] at h
    simp only [PyData.hasDictAll, Bool.or_eq_false_iff]
    exact ⟨noDict_of_sz d h.1, noDictAll_of_sz ds h.2⟩
end

/-! ### the state -/
/-- a value of ours, in the abstract heap: data in the part that stays -/
def RepU (K : PySem.W.Frag) (Hf : Hp) (ρ : List Addr) (v : V) : U → Prop
  | .dat d => Dp K Hf v d ∧ szOk d = true
  | .ref i => ∃ a, ρ[i]? = some a ∧ v = .ref a
/-- .. that is only read: perhaps a list of a name's own -/
def RepB (K : PySem.W.Frag) (H Hf : Hp) (ρ : List Addr) (v : V) (u : U) : Prop :=
  RepU K Hf ρ v u ∨ ∃ p vs xs, u = .dat (.list xs) ∧ v = .ref p ∧ H p = some (.lst vs) ∧ Hf p = none ∧ p ∉ ρ ∧ DpAll K Hf vs xs ∧ szOk (.list xs) = true
/-- the name of a lambda that the def x makes -/
def lamQ (x : Str) : Str := (envOfC x default 0 0 .none).qual ++ "<lambda>"
def MAt (K : PySem.W.Frag) (H Hf : Hp) (ρ : List Addr) (a : Addr) : MObj → Prop
  | .lst xs => ∃ vs, H a = some (.lst vs) ∧ DpAll K Hf vs xs ∧ szOk (.list xs) = true
  | .dct kvs => ∃ es, H a = some (.ext (DicPhi a es)) ∧ DicAt K Hf es kvs ∧ (es.map (·.1)).Nodup ∧ kvs.length ≤ sizeLine ∧ (∀ p ∈ kvs, szOk p.2 = true ∧ szOk p.1.data = true) ∧ (a == sysModules) = false
  | .kd kvs => ∃ ws, H a = some (.dK ws) ∧ KdAt K Hf ws kvs ∧ ∀ p ∈ kvs, szOk p.2 = true
  | .refs ks => ∃ as : List Addr, H a = some (.lst (as.map V.ref)) ∧ (∀ (j k : Nat), ks[j]? = some k → ∃ b, as[j]? = some b ∧ ρ[k]? = some b) ∧ as.length = ks.length
  | .tab x => (∃ c, PySem.W.tabIn K x = some (c, a)) ∧ ∃ ps : Array Value, H a = some (.tbl ps) ∧ TriplesOk ps.toList ∧ ∀ (pos : Pos) (cv : Value), codeAmong pos ps.toList = some cv → ∃ c, cv = .ref c ∧ Hf c = some (LamX.CodeO c (lamQ x))
structure Fine (K : PySem.W.Frag) (H Hf : Hp) (ρ : List Addr) (m : Mem) : Prop where
  sub : Sub Hf H
  nd : ρ.Nodup
  un : ∀ a ∈ ρ, Hf a = none
  len : ρ.length = m.length
  at_ : ∀ (i : Nat) (a : Addr) (o : MObj), ρ[i]? = some a → m[i]? = some o → MAt K H Hf ρ a o
structure Slots (K : PySem.W.Frag) (H Hf : Hp) (ρ : List Addr) (ω : Nat → Addr) (σ : L2.St) (env : Env) : Prop where
  len : σ.length = env.length
  val : ∀ (i : Nat) (u : U), env[i]? = some (.v u) → ∃ v, σ[i]? = some (some v) ∧ RepU K Hf ρ v u
  own : ∀ (i : Nat) (xs : List PyData), env[i]? = some (.own xs) → σ[i]? = some (some (.ref (ω i))) ∧ Hf (ω i) = none ∧ ω i ∉ ρ ∧ (∃ vs, H (ω i) = some (.lst vs) ∧ DpAll K Hf vs xs) ∧ szOk (.list xs) = true
  inj : ∀ (i j : Nat) (xs ys : List PyData), env[i]? = some (.own xs) → env[j]? = some (.own ys) → ω i = ω j → i = j
/-- what an evaluation leaves as it was -/
structure Pres (H Hf : Hp) (ρ : List Addr) (H' Hf' : Hp) (ρ' : List Addr) : Prop where
  fz : Sub Hf Hf'
  pre : ∃ t, ρ' = ρ ++ t
  kp : ∀ a o, H a = some o → Hf a = none → a ∉ ρ → H' a = some o ∧ Hf' a = none ∧ a ∉ ρ'
theorem Pres.refl (H Hf : Hp) (ρ : List Addr) : Pres H Hf ρ H Hf ρ := ⟨Sub.refl _, ⟨[], by simp⟩, fun _ _ h h1 h2 => ⟨h, h1, h2⟩⟩
theorem Pres.trans {H Hf H1 Hf1 H2 Hf2 : Hp} {ρ ρ1 ρ2 : List Addr} (a : Pres H Hf ρ H1 Hf1 ρ1) (b : Pres H1 Hf1 ρ1 H2 Hf2 ρ2) : Pres H Hf ρ H2 Hf2 ρ2 := by
  refine ⟨a.fz.trans b.fz, ?_, fun x o h h1 h2 => ?_⟩
  · obtain ⟨t, e⟩ := a.pre
    obtain ⟨t', e'⟩ := b.pre
    exact ⟨t ++ t', by rw [e', e, List.append_assoc]⟩
  · obtain ⟨q, q1, q2⟩ := a.kp x o h h1 h2
    exact b.kp x o q q1 q2
section
variable {K : PySem.W.Frag} {H Hf H' Hf' : Hp} {ρ ρ' : List Addr} {m m' : Mem} {ω : Nat → Addr} {σ : L2.St} {env : Env}
theorem RepU.pres {v : V} {u : U} (p : Pres H Hf ρ H' Hf' ρ') (r : RepU K Hf ρ v u) : RepU K Hf' ρ' v u := by
  cases u with
  | dat d => exact ⟨Dp.mono p.fz _ _ r.1, r.2⟩
  | ref i =>
    obtain ⟨a, e, rfl⟩ := r
    obtain ⟨t, e'⟩ := p.pre
    refine ⟨a, ?_, rfl⟩
    rw [e', List.getElem?_append_left (List.getElem?_eq_some_iff.mp e).1]; exact e
theorem RepB.pres {v : V} {u : U} (p : Pres H Hf ρ H' Hf' ρ') (r : RepB K H Hf ρ v u) : RepB K H' Hf' ρ' v u := by
  rcases r with r | ⟨q, vs, xs, rfl, rfl, h, h1, h2, ha, hz⟩
  · exact .inl (r.pres p)
  · obtain ⟨e, e1, e2⟩ := p.kp _ _ h h1 h2
    exact .inr ⟨q, vs, xs, rfl, rfl, e, e1, e2, DpAll.mono p.fz _ _ ha, hz⟩
theorem Slots.pres (p : Pres H Hf ρ H' Hf' ρ') (s : Slots K H Hf ρ ω σ env) : Slots K H' Hf' ρ' ω σ env := by
  refine ⟨s.len, fun i u e => ?_, fun i xs e => ?_, s.inj⟩
  · obtain ⟨v, h, r⟩ := s.val i u e
    exact ⟨v, h, r.pres p⟩
  · obtain ⟨h, h1, h2, ⟨vs, h3, h4⟩, h5⟩ := s.own i xs e
    obtain ⟨e, e1, e2⟩ := p.kp _ _ h3 h1 h2
    exact ⟨h, e1, e2, ⟨vs, e, DpAll.mono p.fz _ _ h4⟩, h5⟩
/-- a new object that stays -/
theorem Pres.new {p : Addr} {o : HO} (h : H p = none) (hs : Sub Hf H) : Pres H Hf ρ (upd H p o) (upd Hf p o) ρ :=
  ⟨Sub.new (hs.none h), ⟨[], by simp⟩, fun a x e e1 e2 => ⟨Sub.new h _ _ e, by rw [upd_ne (ne_of_none e h)]; exact e1, e2⟩⟩
/-- a new object that is free -/
theorem Pres.fresh {p : Addr} {o : HO} (h : H p = none) : Pres H Hf ρ (upd H p o) Hf ρ :=
  ⟨Sub.refl _, ⟨[], by simp⟩, fun a x e e1 e2 => ⟨Sub.new h _ _ e, e1, e2⟩⟩
theorem KdAt.mono {K : PySem.W.Frag} {H H' : Hp} (s : Sub H H') : ∀ {ws : List (Key × V)} {kvs : List (Int × PyData)}, KdAt K H ws kvs → KdAt K H' ws kvs
  | [], [], h => h
  | p :: ws, q :: kvs, h => ⟨h.1, Dp.mono s _ _ h.2.1, KdAt.mono s h.2.2⟩
  | [], _ :: _, h => h.elim
  | _ :: _, [], h => h.elim
theorem MAt.grow {a : Addr} {o : MObj} (hs : ∀ x, H a = some x → H' a = some x) (hf : Sub Hf Hf') (h : MAt K H Hf ρ a o) (hp : ∃ t, ρ' = ρ ++ t := by exact ⟨[], (List.append_nil _).symm⟩) : MAt K H' Hf' ρ' a o := by
  cases o with
  | refs ks =>
    obtain ⟨as, e, h1, h2⟩ := h
    obtain ⟨t, rfl⟩ := hp
    exact ⟨as, hs _ e, fun j k q => let ⟨b, e1, e2⟩ := h1 j k q; ⟨b, e1, by rw [List.getElem?_append_left (List.getElem?_eq_some_iff.mp e2).1]; exact e2⟩, h2⟩
  | lst xs => obtain ⟨vs, e, ha, hz⟩ := h; exact ⟨vs, hs _ e, DpAll.mono hf _ _ ha, hz⟩
  | dct kvs => obtain ⟨es, e, ha, hz⟩ := h; exact ⟨es, hs _ e, DicAt.mono hf ha, hz⟩
  | kd kvs => obtain ⟨es, e, ha, hz⟩ := h; exact ⟨es, hs _ e, KdAt.mono hf ha, hz⟩
  | tab x => obtain ⟨h0, ps, e, ht, hc⟩ := h; exact ⟨h0, ps, hs _ e, ht, fun pos cv q => let ⟨c, e1, e2⟩ := hc pos cv q; ⟨c, e1, hf _ _ e2⟩⟩
theorem Fine.tracked (f : Fine K H Hf ρ m) {a : Addr} (h : a ∈ ρ) : ∃ o, H a = some o := by
  obtain ⟨i, hi, e⟩ := List.mem_iff_getElem.mp h
  have hm : i < m.length := by rw [← f.len]; exact hi
  have q := f.at_ i a m[i] (by rw [List.getElem?_eq_getElem hi, e]) (List.getElem?_eq_getElem hm)
  cases ho : m[i] with
  | lst xs => rw [ho] at q; obtain ⟨vs, e, _⟩ := q; exact ⟨_, e⟩
  | dct kvs => rw [ho] at q; obtain ⟨vs, e, _⟩ := q; exact ⟨_, e⟩
  | kd kvs => rw [ho] at q; obtain ⟨vs, e, _⟩ := q; exact ⟨_, e⟩
  | refs ks => rw [ho] at q; obtain ⟨vs, e, _⟩ := q; exact ⟨_, e⟩
  | tab x => rw [ho] at q; obtain ⟨_, ps, e, _⟩ := q; exact ⟨_, e⟩
theorem Fine.new {p : Addr} {o : HO} (f : Fine K H Hf ρ m) (h : H p = none) : Fine K (upd H p o) (upd Hf p o) ρ m := by
  refine ⟨fun b x e => ?_, f.nd, fun a ha => ?_, f.len, fun i a ob e1 e2 => (f.at_ i a ob e1 e2).grow (fun x e => Sub.new h _ _ e) (Sub.new (f.sub.none h))⟩
  · by_cases hb : b = p
    · subst hb; rw [upd_same] at e ⊢; exact e
    · rw [upd_ne hb] at e ⊢; exact f.sub _ _ e
  · obtain ⟨x, e⟩ := f.tracked ha
    rw [upd_ne (ne_of_none e h)]; exact f.un a ha
theorem Fine.fresh {p : Addr} {o : HO} (f : Fine K H Hf ρ m) (h : H p = none) : Fine K (upd H p o) Hf ρ m :=
  ⟨fun b x e => Sub.new h _ _ (f.sub _ _ e), f.nd, f.un, f.len, fun i a ob e1 e2 => (f.at_ i a ob e1 e2).grow (fun x e => Sub.new h _ _ e) (Sub.refl _)⟩
/-- a free object is frozen -/
theorem Fine.freeze {p : Addr} {o : HO} (f : Fine K H Hf ρ m) (h : H p = some o) (h1 : Hf p = none) (h2 : p ∉ ρ) : Fine K H (upd Hf p o) ρ m := by
  refine ⟨fun b x e => ?_, f.nd, fun a ha => ?_, f.len, fun i a ob e1 e2 => (f.at_ i a ob e1 e2).grow (fun x e => e) (Sub.new h1)⟩
  · by_cases hb : b = p
    · subst hb; rw [upd_same] at e; rw [h]; exact e
    · rw [upd_ne hb] at e; exact f.sub _ _ e
  · rw [upd_ne (fun (z : a = p) => h2 (by rw [← z]; exact ha))]; exact f.un a ha
/-- .. a new object, free in the middle, frozen at the end -/
theorem Pres.frozen {p : Addr} {o : HO} (P : Pres H Hf ρ H' Hf' ρ') (hn : H p = none) (h1 : Hf' p = none) : Pres H Hf ρ H' (upd Hf' p o) ρ' :=
  ⟨P.fz.trans (Sub.new h1), P.pre, fun a x e e1 e2 => by
    obtain ⟨q, q1, q2⟩ := P.kp a x e e1 e2
    exact ⟨q, by rw [upd_ne (ne_of_none e hn)]; exact q1, q2⟩⟩
end

/-! ### outcomes -/
abbrev XRel := Hp → Hp → List Addr → Nat → U → Value → Option Addr → Prop
/-- how an outcome of ours is met: β the machine's, α ours -/
def OutE {α β : Type} (K : PySem.W.Frag) (XR : XRel) (W : WX) (σ : L2.St) (H Hf : Hp) (ρ : List Addr) (Rp : Hp → Hp → List Addr → β → α → Prop) (r : R α) (Q : β → Hp → Prop) : Prop :=
  match r with
  | .ok u m' => ∀ v H' Hf' ρ', Pres H Hf ρ H' Hf' ρ' → Fine K H' Hf' ρ' m' → Rp H' Hf' ρ' v u → Q v H'
  | .exc c x m' => ∀ cls d H' Hf' ρ', Pres H Hf ρ H' Hf' ρ' → Fine K H' Hf' ρ' m' → XR H' Hf' ρ' c x cls d → W cls d σ H'
  | .bad => False
structure At (K : PySem.W.Frag) (H : Hp) (σ : L2.St) (Hf : Hp) (ρ : List Addr) (ω : Nat → Addr) (env : Env) (m : Mem) : Prop where
  fine : Fine K H Hf ρ m
  slots : Slots K H Hf ρ ω σ env
section
variable {α α' β β' : Type} {K : PySem.W.Frag} {XR : XRel} {W : WX} {σ : L2.St} {H Hf : Hp} {ρ : List Addr} {Rp : Hp → Hp → List Addr → β → α → Prop} {Rp' : Hp → Hp → List Addr → β' → α' → Prop} {Q : β → Hp → Prop} {Q' : β' → Hp → Prop}
theorem OutE.mono {r : R α} {Q2 : β → Hp → Prop} (h : OutE K XR W σ H Hf ρ Rp r Q) (hq : ∀ v H', Q v H' → Q2 v H') : OutE K XR W σ H Hf ρ Rp r Q2 := by
  cases r with
  | ok u m' => exact fun v H' Hf' ρ' p f r => hq _ _ (h v H' Hf' ρ' p f r)
  | exc c x m' => exact h
  | bad => exact h
theorem OutE.rel {r : R α} {Rp2 : Hp → Hp → List Addr → β → α → Prop} (h : OutE K XR W σ H Hf ρ Rp r Q) (hr : ∀ H' Hf' ρ' v u, Rp2 H' Hf' ρ' v u → Rp H' Hf' ρ' v u) : OutE K XR W σ H Hf ρ Rp2 r Q := by
  cases r with
  | ok u m' => exact fun v H' Hf' ρ' p f r => h v H' Hf' ρ' p f (hr _ _ _ _ _ r)
  | exc c x m' => exact h
  | bad => exact h
theorem OutE.pres {r : R α} {H1 Hf1 : Hp} {ρ1 : List Addr} (p : Pres H Hf ρ H1 Hf1 ρ1) (h : OutE K XR W σ H Hf ρ Rp r Q) : OutE K XR W σ H1 Hf1 ρ1 Rp r Q := by
  cases r with
  | ok u m' => exact fun v H' Hf' ρ' p' f r => h v H' Hf' ρ' (p.trans p') f r
  | exc c x m' => exact fun cls d H' Hf' ρ' p' f r => h cls d H' Hf' ρ' (p.trans p') f r
  | bad => exact h
/-- THE STEP: the first part's outcome, then the rest's -/
theorem OutE.bind {r : R α'} {k : α' → Mem → R α} (h : OutE K XR W σ H Hf ρ Rp (r.bind k) Q) :
    OutE K XR W σ H Hf ρ Rp' r fun v H1 => ∃ u Hf1 ρ1 m1, Pres H Hf ρ H1 Hf1 ρ1 ∧ Fine K H1 Hf1 ρ1 m1 ∧ Rp' H1 Hf1 ρ1 v u ∧ OutE K XR W σ H1 Hf1 ρ1 Rp (k u m1) Q := by
  cases r with
  | ok u m' => exact fun v H' Hf' ρ' p f r => ⟨u, Hf', ρ', m', p, f, r, OutE.pres p h⟩
  | exc c x m' => exact h
  | bad => exact h
theorem At.pres {H1 Hf1 : Hp} {ρ1 : List Addr} {ω : Nat → Addr} {env : Env} {m m1 : Mem} (a : At K H σ Hf ρ ω env m) (p : Pres H Hf ρ H1 Hf1 ρ1) (f : Fine K H1 Hf1 ρ1 m1) : At K H1 σ Hf1 ρ1 ω env m1 :=
  ⟨f, a.slots.pres p⟩
end
/-- the reading of a part that is evaluated to an α -/
def tR {α β : Type} (K : PySem.W.Frag) (XR : XRel) (W : WX) (Rp : Hp → Hp → List Addr → β → α → Prop) (f : Env → Mem → R α) : L2.St → Hp → (β → Hp → Prop) → Prop :=
  fun σ H Q => ∃ Hf ρ ω env m, At K H σ Hf ρ ω env m ∧ OutE K XR W σ H Hf ρ Rp (f env m) Q
abbrev RU (K : PySem.W.Frag) : Hp → Hp → List Addr → V → U → Prop := fun _ Hf ρ v u => RepU K Hf ρ v u
abbrev RB (K : PySem.W.Frag) : Hp → Hp → List Addr → V → U → Prop := fun H Hf ρ v u => RepB K H Hf ρ v u
abbrev RBool : Hp → Hp → List Addr → Bool → U → Prop := fun _ _ _ b u => u = .dat (.bool b)
def RUs (K : PySem.W.Frag) (Hf : Hp) (ρ : List Addr) : List V → List U → Prop
  | [], [] => True
  | v :: vs, u :: us => RepU K Hf ρ v u ∧ RUs K Hf ρ vs us
  | _, _ => False
theorem RUs.pres {K : PySem.W.Frag} {H Hf H' Hf' : Hp} {ρ ρ' : List Addr} (p : Pres H Hf ρ H' Hf' ρ') : ∀ {vs : List V} {us : List U}, RUs K Hf ρ vs us → RUs K Hf' ρ' vs us
  | [], [], _ => trivial
  | _ :: _, _ :: _, h => ⟨h.1.pres p, RUs.pres p h.2⟩
  | [], _ :: _, h => h.elim
  | _ :: _, [], h => h.elim
theorem RUs.len {K : PySem.W.Frag} {Hf : Hp} {ρ : List Addr} : ∀ {vs : List V} {us : List U}, RUs K Hf ρ vs us → vs.length = us.length
  | [], [], _ => rfl
  | _ :: _, _ :: _, h => by rw [List.length_cons, List.length_cons, RUs.len h.2]
  | [], _ :: _, h => h.elim
  | _ :: _, [], h => h.elim
theorem RUs.dats {K : PySem.W.Frag} {Hf : Hp} {ρ : List Addr} : ∀ {vs : List V} {us : List U} {ds : List PyData}, RUs K Hf ρ vs us → datL us = some ds → DpAll K Hf vs ds ∧ szAll ds = true
  | [], [], ds, _, e => by simp [datL] at e; subst e; exact ⟨.nil, rfl⟩
  | v :: vs, .dat d :: us, ds, h, e => by
    simp only [datL, Option.map_eq_some_iff] at e
    obtain ⟨r, e, rfl⟩ := e
    obtain ⟨h1, h2⟩ := RUs.dats h.2 e
    exact ⟨.cons h.1.1 h1, by simp only [szAll, Bool.and_eq_true]; exact ⟨h.1.2, h2⟩⟩
  | v :: vs, .ref d :: us, ds, h, e => by simp [datL] at e
  | [], _ :: _, _, h, _ => h.elim
  | _ :: _, [], _, h, _ => h.elim
abbrev RL (K : PySem.W.Frag) : Hp → Hp → List Addr → List V → List U → Prop := fun _ Hf ρ v u => RUs K Hf ρ v u
end Eng

set_option Elab.async false
set_option linter.all false
set_option maxRecDepth 100000
/-! Calls with the guards known; the check of a text against the small language. -/
namespace Eng
open PySem PySem.Spec PyProof.Rows L2

/-! ### defs, called where no repr is under way -/
structure FnG (P : Program) (w : World) (K : PySem.W.Frag) (mg : Str → Option Value) (base : Heap) (k : Nat) (f : Addr) (fd : FuncData) (ps : List Str) (sp : Sp) : Prop where
  len : ∀ vs H Q E, sp vs H Q E → vs.length = ps.length
  run : ∀ (A : Around) (outer : List PySem.Env) (s : Shared) (H : Hp) (args : Args) (us : List Value) (vs : List V) (Q : VK) (E : XK), Room k A → A.guards = some [] → Env0 P w K mg base A outer s H → BindsTo s fd args (ps.zip us) → Vals vs us → sp vs H Q E →
    codeAny (model P w) A (.call (.ref f) args) (CR (L2.CX P w) outer P w H s Q E) s
theorem fnG_of {P : Program} {w : World} {K : PySem.W.Frag} {mg : Str → Option Value} {base : Heap} {k : Nat} {f : Addr} {name qual : Str} {params : Arguments} {body : List Stmt} {scope : Scope} {dV kV doc pm cdv ct oc : Value} {an od : Option Addr}
    {osl : Array (Option Value)} {N ps : List Str} {sp : Sp} (lk : K.lookup f = some ⟨oc, od, .func (PySem.W.fnOf name qual params body scope dV kV doc pm an cdv ct), osl⟩) (hcd : PySem.W.codeIn K cdv qual = true) (S : FnScope N ps scope)
    (len : ∀ vs H Q E, sp vs H Q E → vs.length = ps.length)
    (hbody : ∀ (A : Around) (outer : List PySem.Env) (s : Shared) (H : Hp) (vs : List V) (Q : VK) (E : XK), Room k (A.deeper (envOfC qual scope s.heap.objs.size f cdv)) → A.guards = some [] → sp vs H Q E →
      ∃ t, PSs (cxOf (L2.CX P w) P w K mg base N qual scope f cdv A outer s H E) body t ∧ t { nx := fun _ H' => Q .non H', rt := Q } (start N vs) H) :
    FnG P w K mg base (k + 1) f (PySem.W.fnOf name qual params body scope dV kV doc pm an cdv ct) ps sp := by
  refine ⟨len, fun A outer s H args us vs Q E hr hg e0 hb r hsp => ?_⟩
  have hl := len _ _ _ _ hsp
  have KX : K.In s.heap := e0.mod.kin.keeps fun b o e => (e0.bs b o e).1
  have lim : s.heap.NoLimit := e0.mod.nolimit.keeps fun b o e => (e0.bs b o e).1
  have hkind : ∀ y ∈ ps.zip us, scope.names.lookup y.1 = some .local ∨ (scope.names.lookup y.1 = some .cell ∧ ((cellsFrom (s.heap.objs.size + 1) scope.names []).lookup y.1).isSome = true) := fun ⟨n, v⟩ hy => by
    rcases S.par n (List.of_mem_zip hy).1 with q | q
    · exact .inl q
    · exact .inr ⟨q, PySem.W.cellsFrom_some _ _ _ (.inl q)⟩
  refine codeAny_call_function hr.depth (KX _ _ lk) rfl S.co S.gen rfl (PySem.W.codeRec_of KX hcd) (hb _ _ _ _ ?_)
  refine wpAny_newFunctionEnv_cells S.kind hkind fun env he s1 x => ?_
  subst he
  refine ⟨lim.keeps x.toInCall.keep, codeAny_func ?_⟩
  obtain ⟨t, ht, hq⟩ := hbody A outer s H vs Q E (hr.deeper _) hg hsp
  have I : Inv (cxOf (L2.CX P w) P w K mg base N qual scope f cdv A outer s H E) [] (start N vs) H s1 := inv_start S hr.hd e0 hl r x
  refine wpAny_mono (ht.run [] s1 (start N vs) H _ I hq) (fun fl s' hs => ?_) fun e s' hs => hs
  have fin : ∀ {σ' : L2.St} {H' : Hp} {v : V} {u : Value}, Inv (cxOf (L2.CX P w) P w K mg base N qual scope f cdv A outer s H E) [] σ' H' s' → RelV v u → Q v H' → CE outer P w H s Q u s' :=
    fun {σ' H' v u} J rv q => ⟨v, H', J.os, J.bare, J.base, J.hok, rv, q⟩
  cases fl with
  | ret u =>
    obtain ⟨v, σ', H', J, rv, q⟩ := hs
    exact fin J rv q
  | next =>
    obtain ⟨σ', H', J, q⟩ := hs
    exact fin (v := V.non) (u := Value.none) J rfl q
  | brk =>
    obtain ⟨_, _, _, q⟩ := hs
    exact False.elim q
  | cont =>
    obtain ⟨_, _, _, q⟩ := hs
    exact False.elim q
section
variable {X : Cx} {k : Nat} {f : Addr} {fd : FuncData} {ps : List Str} {sp : Sp} {W : WX} {x : Str} {p pos : Pos} {e : Expr} {es : List Expr} {t : TA}
theorem run_fnG {pins : List (Addr × Obj)} {σ : L2.St} {H : Hp} {s : Shared} {Q : VK} {us : List Value} {vs : List V} (F : FnG X.prog X.w X.K X.mg X.base k f fd ps sp) (hr : Room k X.A) (hgd : X.A.guards = some []) (hb : Binds X.K fd ps []) (tk : Takes X W)
    (I : Inv X pins σ H s) (r : Vals vs us) (h : sp vs H Q (WE W σ)) : wpAny (model X.prog X.w) X.A (call (.ref f) us) (EP X pins σ Q) X.xe s := by
  have hl : us.length = ps.length := by rw [← r.length]; exact F.len _ _ _ _ h
  have b := hb s us I.kIn (by rw [List.append_nil]; exact hl)
  rw [List.append_nil] at b
  refine wpAny_call (codeAny_mono (F.run X.A X.stack s H ⟨us, []⟩ us vs Q (WE W σ) hr hgd I.env0 b r h) fun r s' hq => ?_)
  cases r with
  | error e => exact passAt tk σ pins H s e s' I hq
  | ok fl =>
    cases fl with
    | ret u => exact I.after hq
    | next => exact False.elim hq
    | brk => exact False.elim hq
    | cont => exact False.elim hq
theorem star_any {es : List Expr} {env : PySem.Env} {pos : Pos} (h : (starEach es env).any (·.1) = false) : (backTo pos (starEach es env)).any (·.1) = false := by
  rw [← h]; unfold backTo; rw [List.any_map]; rfl
theorem pe_callG (F : FnG X.prog X.w X.K X.mg X.base k f fd ps sp) (hr : Room k X.A) (hgd : X.A.guards = some []) (hg : Gl X x) (hm : X.mg x = some (.ref f)) (hk : PySem.W.keepIn X.K (.ref f) = true) (hb : Binds X.K fd ps []) (tk : Takes X W)
    (ha : PA X (e :: es) t) (hdb : (x == ("__debug__" : Str)) = false) (he : starEach (e :: es) X.env = (false, eval e X.env) :: starEach es X.env) (hpl : (starEach es X.env).any (·.1) = false) :
    PE X (.Call (.Name x p) (e :: es) [] pos) (tCallS sp (WE W) t) := by
  refine ⟨fun pins s σ H Q I h => ?_⟩
  refine wpAny_Call_Name_kw (ld_glob I hg hm ?_ hdb)
  refine PySem.W.callWith_K (h₀ := X.base) I.ok.mod.kin hk (thn (ha.run pos pins s σ H _ I h) fun us s1 ⟨vs, H1, I1, r, q⟩ => ⟨I1.kIn, ?_⟩) he (star_any hpl)
  exact run_fnG F hr hgd hb tk I1 r q
theorem pe_callG0 (F : FnG X.prog X.w X.K X.mg X.base k f fd ps sp) (hr : Room k X.A) (hgd : X.A.guards = some []) (hg : Gl X x) (hm : X.mg x = some (.ref f)) (hk : PySem.W.keepIn X.K (.ref f) = true) (hb : Binds X.K fd ps []) (tk : Takes X W)
    (hdb : (x == ("__debug__" : Str)) = false) :
    PE X (.Call (.Name x p) [] [] pos) (tCallS sp (WE W) tNil) := by
  refine ⟨fun pins s σ H Q I h => ?_⟩
  refine wpAny_Call_Name_kw (ld_glob I hg hm ?_ hdb)
  exact PySem.W.callWith_K0 I.kIn hk (run_fnG (us := []) F hr hgd hb tk I .nil h)
/-- how a call with keywords binds: na positional, then ks; perm: the place of each parameter among them -/
def KB (fd : FuncData) (ps : List Str) (na : Nat) (ks : List Str) (perm : List Nat) : Prop :=
  ∀ us : List Value, us.length = na + ks.length → ∃ ws, perm.mapM (fun i => us[i]?) = some ws ∧ ws.length = ps.length ∧ bindArgs fd ⟨us.take na, ks.zip (us.drop na)⟩ = pure (ps.zip ws)
theorem vals_mapM {vs : List V} {us : List Value} (r : Vals vs us) : ∀ {perm : List Nat} {ws : List Value}, perm.mapM (fun i => us[i]?) = some ws → ∃ zs, perm.mapM (fun i => vs[i]?) = some zs ∧ Vals zs ws
  | [], ws, h => by simp at h; subst h; exact ⟨[], rfl, .nil⟩
  | i :: perm, ws, h => by
    rw [List.mapM_cons] at h
    cases e : us[i]? with
    | none => rw [e] at h; cases h
    | some u =>
      rw [e] at h
      cases e2 : perm.mapM (fun i => us[i]?) with
      | none => rw [e2] at h; cases h
      | some r2 =>
        rw [e2] at h; cases h
        obtain ⟨zs, e3, r3⟩ := vals_mapM r e2
        have hi : i < vs.length := by rw [r.length]; exact (List.getElem?_eq_some_iff.mp e).1
        obtain ⟨u', e4, r4⟩ := r.get (List.getElem?_eq_getElem hi)
        rw [e] at e4; cases e4
        refine ⟨vs[i] :: zs, ?_, .cons r4 r3⟩
        rw [List.mapM_cons, List.getElem?_eq_getElem hi, e3]; rfl
theorem vals_split {vs : List V} {us : List Value} {zs : List V} {ws : List Value} (r : Vals vs us) (r2 : Vals zs ws) : Vals (vs ++ zs) (us ++ ws) := r.append r2
theorem run_fnGK {pins : List (Addr × Obj)} {σ : L2.St} {H : Hp} {s : Shared} {Q : VK} {us ws : List Value} {vs zs vs' : List V} {na : Nat} {ks : List Str} {perm : List Nat} (F : FnG X.prog X.w X.K X.mg X.base k f fd ps sp) (hr : Room k X.A) (hgd : X.A.guards = some []) (hb : KB fd ps na ks perm) (tk : Takes X W)
    (I : Inv X pins σ H s) (r : Vals vs us) (rz : Vals zs ws) (hna : us.length = na) (hks : ws.length = ks.length) (hp : perm.mapM (fun i => (vs ++ zs)[i]?) = some vs') (h : sp vs' H Q (WE W σ)) : wpAny (model X.prog X.w) X.A (call (.ref f) us (ks.zip ws)) (EP X pins σ Q) X.xe s := by
  obtain ⟨ws', e1, e2, e3⟩ := hb (us ++ ws) (by rw [List.length_append, hna, hks])
  rw [List.take_append_of_le_length (by omega), List.take_of_length_le (by omega), List.drop_append_of_le_length (by omega), List.drop_of_length_le (by omega), List.nil_append] at e3
  obtain ⟨zs', e4, r4⟩ := vals_mapM (vals_split r rz) e1
  rw [hp] at e4; cases e4
  refine wpAny_call (codeAny_mono (F.run X.A X.stack s H ⟨us, ks.zip ws⟩ ws' vs' Q (WE W σ) hr hgd I.env0 (.of_eq e3) r4 h) fun r s' hq => ?_)
  cases r with
  | error e => exact passAt tk σ pins H s e s' I hq
  | ok fl =>
    cases fl with
    | ret u => exact I.after hq
    | next => exact False.elim hq
    | brk => exact False.elim hq
    | cont => exact False.elim hq
def tCallGK (sp : Sp) (na : Nat) (ks : List Str) (perm : List Nat) (E : L2.St → XK) (t tk : TA) : TE := fun σ H Q => t σ H fun vs H1 => tk σ H1 fun zs H2 => vs.length = na ∧ zs.length = ks.length ∧ ∃ vs', perm.mapM (fun i => (vs ++ zs)[i]?) = some vs' ∧ sp vs' H2 Q (E σ)
theorem kw_all : ∀ {kws : List Keyword} {env : PySem.Env} {pos : Pos} {ks : List Str}, kws.map (·.arg) = ks.map some → (backToKw pos (keywordEach kws env)).all (·.1.isSome) = true ∧ (backToKw pos (keywordEach kws env)).filterMap (·.1) = ks ∧ (backToKw pos (keywordEach kws env)).any (·.1.isNone) = false
  | [], _, _, ks, h => by
    cases ks with
    | nil => exact ⟨rfl, rfl, rfl⟩
    | cons a b => simp at h
  | ⟨nm, e, kp⟩ :: kws, env, pos, ks, h => by
    cases ks with
    | nil => simp at h
    | cons a b =>
      simp only [List.map_cons, List.cons.injEq] at h
      obtain ⟨h1, h2⟩ := h
      subst h1
      obtain ⟨q1, q2, q3⟩ := kw_all (env := env) (pos := pos) h2
      have e : backToKw pos (keywordEach (⟨some a, e, kp⟩ :: kws) env) = (some a, do let v ← eval e env; standAt pos; pure v) :: backToKw pos (keywordEach kws env) := rfl
      rw [e]
      refine ⟨?_, ?_, ?_⟩
      · rw [List.all_cons, q1]; rfl
      · rw [List.filterMap_cons]; show a :: _ = _; rw [q2]
      · rw [List.any_cons, q3]; rfl
theorem pe_callGK {kws : List Keyword} {tkw : TA} {na : Nat} {ks : List Str} {perm : List Nat} (F : FnG X.prog X.w X.K X.mg X.base k f fd ps sp) (hr : Room k X.A) (hgd : X.A.guards = some []) (hg : Gl X x) (hm : X.mg x = some (.ref f)) (hk : PySem.W.keepIn X.K (.ref f) = true) (hb : KB fd ps na ks perm) (tk : Takes X W)
    (ha : PA X es t) (hkw : PK X kws tkw) (hks : kws.map (·.arg) = ks.map some) (hdb : (x == ("__debug__" : Str)) = false) (hes : es = [] → t = tNil) (he : ∀ e r, es = e :: r → starEach (e :: r) X.env = (false, eval e X.env) :: starEach r X.env) (hpl : (starEach es X.env).any (·.1) = false) :
    PE X (.Call (.Name x p) es kws pos) (tCallGK sp na ks perm (WE W) t tkw) := by
  refine ⟨fun pins s σ H Q I h => ?_⟩
  obtain ⟨k1, k2, k3⟩ := kw_all (env := X.env) (pos := pos) hks
  refine wpAny_Call_Name_kw (ld_glob I hg hm ?_ hdb)
  cases es with
  | nil =>
    have et := hes rfl
    subst et
    refine PySem.W.callWith_KW0 (h₀ := X.base) I.ok.mod.kin hk k1 ?_ (by rw [star_any hpl, k3]; rfl)
    refine thn (hkw.run pos pins s σ H _ I h) fun ws s2 ⟨zs, H2, I2, rz, l1, l2, vs', hp, q2⟩ => ⟨I2.kIn, ?_⟩
    rw [k2]
    exact run_fnGK (us := []) (vs := []) F hr hgd hb tk I2 .nil rz l1 (by rw [← rz.length]; exact l2) hp q2
  | cons e r =>
    refine PySem.W.callWith_KW (h₀ := X.base) I.ok.mod.kin hk k1 (thn (ha.run pos pins s σ H _ I h) fun us s1 ⟨vs, H1, I1, r1, q⟩ => ?_) (by rw [star_any hpl, k3]; rfl) (he e r rfl)
    refine thn (hkw.run pos pins s1 σ H1 _ I1 q) fun ws s2 ⟨zs, H2, I2, rz, l1, l2, vs', hp, q2⟩ => ⟨I2.kIn, ?_⟩
    rw [k2]
    exact run_fnGK (us := us) (vs := vs) F hr hgd hb tk I2 r1 rz (by rw [← r1.length]; exact l1) (by rw [← rz.length]; exact l2) hp q2
end
end Eng

set_option Elab.async false
set_option linter.all false
set_option maxRecDepth 100000
/-! The check of a text. -/
namespace Eng
open PySem PySem.Spec PyProof.Rows L2

structure Cfg where
  nm : Nat → Option Str
  gl : List (Str × PyData)
  kb : List (Nat × Nat × List Str × List Nat)
  gd : List (Str × List (Str × Int) × List Str)
  cl : List (Str × Str)
  ci : List (Nat × Str × Bool)
  kwo : List Nat
  df : List (Str × Stmt × List Str)
  lams : List Str
structure Sc where
  sc : Scope
  fn : Str → Bool
  lam : Option Str

def pl : Expr → Bool
  | .Starred .. => false
  | .Set .. => false
  | .Slice .. => false
  | _ => true
theorem star_pl {e : Expr} {es : List Expr} {env : PySem.Env} (h : pl e = true) : starEach (e :: es) env = (false, eval e env) :: starEach es env := by
  cases e <;> first | rfl | simp [pl] at h
theorem folded_pl {e : Expr} {env : PySem.Env} (h : pl e = true) : ∀ x, foldedSetIterable e env x = pure x := by
  intro x
  cases e <;> first | rfl | simp [pl] at h
theorem ix_pl {e : Expr} (h : pl e = true) : PlainIx e := by
  intro o i
  cases e <;> first | rfl | simp [pl] at h
theorem mark_pl {e : Expr} {op : CmpOp} (h : pl e = true) : behindInMarks op e = false := by
  cases e <;> first | rfl | simp [pl] at h

def glB (c : Sc) (x : Str) : Bool := decide (c.sc.names.lookup x = some .globalImplicit) && !(x == ("__debug__" : Str))
def visB (c : Sc) (x : Str) : Bool := (decide (c.sc.names.lookup x = some .local) || decide (c.sc.names.lookup x = some .cell) || decide (c.sc.names.lookup x = some .free)) && !(x == ("__debug__" : Str)) && !(x == ("__classdict__" : Str))
def locB (c : Sc) (x : Str) : Bool := decide (c.sc.names.lookup x = some .local) || (decide (c.sc.names.lookup x = some .cell) && c.fn x)

def cstB : PyData → Const → Bool
  | .none, .none => true
  | .bool b, .bool c => b == c
  | .int i, .int j => i == j
  | .str x, .str y => decide (x = y) && szOk (.str x)
  | _, _ => false
def sEq : PyData → PyData → Bool
  | .none, .none => true
  | .bool b, .bool c => b == c
  | .int i, .int j => i == j
  | .str x, .str y => decide (x = y)
  | _, _ => false
def binB : BinO → Operator → Bool
  | .add, .Add | .sub, .Sub | .mul, .Mult | .mod, .Mod | .fdiv, .FloorDiv | .pow, .Pow | .shl, .LShift | .bor, .BitOr | .band, .BitAnd => true
  | _, _ => false
def cmpB : CmpO → CmpOp → Bool
  | .eq, .Eq | .ne, .NotEq | .lt, .Lt | .le, .LtE | .gt, .Gt | .ge, .GtE | .is, .Is | .isnot, .IsNot | .in_, .In | .notin, .NotIn => true
  | _, _ => false
def b1N : B1 → Str
  | .len => "len" | .tuple => "tuple" | .list => "list" | .abs => "abs" | .int => "int" | .all => "all" | .any => "any" | .sum => "sum" | .max => "max" | .min => "min" | .repr => "repr" | .sorted => "sorted"
def b2N : B2 → Str
  | .max => "max" | .min => "min"
def clsN : ClsT → Str
  | .int => "int" | .bool => "bool" | .str => "str" | .list => "list" | .tuple => "tuple"
def isName (c : Sc) (x : Str) : Expr → Bool
  | .Name y _ => (decide (y = x) && glB c y)
  | _ => false
/-- the built-in names that a text may use -/
def bnames : List Str := ["len", "tuple", "list", "abs", "int", "all", "any", "sum", "max", "min", "repr", "sorted", "isinstance", "bool", "str", "range", "enumerate", "zip", "set", "dict"]

mutual
def okTg (N : List Str) (c : Sc) : Tg → Expr → Bool
  | .nm i, .Name x _ => decide (N[i]? = some x) && locB c x
  | .tp ts, .Tuple es _ _ => okTgs N c ts es
  | _, _ => false
def okTgs (N : List Str) (c : Sc) : List Tg → List Expr → Bool
  | [], [] => true
  | t :: ts, e :: es => okTg N c t e && okTgs N c ts es
  | _, _ => false
end
def isTp : Expr → Bool
  | .Tuple .. => true
  | _ => false
def Sc.blk (c : Sc) (scope : Scope) : Sc := ⟨relS scope c.sc, fun x => scope.names.lookup x == some .cell, none⟩

def isNo : E → Bool
  | .no => true
  | _ => false
def okO (e : E) (f : Expr → Bool) : Option Expr → Bool
  | none => (match e with | .no => true | _ => false)
  | some x => f x
mutual
def okHE (G : Cfg) (N : List Str) (c : Sc) (n fld : Str) (k : Nat) : HE → Expr → Bool
  | .cst d, s => match s with | .Constant q _ _ => cstB d q | _ => false
  | .fld, s => match s with | .Attribute (.Name y _) f _ => decide (y = n) && decide (f = fld) | _ => false
  | .var j, s => match s with | .Name y _ => decide (N[j]? = some y) && visB c y | _ => false
  | .rep e, s => match s with | .Call (.Name y _) [a] [] _ => decide (y = "repr") && glB c y && okHE G N c n fld k e a && pl a | _ => false
  | .isx D b, s => match s with | .Call (.Name y _) [.Name z _, .Name w _] [] _ => decide (y = "isinstance") && glB c y && decide (z = n) && decide (w = D) && glB c w && G.ci.any (fun p => decide (p = (k, D, b))) | _ => false
  | .tup es, s => match s with | .Tuple elts _ _ => okHEs G N c n fld k es elts && decide (elts.length ≤ 1000) | _ => false
  | .lst es, s => match s with | .List elts _ => okHEs G N c n fld k es elts && decide (elts.length ≤ 1000) | _ => false
  | .cmp o a b, s => match s with | .Compare l [op] [r] _ => cmpB o op && okHE G N c n fld k a l && okHE G N c n fld k b r && pl r | _ => false
  | .and a b, s => match s with
    | .BoolOp .And [x, y] _ => okHE G N c n fld k a x && okHE G N c n fld k b y
    | .BoolOp .And (x :: y :: z :: r) pos => okHE G N c n fld k a x && okHE G N c n fld k b (.BoolOp .And (y :: z :: r) pos)
    | _ => false
  | .nt a, s => match s with | .UnaryOp .Not x _ => okHE G N c n fld k a x | _ => false
def okHEs (G : Cfg) (N : List Str) (c : Sc) (n fld : Str) (k : Nat) : HEs → List Expr → Bool
  | .nil, l => match l with | [] => true | _ => false
  | .cons e es, l => match l with | x :: r => okHE G N c n fld k e x && pl x && okHEs G N c n fld k es r | [] => false
end
def okHB (G : Cfg) (N : List Str) (c : Sc) (n fld : Str) (k : Nat) : HB → Expr → Bool
  | .ne a b, s => match s with | .Compare l [.NotEq] [r] _ => okHE G N c n fld k a l && okHE G N c n fld k b r && pl r | _ => false
  | .eq a b, s => match s with | .Compare l [.Eq] [r] _ => okHE G N c n fld k a l && okHE G N c n fld k b r && pl r | _ => false
  | .not b, s => match s with | .UnaryOp .Not x _ => okHB G N c n fld k b x | _ => false
  | .or a b, s => match s with | .BoolOp .Or [x, y] _ => okHB G N c n fld k a x && okHB G N c n fld k b y | _ => false
  | .isx D b, s => okHE G N c n fld k (.isx D b) s
def okHS (G : Cfg) (N : List Str) (c : Sc) (n fld : Str) (k : Nat) : List HS → List Stmt → Bool
  | [], l => match l with | [] => true | _ => false
  | .ife b e :: r, l => match l with | .If x [.Return (some v) _] [] _ :: l' => okHB G N c n fld k b x && okHE G N c n fld k e v && okHS G N c n fld k r l' | _ => false
  | .ret e :: _, l => match l with | [.Return (some v) _] => okHE G N c n fld k e v | _ => false
/-! what a def makes of what it got -/
def okHM (a : Str) : HM → List Stmt → Bool
  | .ret, l => match l with | [.Return (some (.Call (.Name y _) [] [] _)) _] => decide (y = a) | _ => false
  | .exp, l => match l with | [.Expr (.Call (.Name y _) [] [] _) _] => decide (y = a) | _ => false
  | .exr d, l => match l with | [.Expr (.Call (.Name y _) [] [] _) _, .Return (some (.Constant q _ _)) _] => decide (y = a) && cstB d q | _ => false
  | .tup z, l => match l with | [.Return (some (.Tuple [.Constant q _ _, .Call (.Name y _) [] [] _] _ _)) _] => decide (y = a) && cstB (.str z) q | _ => false
  | .lst z, l => match l with | [.Return (some (.List [.Constant q _ _, .Call (.Name y _) [] [] _] _)) _] => decide (y = a) && cstB (.str z) q | _ => false
def okHhs (G : Cfg) (N : List Str) (c : Sc) (n : Str) : List (Nat × List HS) → List ExceptHandler → Bool
  | [], l => match l with | [] => true | _ => false
  | (k, ss) :: r, l => match l with
    | .ExceptHandler (some (.Name x _)) (some n') (b :: suite) _ :: l' => decide (n' = n) && glB c x && (match G.cl[k]? with | some p => decide (p.1 = x) && okHS G N c n p.2 k ss (b :: suite) | none => false) && okHhs G N c n r l'
    | _ => false
def okAft : PyData → List Stmt → Bool
  | d, l => match l with
    | [] => (match d with | .none => true | _ => false)
    | [.Return (some (.Constant q _ _)) _] => cstB d q
    | _ => false
def okHD (G : Cfg) (N : List Str) (hd : HD) (st : Stmt) : Bool := match N, defBody st with
  | [a, n], .Try body (h :: hs) [] [] _ :: rest => okHM a hd.md body && okHhs G N ⟨defScope st, fun _ => true, none⟩ n hd.hs (h :: hs) && okAft hd.aft rest && decide ((defScope st).names.lookup n = some .local) && visB ⟨defScope st, fun _ => true, none⟩ n && visB ⟨defScope st, fun _ => true, none⟩ a
  | _, _ => false
def noArgs (p : Arguments) : Bool := p.posonlyargs.isEmpty && p.args.isEmpty && p.vararg.isNone && p.kwonlyargs.isEmpty && p.kw_defaults.isEmpty && p.kwarg.isNone && p.defaults.isEmpty
mutual
def okE (G : Cfg) (N : List Str) : E → Sc → Expr → Bool
  | .cst d, _, s => match s with | .Constant k _ _ => cstB d k | _ => false
  | .glb x d, c, s => match s with | .Name y _ => decide (x = y) && glB c y && G.gl.any (fun p => decide (p.1 = x) && sEq p.2 d) | _ => false
  | .var i, c, s => match s with | .Name x _ => decide (N[i]? = some x) && visB c x | _ => false
  | .bv i, c, s => match s with | .Name x _ => decide (N[i]? = some x) && visB c x | _ => false
  | .tup es, c, s => match s with | .Tuple elts _ _ => okEs G N es c elts && decide (elts.length ≤ 1000) | _ => false
  | .lst es, c, s => match s with | .List elts _ => okEs G N es c elts && decide (elts.length ≤ 1000) | _ => false
  | .newl es, c, s => match s with | .List elts _ => okEs G N es c elts && decide (elts.length ≤ 1000) | _ => false
  | .lmul es k, c, s => match s with | .BinOp (.List elts _) .Mult r _ => okEs G N es c elts && decide (elts.length ≤ 1000) && okE G N k c r | _ => false
  | .sortk a, c, s => false
  | .sset a, c, s => false
  | .dget i es, c, s => false
  | .newD, _, s => false
  | .newD1 k v, c, s => false
  | .keysl a, c, s => false
  | .hear xs x y hd e, c, s => false
  | .idx a b, c, s => false
  | .dictP a, c, s => false
  | .lrng a, c, s => false
  | .dlen a, c, s => false
  | .din n a b, c, s => false
  | .bin o a b, c, s => match s with | .BinOp l op r _ => binB o op && okE G N a c l && okE G N b c r | _ => false
  | .ladd a b, c, s => match s with | .BinOp l .Add r _ => okE G N a c l && okE G N b c r | _ => false
  | .neg a, c, s => match s with | .UnaryOp .USub x _ => okE G N a c x | _ => false
  | .not a, c, s => match s with | .UnaryOp .Not x _ => okE G N a c x | _ => false
  | .and a b, c, s => match s with
    | .BoolOp .And [x, y] _ => okE G N a c x && okE G N b c y
    | .BoolOp .And (x :: y :: z :: r) pos => okE G N a c x && okE G N b c (.BoolOp .And (y :: z :: r) pos)
    | _ => false
  | .or a b, c, s => match s with
    | .BoolOp .Or [x, y] _ => okE G N a c x && okE G N b c y
    | .BoolOp .Or (x :: y :: z :: r) pos => okE G N a c x && okE G N b c (.BoolOp .Or (y :: z :: r) pos)
    | _ => false
  | .cmp o a b, c, s => match s with | .Compare l [op] [r] _ => cmpB o op && okE G N a c l && okE G N b c r && pl r | _ => false
  | .chain o o' a b d, c, s => match s with
    | .Compare l [op, op'] [m, r] _ => cmpB o op && cmpB o' op' && okE G N a c l && okE G N b c m && okE G N d c r && pl m && pl r
    | _ => false
  | .iteN t a b, c, s => match s with | .IfExp (.BinOp l o r p) y z _ => okE G N t c (.BinOp l o r p) && okE G N a c y && okE G N b c z | _ => false
  | .ite t a b, c, s => match s with | .IfExp x y z _ => okE G N t c x && okE G N a c y && okE G N b c z | _ => false
  | .call f es, c, s => match s with | .Call (.Name x _) args [] _ => (decide (G.nm f = some x) && !(G.kwo.contains f)) && glB c x && okEs G N es c args | _ => false
  | .callk f es ks perm, c, s => match s with
    | .Call (.Name x _) args kws _ => decide (G.nm f = some x) && glB c x && okEs G N es c args && okEs G N ks c (kws.map (·.value)) && kws.all (·.arg.isSome) &&
      G.kb.any (fun p => decide (p = (f, args.length, kws.filterMap (·.arg), perm)))
    | _ => false
  | .b1 f a, c, s => match s with | .Call (.Name x _) [e] [] _ => decide (x = b1N f) && glB c x && okE G N a c e && pl e | _ => false
  | .b2 f a b, c, s => false
  | .isi a k, c, s => match s with | .Call (.Name x _) [e, t] [] _ => decide (x = "isinstance") && glB c x && okE G N a c e && pl e && isName c (clsN k) t | _ => false
  | .isi2 a k k', c, s => match s with | .Call (.Name x _) [e, .Tuple [t, t'] _ _] [] _ => decide (x = "isinstance") && glB c x && okE G N a c e && pl e && isName c (clsN k) t && isName c (clsN k') t' | _ => false
  | .ix a i, c, s => match s with | .Subscript v s _ => okE G N a c v && okE G N i c s && pl s | _ => false
  | .sl a lo hi, c, s => match s with | .Subscript v (.Slice l u none _) _ => okE G N a c v && okO lo (okE G N lo c) l && okO hi (okE G N hi c) u | _ => false
  | .rev a, c, s => false
  | .gd o x kvs nks a, c, s => match s with
    | .Compare l [op] [.Name y _] _ => (match o, op with | .in_, .In => true | .notin, .NotIn => true | _, _ => false) && decide (x = y) && glB c y && G.gd.any (fun p => decide (p = (x, kvs, nks))) && okE G N a c l
    | .Subscript (.Name y _) i _ => (match o with | .item => true | _ => false) && decide (x = y) && glB c y && G.gd.any (fun p => decide (p = (x, kvs, nks))) && okE G N a c i && pl i
    | _ => false
  | .comp elt tg it cond own, c, s => match s with
    | .ListComp e [⟨t, i, ifs, 0⟩] scope _ =>
      blkC N c.sc scope own && okI G N it c t i && pl i && okTg N (c.blk scope) tg t && (slotsTg tg).all (fun j => (own.map (·.2)).contains j) && okE G N elt (c.blk scope) e &&
        (match ifs with | [] => isNo cond | [g] => !isNo cond && okE G N cond (c.blk scope) g | _ => false)
    | _ => false
  | .newRs tg it own, c, s => match s with
    | .ListComp (.List [] _) [⟨t, i, [], 0⟩] scope _ =>
      blkC N c.sc scope own && okI G N it c t i && pl i && okTg N (c.blk scope) tg t && (slotsTg tg).all (fun j => (own.map (·.2)).contains j)
    | _ => false
  | .popM i, c, s => match s with | .Call (.Attribute (.Name x _) nm ap) [] [] cp => decide (nm = "pop") && decide (N[i]? = some x) && visB c x && (ap.endLine == cp.line) | _ => false
  | .ssc elt tg it cond own, c, s => false
  | .comp2 elt tg it tg' it' cond own, c, s => match s with
    | .ListComp e [⟨t, i, [], 0⟩, ⟨t', i', ifs, 0⟩] scope _ =>
      blkC N c.sc scope own && okI G N it c t i && pl i && okTg N (c.blk scope) tg t && (slotsTg tg).all (fun j => (own.map (·.2)).contains j) && okI G N it' (c.blk scope) t' i' && pl i' && okTg N (c.blk scope) tg' t' && (slotsTg tg').all (fun j => (own.map (·.2)).contains j) && okE G N elt (c.blk scope) e &&
        (match ifs with | [] => isNo cond | [g] => !isNo cond && okE G N cond (c.blk scope) g | _ => false)
    | _ => false
  | .no, _, _ => false
def okEs (G : Cfg) (N : List Str) : Es → Sc → List Expr → Bool
  | .nil, _, s => match s with | [] => true | _ => false
  | .cons e es, c, s => match s with | x :: xs => okE G N e c x && pl x && okEs G N es c xs | _ => false
def okI (G : Cfg) (N : List Str) : It → Sc → Expr → Expr → Bool
  | .seq e, c, _, i => okE G N e c i
  | .rng1 a, c, _, s => match s with | .Call (.Name x _) [e] [] _ => decide (x = "range") && glB c x && okE G N a c e && pl e | _ => false
  | .rng2 a b, c, _, s => match s with | .Call (.Name x _) [e, e'] [] _ => decide (x = "range") && glB c x && okE G N a c e && pl e && okE G N b c e' && pl e' | _ => false
  | .enum a, c, t, s => match s with | .Call (.Name x _) [e] [] _ => decide (x = "enumerate") && glB c x && okE G N a c e && pl e && isTp t | _ => false
  | .zip2 a b, c, t, s => match s with | .Call (.Name x _) [e, e'] [] _ => decide (x = "zip") && glB c x && okE G N a c e && pl e && okE G N b c e' && pl e' && isTp t | _ => false
end
end Eng

set_option Elab.async false
set_option linter.all false
set_option maxRecDepth 100000
/-! How a reading is opened and closed. -/
namespace Eng
open PySem PySem.Spec PyProof.Rows L2

theorem PE.imp {X : Cx} {e : Expr} {t t' : TE} (h : PE X e t) (hi : ∀ σ H Q, t' σ H Q → t σ H Q) : PE X e t' := ⟨fun pins s σ H Q I q => h.run pins s σ H Q I (hi _ _ _ q)⟩
theorem PT.imp {X : Cx} {e : Expr} {t t' : TT} (h : PT X e t) (hi : ∀ σ H Q, t' σ H Q → t σ H Q) : PT X e t' := ⟨fun pins s σ H Q I q => h.run pins s σ H Q I (hi _ _ _ q)⟩
theorem PW.imp {X : Cx} {e : Expr} {t t' : TT} (h : PW X e t) (hi : ∀ σ H Q, t' σ H Q → t σ H Q) : PW X e t' := ⟨fun wh pins s σ H Q I q => h.run wh pins s σ H Q I (hi _ _ _ q)⟩
theorem PA.imp {X : Cx} {e : List Expr} {t t' : TA} (h : PA X e t) (hi : ∀ σ H Q, t' σ H Q → t σ H Q) : PA X e t' := ⟨fun pos pins s σ H Q I q => h.run pos pins s σ H Q I (hi _ _ _ q)⟩
theorem PI.imp {X : Cx} {tg e : Expr} {t t' : TI} (h : PI X tg e t) (hi : ∀ σ H Q, t' σ H Q → t σ H Q) : PI X tg e t' := ⟨fun pins s σ H Q I q => h.run pins s σ H Q I (hi _ _ _ q)⟩
theorem PI.or {X : Cx} {tg e : Expr} {t t' : TI} (h : PI X tg e t) (h' : PI X tg e t') : PI X tg e (fun σ H R => t σ H R ∨ t' σ H R) := ⟨fun pins s σ H Q I q => q.elim (fun q => h.run pins s σ H Q I q) fun q => h'.run pins s σ H Q I q⟩
theorem PS.imp {X : Cx} {e : Stmt} {t t' : TS} (h : PS X e t) (hi : ∀ D σ H, t' D σ H → t D σ H) : PS X e t' := ⟨fun pins s σ H D I q => h.run pins s σ H D I (hi _ _ _ q)⟩
theorem PSs.imp {X : Cx} {e : List Stmt} {t t' : TS} (h : PSs X e t) (hi : ∀ D σ H, t' D σ H → t D σ H) : PSs X e t' := ⟨fun pins s σ H D I q => h.run pins s σ H D I (hi _ _ _ q)⟩
theorem PG.imp {X : Cx} {e : Expr} {t t' : TG} (h : PG X e t) (hi : ∀ v σ H Q, t' v σ H Q → t v σ H Q) : PG X e t' := ⟨fun pins s σ H v u Q I r q => h.run pins s σ H v u Q I r (hi _ _ _ _ q)⟩

section
variable {α α' β β' : Type} {K : PySem.W.Frag} {XR : XRel} {W : WX} {σ : L2.St} {H Hf : Hp} {ρ : List Addr} {ω : Nat → Addr} {env : Env} {m : Mem} {Rp : Hp → Hp → List Addr → β → α → Prop} {Rp' : Hp → Hp → List Addr → β' → α' → Prop} {Q : β → Hp → Prop}
theorem At.bind {Rp' : Hp → Hp → List Addr → β' → α' → Prop} (a : At K H σ Hf ρ ω env m) {f : Env → Mem → R α'} {k : α' → Mem → R α} (h : OutE K XR W σ H Hf ρ Rp ((f env m).bind k) Q) :
    tR K XR W Rp' f σ H (fun v H1 => ∃ u Hf1 ρ1 m1, Pres H Hf ρ H1 Hf1 ρ1 ∧ At K H1 σ Hf1 ρ1 ω env m1 ∧ Rp' H1 Hf1 ρ1 v u ∧ OutE K XR W σ H1 Hf1 ρ1 Rp (k u m1) Q) :=
  ⟨Hf, ρ, ω, env, m, a, (OutE.bind h).mono fun v H' ⟨u, Hf1, ρ1, m1, p, f1, r, o⟩ => ⟨u, Hf1, ρ1, m1, p, a.pres p f1, r, o⟩⟩
theorem At.ok (a : At K H σ Hf ρ ω env m) {v : β} {u : α} (h : OutE K XR W σ H Hf ρ Rp (.ok u m) Q) (r : Rp H Hf ρ v u) : Q v H := h v H Hf ρ (Pres.refl _ _ _) a.fine r
theorem At.okN (a : At K H σ Hf ρ ω env m) {v : β} {u : α} {p : Addr} {o : HO} (h : OutE K XR W σ H Hf ρ Rp (.ok u m) Q) (hp : H p = none) (r : Rp (upd H p o) (upd Hf p o) ρ v u) : Q v (upd H p o) :=
  h v _ _ ρ (Pres.new hp a.fine.sub) (a.fine.new hp) r
theorem At.free (a : At K H σ Hf ρ ω env m) {p : Addr} (hp : H p = none) : Hf p = none ∧ p ∉ ρ :=
  ⟨a.fine.sub.none hp, fun hm => by obtain ⟨o, e⟩ := a.fine.tracked hm; rw [hp] at e; cases e⟩
end
theorem Pres.none {K : PySem.W.Frag} {H Hf H' Hf' : Hp} {ρ ρ' : List Addr} {m m' : Mem} (p : Pres H Hf ρ H' Hf' ρ') (f : Fine K H Hf ρ m) (f' : Fine K H' Hf' ρ' m') {a : Addr} (h : H' a = none) : H a = none := by
  cases e : H a with
  | none => rfl
  | some o =>
    exfalso
    cases e1 : Hf a with
    | some x => rw [f'.sub _ _ (p.fz _ _ e1)] at h; cases h
    | none =>
      by_cases hm : a ∈ ρ
      · obtain ⟨t, et⟩ := p.pre
        obtain ⟨o', q⟩ := f'.tracked (a := a) (by rw [et]; exact List.mem_append_left _ hm)
        rw [q] at h; cases h
      · obtain ⟨q, _⟩ := p.kp a o e e1 hm
        rw [q] at h; cases h
/-- a list of its own, new since H0 -/
def RF (K : PySem.W.Frag) (H0 : Hp) : Hp → Hp → List Addr → V → U → Prop := fun H Hf ρ v u => ∃ p vs xs, u = .dat (.list xs) ∧ v = .ref p ∧ H0 p = none ∧ H p = some (.lst vs) ∧ Hf p = none ∧ p ∉ ρ ∧ DpAll K Hf vs xs ∧ szOk (.list xs) = true
def tF (K : PySem.W.Frag) (XR : XRel) (W : WX) (f : Env → Mem → R U) : TE :=
  fun σ H Q => ∃ Hf ρ ω env m, At K H σ Hf ρ ω env m ∧ OutE K XR W σ H Hf ρ (RF K H) (f env m) Q
abbrev tU (K : PySem.W.Frag) (XR : XRel) (W : WX) (f : Env → Mem → R U) : TE := tR K XR W (RU K) f
abbrev tB (K : PySem.W.Frag) (XR : XRel) (W : WX) (f : Env → Mem → R U) : TE := tR K XR W (RB K) f
section
variable {K : PySem.W.Frag} {XR : XRel} {W : WX} {f : Env → Mem → R U}
/-- .. frozen -/
theorem tF_of_tU {σ : L2.St} {H : Hp} {Q : VK} (h : tU K XR W f σ H Q) : tF K XR W f σ H Q := by
  obtain ⟨Hf, ρ, ω, env, m, a, o⟩ := h
  refine ⟨Hf, ρ, ω, env, m, a, ?_⟩
  cases e : f env m with
  | ok u m' =>
    rw [e] at o
    intro v H' Hf' ρ' p f' r
    obtain ⟨q, vs, xs, rfl, rfl, h0, h1, h2, h3, h4, h5⟩ := r
    have hn : H' q = some (.lst vs) := h1
    refine o _ H' (upd Hf' q (.lst vs)) ρ' (p.frozen h0 h2) (f'.freeze h1 h2 h3) ⟨.lst (.inl (.inl upd_same)) (DpAll.mono (Sub.new h2) _ _ h4), h5⟩
  | exc c x m' => rw [e] at o; exact o
  | bad => rw [e] at o; exact o
theorem PE.frz {X : Cx} {e : Expr} (h : PE X e (tF K XR W f)) : PE X e (tU K XR W f) := PE.imp h fun _ _ _ q => tF_of_tU q
theorem PE.bor {X : Cx} {e : Expr} (h : PE X e (tU K XR W f)) : PE X e (tB K XR W f) := PE.imp h fun σ H Q ⟨Hf, ρ, ω, env, m, a, o⟩ => ⟨Hf, ρ, ω, env, m, a, o.rel fun _ _ _ _ _ r => .inl r⟩
end
/-- a list, a tuple, read -/
theorem RepB.list {K : PySem.W.Frag} {H Hf : Hp} {ρ : List Addr} {v : V} {xs : List PyData} (s : Sub Hf H) (r : RepB K H Hf ρ v (.dat (.list xs))) :
    ∃ p vs, v = .ref p ∧ SqL K H p vs ∧ DpAll K Hf vs xs ∧ szOk (.list xs) = true := by
  rcases r with ⟨d, hz⟩ | ⟨p, vs, ys, e, rfl, h, _, _, ha, hz⟩
  · cases d with
    | lst hs ha => exact ⟨_, _, rfl, SqL.mono s hs, ha, hz⟩
  · cases e; exact ⟨p, vs, rfl, .inl (.inl h), ha, hz⟩
theorem RepB.tup {K : PySem.W.Frag} {H Hf : Hp} {ρ : List Addr} {v : V} {xs : List PyData} (s : Sub Hf H) (r : RepB K H Hf ρ v (.dat (.tuple xs))) :
    ∃ p vs, v = .ref p ∧ SqT K H p vs ∧ DpAll K Hf vs xs ∧ szOk (.tuple xs) = true := by
  rcases r with ⟨d, hz⟩ | ⟨p, vs, ys, e, rfl, h, _, _, ha, hz⟩
  · cases d with
    | tup hs ha => exact ⟨_, _, rfl, SqT.mono s hs, ha, hz⟩
  · cases e
theorem RepB.dp {K : PySem.W.Frag} {H Hf : Hp} {ρ : List Addr} {v : V} {d : PyData} (s : Sub Hf H) (r : RepB K H Hf ρ v (.dat d)) : Dp K H v d ∧ szOk d = true := by
  rcases r with ⟨d', hz⟩ | ⟨p, vs, ys, e, rfl, h, _, _, ha, hz⟩
  · exact ⟨Dp.mono s _ _ d', hz⟩
  · cases e; exact ⟨.lst (.inl (.inl h)) (DpAll.mono s _ _ ha), hz⟩
theorem RepB.int {K : PySem.W.Frag} {H Hf : Hp} {ρ : List Addr} {v : V} {i : Int} (r : RepB K H Hf ρ v (.dat (.int i))) : v = .int i := by
  rcases r with ⟨d', hz⟩ | ⟨p, vs, ys, e, rfl, h, _, _, ha, hz⟩
  · cases d'; rfl
  · cases e
theorem RepB.str {K : PySem.W.Frag} {H Hf : Hp} {ρ : List Addr} {v : V} {i : Str} (r : RepB K H Hf ρ v (.dat (.str i))) : v = .str i ∧ szOk (.str i) = true := by
  rcases r with ⟨d', hz⟩ | ⟨p, vs, ys, e, rfl, h, _, _, ha, hz⟩
  · cases d'; exact ⟨rfl, hz⟩
  · cases e
theorem RepB.bool {K : PySem.W.Frag} {H Hf : Hp} {ρ : List Addr} {v : V} {i : Bool} (r : RepB K H Hf ρ v (.dat (.bool i))) : v = .bl i := by
  rcases r with ⟨d', hz⟩ | ⟨p, vs, ys, e, rfl, h, _, _, ha, hz⟩
  · cases d'; rfl
  · cases e
theorem RepB.none {K : PySem.W.Frag} {H Hf : Hp} {ρ : List Addr} {v : V} (r : RepB K H Hf ρ v (.dat .none)) : v = .non := by
  rcases r with ⟨d', hz⟩ | ⟨p, vs, ys, e, rfl, h, _, _, ha, hz⟩
  · cases d'; rfl
  · cases e

/-! ### operators by values -/
section
variable {X : Cx} {XR : XRel} {W : WX}
/-- what two values' operator is asked: f by values -/
def opD (K : PySem.W.Frag) (f : PyData → PyData → Option PyData) : R2 := fun x y H Q => ∃ Hf ρ ω σ env m d e z, At K H σ Hf ρ ω env m ∧ RepB K H Hf ρ x (.dat d) ∧ RepB K H Hf ρ y (.dat e) ∧ f d e = some z ∧
  ∀ v H' Hf' ρ', Pres H Hf ρ H' Hf' ρ' → Fine K H' Hf' ρ' m → RepU K Hf' ρ' v (.dat z) → Q v H'
theorem OpR.imp {f : Value → Value → Sem Value} {r r' : R2} (h : OpR X f r) (hi : ∀ x y H Q, r' x y H Q → r x y H Q) : OpR X f r' := fun pins s σ H x y v u Q I rx ry q => h pins s σ H x y v u Q I rx ry (hi _ _ _ _ q)
theorem op_cases {f : Value → Value → Sem Value} {F : PyData → PyData → Option PyData} (h : ∀ d e z, F d e = some z → OpR X f (fun x y H Q => ∃ Hf ρ ω σ env m, At X.K H σ Hf ρ ω env m ∧ RepB X.K H Hf ρ x (.dat d) ∧ RepB X.K H Hf ρ y (.dat e) ∧
    ∀ v H' Hf' ρ', Pres H Hf ρ H' Hf' ρ' → Fine X.K H' Hf' ρ' m → RepU X.K Hf' ρ' v (.dat z) → Q v H')) : OpR X f (opD X.K F) := by
  intro pins s σ H x y v u Q I rx ry ⟨Hf, ρ, ω, σ', env, m, d, e, z, a, r1, r2, hz, q⟩
  exact h d e z hz pins s σ H x y v u Q I rx ry ⟨Hf, ρ, ω, σ', env, m, a, r1, r2, q⟩
end
end Eng

set_option Elab.async false
set_option linter.all false
set_option maxRecDepth 100000
/-! Dicts of ours: {}, d[k], d[k] = v, k in d, d.get(k, x). -/
namespace L2
open PySem PySem.Spec PyProof.Rows PySem.Calls Eng
section
variable {X : Cx} {pins : List (Addr × Obj)} {σ : St} {H : Hp} {s : Shared}
mutual
/-- a piece of data is a key -/
theorem nk_is (I : Inv X pins σ H s) : ∀ (d : PyData) (v : V) (u : Value) (k : NestedKey), Dp X.K H v d → RelV v u → nk d = some k → NestedIs s.heap k u
  | .none, _, _, k, h, r, e => by
    simp only [nk, Option.some.injEq] at e
    subst e
    cases h
    cases r
    exact .none
  | .int i, _, _, k, h, r, e => by
    simp only [nk, Option.some.injEq] at e
    subst e
    cases h
    obtain ⟨t, rfl⟩ := r
    exact .int i t
  | .tuple ds, _, _, k, h, r, e => by
    simp only [nk, Option.map_eq_some_iff] at e
    obtain ⟨ks, e, rfl⟩ := e
    cases h with
    | tup hs ha =>
      cases r
      obtain ⟨its, rv, ⟨o, ho, hc, n, hd⟩, _⟩ := I.tuple hs
      exact .tup ho hc hd (nkAll_is I ds _ its ks ha rv e)
  | .bool b, _, _, k, h, r, e => by simp [nk] at e
  | .str b, _, _, k, h, r, e => by simp [nk] at e
  | .list b, _, _, k, h, r, e => by simp [nk] at e
  | .dict b, _, _, k, h, r, e => by simp [nk] at e
theorem nkAll_is (I : Inv X pins σ H s) : ∀ (ds : List PyData) (vs : List V) (us : List Value) (ks : List NestedKey), DpAll X.K H vs ds → Vals vs us → nkAll ds = some ks → NestedAll s.heap ks us
  | [], _, _, ks, h, r, e => by
    simp only [nkAll, Option.some.injEq] at e
    subst e
    cases h
    cases r
    exact .nil
  | d :: ds, _, _, ks, h, r, e => by
    simp only [nkAll, Option.bind_eq_some_iff, Option.map_eq_some_iff] at e
    obtain ⟨k, e1, ks', e2, rfl⟩ := e
    cases h with
    | cons h1 h2 =>
      cases r with
      | cons r1 r2 => exact .cons (nk_is I d _ _ k h1 r1 e1) (nkAll_is I ds _ _ ks' h2 r2 e2)
end
theorem key_is (I : Inv X pins σ H s) {b : Addr} {d : PyData} {k : NestedKey} (h : Dp X.K H (.ref b) d) (e : keyOfD d = some k) : (nestedKind X.prog X.w).is s.heap k b := by
  obtain ⟨h1, h2, _⟩ := keyOfD_some e
  exact ⟨nk_is I d _ _ k h rfl h1, h2⟩
theorem key_ref {d : PyData} {k : NestedKey} {v : V} (h : Dp X.K H v d) (e : keyOfD d = some k) : ∃ b, v = .ref b := by
  cases h with
  | tup hs ha => exact ⟨_, rfl⟩
  | _ => simp [keyOfD] at e
/-- the dict, as the library has it -/
theorem dic_of (I : Inv X pins σ H s) {a : Addr} {es : List (NestedKey × Addr × Value)} {kvs : List (NestedKey × PyData)} (h : H a = some (.ext (DicPhi a es))) (hd : DicAt X.K H es kvs) (hn : (es.map (·.1)).Nodup) : s.heap.DictOfH (nestedKind X.prog X.w) a es := by
  obtain ⟨⟨o, ens, ep, h1, h2, h3, h4⟩, _⟩ := (show ObjOk X.prog X.w H s.heap a (.ext (DicPhi a es)) from I.hok a _ h)
  refine ⟨o, ens, ep, h1, h2, h3, by rw [h4, hd.ent X.w X.prog], fun x hx => ?_, hn⟩
  have : ∀ {es : List (NestedKey × Addr × Value)} {kvs : List (NestedKey × PyData)}, DicAt X.K H es kvs → ∀ x ∈ es, (nestedKind X.prog X.w).is s.heap x.1 x.2.1 := fun {es kvs} h => by
    induction h with
    | nil => intro x hx; exact nomatch hx
    | cons h t ih =>
      intro x hx
      rcases List.mem_cons.mp hx with rfl | hx
      · exact ⟨nk_is I _ _ _ _ h.2.2.2.2.1 rfl h.2.1, h.2.2.2.1⟩
      · exact ih x hx
  exact this hd x hx
theorem DicPhi.ok {P : Program} {w : World} {H' : Hp} {h : Heap} {a : Addr} {es : List (NestedKey × Addr × Value)} (p : DicPhi a es h) : ObjOk P w H' h a (.ext (DicPhi a es)) := by
  have p' := p
  obtain ⟨o, ens, ep, h1, h2, h3, h4⟩ := p'
  exact ⟨p, ⟨o, h1⟩, fun g1 g2 ⟨o, ens, ep, q1, q2, q3, q4⟩ hk => ⟨o, ens, ep, hk _ q1, q2, q3, q4⟩⟩
end
/-! ### {} -/
def tDNewE : TE := fun _ H Q => ∀ p, H p = none → (p == sysModules) = false → Q (.ref p) (upd H p (.ext (DicPhi p [])))
section
variable {X : Cx} {pos : Pos}
end
/-! ### d[k] -/
def rIxE (K : PySem.W.Frag) : R2 := fun x y H Q => ∃ a es kvs kd k d Hf, Sub Hf H ∧ x = .ref a ∧ H a = some (.ext (DicPhi a es)) ∧ DicAt K Hf es kvs ∧ (es.map (·.1)).Nodup ∧ Dp K H y kd ∧ keyOfD kd = some k ∧ valN kvs k = some d ∧ ∀ v, Dp K Hf v d → Q v H
def rInE (K : PySem.W.Frag) (n : Bool) : R2 := fun x y H Q => ∃ a es kvs kd k Hf, Sub Hf H ∧ y = .ref a ∧ (a == sysModules) = false ∧ H a = some (.ext (DicPhi a es)) ∧ DicAt K Hf es kvs ∧ (es.map (·.1)).Nodup ∧ Dp K H x kd ∧ keyOfD kd = some k ∧ Q (.bl (xor n (valN kvs k).isSome)) H
def rSetE (K : PySem.W.Frag) : V → V → V → Hp → (Hp → Prop) → Prop := fun o i v H Q => ∃ a es kvs kd k d Hf, Sub Hf H ∧ Hf a = none ∧ o = .ref a ∧ H a = some (.ext (DicPhi a es)) ∧ DicAt K Hf es kvs ∧ (es.map (·.1)).Nodup ∧ kvs.length ≤ sizeLine ∧ Dp K Hf i kd ∧ keyOfD kd = some k ∧ Dp K Hf v d ∧
  ∀ es', DicAt K Hf es' (putN kvs k d) → (es'.map (·.1)).Nodup → Q (upd H a (.ext (DicPhi a es')))
section
variable {X : Cx}
theorem ix_dic (hu : X.A.units + 64 < cLine) : IxR X (rIxE X.K) := by
  intro value slice pins s σ H x y v u Q I rx ry h hs
  obtain ⟨a, es, kvs, kd, k, d, Hf, sb, rfl, ha, hd, hn, hk, ek, ev, q⟩ := h
  cases rx
  obtain ⟨b, rfl⟩ := key_ref hk ek
  cases (show u = Value.ref b from ry)
  have dd := dic_of I ha (DicAt.mono sb hd) hn
  obtain ⟨p, hp, v, rv, hv⟩ := hd.some ev
  have room : (nestedKind X.prog X.w).room X.A.in1 := by show X.A.units + 1 + 8 < cLine; omega
  exact subscriptTail_builtinR (x := p.2) dd.typeIs PySem.F.slot_dict_getitem.lookup
    (wpAny_getItem_heap (Q := fun r s' => r = p.2 ∧ EP X pins σ Q r s') room (key_is I hk ek) dd hp ⟨rfl, v, H, I.tok _, rv, q v hv⟩) hs
theorem set_dic (hu : X.A.units + 64 < cLine) : PSet X (rSetE X.K) := by
  intro pins s σ H o i v ov iv u Q I ro ri rv h
  obtain ⟨a, es, kvs, kd, k, d, Hf, sb, hfa, rfl, ha, hd, hn, hl, hk, ek, hv, q⟩ := h
  cases ro
  obtain ⟨b, rfl⟩ := key_ref hk ek
  cases (show iv = Value.ref b from ri)
  have dd := dic_of I ha (DicAt.mono sb hd) hn
  have room : (nestedKind X.prog X.w).room X.A.in1 := by show X.A.units + 1 + 8 < cLine; omega
  refine wpAny_setItem_heap (hsz := by rw [hd.len]; exact hl) room (key_is I (Dp.mono sb _ _ hk) ek) dd fun h' dd' hs => ?_
  have hd' := hd.put ek hk rv hv
  obtain ⟨ob, ens, ep, hq, h2, h3, h4, _, h5⟩ := dd'
  refine ⟨_, d_write I (by rw [ha]; exact True.intro) hs ⟨ob, hq⟩ (DicPhi.ok ⟨ob, ens, ep, hq, h2, h3, by rw [h4, hd'.ent X.w X.prog]⟩), q _ hd' h5⟩
end
end L2

set_option Elab.async false
set_option linter.all false
set_option maxRecDepth 100000
/-! zip of a list or tuple and a list or tuple. -/
namespace L2
open PySem PySem.Spec PyProof.Rows
def SqK (K : PySem.W.Frag) (k : Bool) (H : Hp) (a : Addr) (xs : List V) : Prop := match k with
  | true => SqL K H a xs
  | false => SqT K H a xs
def ItK (k : Bool) (h : Heap) (it l : Addr) (i : Nat) : Prop := match k with
  | true => h.IsListIter it l i
  | false => h.IsTupleIter it l i
def ArK (k : Bool) (h : Heap) (l : Addr) (its : Array Value) : Prop := match k with
  | true => h.IsList l its
  | false => h.IsTuple l its
theorem ItK.at {k : Bool} {h h' : Heap} {it l : Addr} {i : Nat} (x : ItK k h it l i) (e : ∀ o, h.get? it = some o → h'.get? it = some o) : ItK k h' it l i := by
  cases k
  · exact Heap.IsTupleIter.at x e
  · exact Heap.IsListIter.at x e
theorem ItK.obj {k : Bool} {h : Heap} {it l : Addr} {i : Nat} (x : ItK k h it l i) : ∃ o, h.get? it = some o ∧ ∃ fs, o.data = .fields fs := by
  cases k
  · obtain ⟨o, h1, _, h2⟩ := x; exact ⟨o, h1, _, h2⟩
  · obtain ⟨o, h1, _, h2⟩ := x; exact ⟨o, h1, _, h2⟩
theorem SqK.arr {X : Cx} {pins : List (Addr × Obj)} {σ : St} {H : Hp} {s : Shared} (I : Inv X pins σ H s) {k : Bool} {a : Addr} {xs : List V} (h : SqK X.K k H a xs) : ∃ its : List Value, Vals xs its ∧ ArK k s.heap a its.toArray ∧ a < s.heap.objs.size := by
  cases k
  · obtain ⟨its, rv, p, _⟩ := I.tuple h
    obtain ⟨o, ho, _⟩ := id p
    exact ⟨its, rv, p, Heap.lt_size ho⟩
  · obtain ⟨its, rv, p, _⟩ := I.list h
    exact ⟨its, rv, p.isList, p.lt⟩
theorem SqK.inj {X : Cx} {pins : List (Addr × Obj)} {σ : St} {H : Hp} {s : Shared} (I : Inv X pins σ H s) {k : Bool} {a : Addr} {xs ys : List V} (h : SqK X.K k H a xs) (h' : SqK X.K k H a ys) : xs = ys := by
  cases k
  · exact I.tuple_inj h h'
  · exact I.list_inj h h'
theorem drawsK (k : Bool) {prog : Program} {w : World} {A : Around} (hh : A.handled = none) (it l : Addr) (hne : l ≠ it) (items : Array Value) :
    Draws prog w A it [it, l] items.size (fun i v => items[i]? = some v) (fun i h => ItK k h it l i ∧ ArK k h l items) := by
  cases k
  · exact Draws.tuple hh it l hne items
  · exact Draws.list hh it l hne items
theorem beginsK (k : Bool) (l : Addr) (items : Array Value) : ∃ o : Obj, Begins (.ref l) o (fun h => ArK k h l items) ∧ ∀ (h : Heap) (it : Addr), h.get? it = some o → ItK k h it l 0 := by
  cases k
  · exact ⟨_, begins_tuple l items, fun h it e => ⟨_, e, rfl, rfl⟩⟩
  · exact ⟨_, begins_list l items, fun h it e => ⟨_, e, rfl, rfl⟩⟩
/-- the sequences as they stand at each turn, the items in new pairs -/
def ItzK (K : PySem.W.Frag) (k1 k2 : Bool) (a b : Addr) : It :=
  ⟨fun i H => ∃ (xs ys : List V) (x y : V), SqK K k1 H a xs ∧ SqK K k2 H b ys ∧ xs[i]? = some x ∧ ys[i]? = some y,
    fun i H v H' => ∃ T x y, v = .ref T ∧ H T = none ∧ H' = upd H T (.tup [x, y]) ∧ (∀ xs, SqK K k1 H a xs → xs[i]? = some x) ∧ ∀ ys, SqK K k2 H b ys → ys[i]? = some y,
    fun i H => ∃ xs ys : List V, SqK K k1 H a xs ∧ SqK K k2 H b ys ∧ (i ≤ xs.length ∧ i ≤ ys.length) ∧ (i = xs.length ∨ i = ys.length)⟩
theorem sepK {z TI TO i1 i2 a b : Addr} (D : ZipApart z TI TO i1 i2 a b) : ZipSep2 z TI TO i1 i2 [i1, a] [i2, b] where
  TIz := D.TIz
  TOz := D.TOz
  TITO := D.TITO
  TIi1 := D.TIi1
  mem1 := by simp
  zf1 := by simp [D.i1z.symm, D.l1z.symm]
  Tf1 := by simp [D.TOi1, D.l1TO.symm]
  TIi2 := D.TIi2
  mem2 := by simp
  zf2 := by simp [D.i2z.symm, D.l2z.symm]
  Tf2 := by simp [D.TOi2, D.l2TO.symm]
  sep1_2 := by simp [D.i12, D.l2i1.symm]
  sep2_1 := by simp [D.i12.symm, D.l1i2.symm]
theorem turn_zipK {P : Program} {w : World} {K : PySem.W.Frag} (k1 k2 : Bool) {elts : List Expr} {kk : Nat} {tpos : Pos} {a b z TI TO i1 i2 : Addr} (D : ZipApart z TI TO i1 i2 a b) :
    Turn P w K (.Tuple elts kk tpos) (ItzK K k1 k2 a b) [z, TI, TO, i1, i2] z (fun i h => IsZip h z TI TO .none ∧ IsPair h TI (.ref i1) (.ref i2) ∧ (∃ x y, IsPair h TO x y) ∧ ItK k1 h i1 a i ∧ ItK k2 h i2 b i) where
  mem := by simp
  obj := fun i h st c hc => by
    obtain ⟨hz, hTI, ⟨x, y, hTO⟩, t1, t2⟩ := st
    obtain ⟨o1, e1, f1, d1⟩ := t1.obj
    obtain ⟨o2, e2, f2, d2⟩ := t2.obj
    have e' : c = z ∨ c = TI ∨ c = TO ∨ c = i1 ∨ c = i2 := by simpa using hc
    rcases e' with q | q | q | q | q
    · rw [q]; exact ⟨_, hz, fun v q => nomatch q⟩
    · rw [q]; exact ⟨_, hTI, fun v q => nomatch q⟩
    · rw [q]; exact ⟨_, hTO, fun v q => nomatch q⟩
    · rw [q]; exact ⟨o1, e1, fun v q => by rw [d1] at q; cases q⟩
    · rw [q]; exact ⟨o2, e2, fun v q => by rw [d2] at q; cases q⟩
  keep := fun i h h' st k => by
    obtain ⟨hz, hTI, ⟨x, y, hTO⟩, h1, h2⟩ := st
    exact ⟨k z (by simp) _ hz, k TI (by simp) _ hTI, ⟨x, y, k TO (by simp) _ hTO⟩, h1.at fun o q => k i1 (by simp) o q, h2.at fun o q => k i2 (by simp) o q⟩
  item := by
    intro X hP hw hK hc i pins s σ H E I hf st hg
    subst hP hw hK
    obtain ⟨hz, hTI, ⟨x0, y0, hTO⟩, h1, h2⟩ := st
    obtain ⟨xs, ys, x, y, hqx, hqy, hx, hy⟩ := hg
    obtain ⟨its, rv, p, _⟩ := SqK.arr I hqx
    obtain ⟨its2, rv2, p2, _⟩ := SqK.arr I hqy
    obtain ⟨u, hu, ru⟩ := rv.get hx
    obtain ⟨u2, hu2, ru2⟩ := rv2.get hy
    have hzl : z < s.heap.objs.size := Heap.lt_size hz
    have hh : X.A.in1.handled = none := I.ok.hd hc
    have lt1 : i < its.toArray.size := by rw [List.size_toArray]; exact (List.getElem?_eq_some_iff.mp hu).1
    have lt2 : i < its2.toArray.size := by rw [List.size_toArray]; exact (List.getElem?_eq_some_iff.mp hu2).1
    refine wpAny_pyNext_zipD2_item (sepK D) (drawsK k1 hh i1 a D.l1i1 its.toArray) (drawsK k2 hh i2 b D.l2i2 its2.toArray) hz hTI hTO ⟨h1, p⟩ ⟨h2, p2⟩ lt1 lt2 fun v1 v2 h' tk e1 e2 z' TO' h1' h2' hT hsz hk => ?_
    have ev1 : v1 = u := by
      have e1' : its[i]? = some v1 := by simpa using e1
      rw [hu] at e1'; cases e1'; rfl
    have ev2 : v2 = u2 := by
      have e2' : its2[i]? = some v2 := by simpa using e2
      rw [hu2] at e2'; cases e2'; rfl
    subst ev1 ev2
    refine ⟨_, rfl, wpAny_letOwnedTupleGo_zip (s := { s with heap := h', toks := tk }) z' fun h'' z'' sb => ?_⟩
    have hT2 : h''.get? s.heap.objs.size = some { cls := .type "tuple", data := .seq #[v1, v2] } := (sb.2 _ (Nat.ne_of_gt hzl)).trans hT
    have new : ObjOk X.prog X.w (upd H s.heap.objs.size (.tup [x, y])) h'' s.heap.objs.size (.tup [x, y]) :=
      ⟨by show 2 ≤ sizeLine; decide, [v1, v2], .cons ru (.cons ru2 .nil), ⟨_, hT2, rfl, _, rfl⟩⟩
    have I1 : Inv X pins σ (upd H s.heap.objs.size (.tup [x, y])) { s with heap := h'', toks := tk } :=
      I.turnedNew (t' := tk) (ch := [z, TI, TO, i1, i2]) (fun c o hb q => (sb.2 c (fun q' => hb (by simp [q']))).trans (hk c o (fun q' => hb (by simp [q'])) (fun q' => hb (by simp [q'])) (fun q' => hb (by simp [q'])) (fun q' => hb (by simp [q'])) q)) hf (Nat.le_refl _) new
    refine ⟨.ref s.heap.objs.size, _, I1, rfl, ⟨_, x, y, rfl, I.hok.fresh (Nat.le_refl _), rfl, fun l hl => by rw [SqK.inj I hl hqx]; exact hx, fun l hl => by rw [SqK.inj I hl hqy]; exact hy⟩, ⟨z'', ?_, ⟨v1, v2, ?_⟩, ?_, ?_⟩, fun c hcm => ?_⟩
    · exact (sb.2 _ D.TIz).trans (hk _ _ D.TIz D.TITO D.TIi1 D.TIi2 hTI)
    · exact (sb.2 _ D.TOz).trans TO'
    · exact h1'.1.at fun o q => (sb.2 _ D.i1z).trans q
    · exact h2'.1.at fun o q => (sb.2 _ D.i2z).trans q
    · have hlt : c < s.heap.objs.size := by
        have e' : c = z ∨ c = TI ∨ c = TO ∨ c = i1 ∨ c = i2 := by simpa using hcm
        rcases e' with q | q | q | q | q
        · rw [q]; exact hzl
        · rw [q]; exact Heap.lt_size hTI
        · rw [q]; exact Heap.lt_size hTO
        · rw [q]; obtain ⟨_, e1, _⟩ := h1.obj; exact Heap.lt_size e1
        · rw [q]; obtain ⟨_, e2, _⟩ := h2.obj; exact Heap.lt_size e2
      rw [upd_ne (Nat.ne_of_lt hlt)]
      exact (hf c hcm).1
  done := by
    intro X hP hw hK hc i pins s σ H E I hf st hg
    subst hP hw hK
    obtain ⟨hz, hTI, ⟨x0, y0, hTO⟩, h1, h2⟩ := st
    obtain ⟨xs, ys, hqx, hqy, hle, hend⟩ := hg
    obtain ⟨its, rv, p, _⟩ := SqK.arr I hqx
    obtain ⟨its2, rv2, p2, _⟩ := SqK.arr I hqy
    have l1 := rv.length
    have l2 := rv2.length
    have hh : X.A.in1.handled = none := I.ok.hd hc
    exact wpAny_pyNext_zipD2_end (sepK D) (drawsK k1 hh i1 a D.l1i1 its.toArray) (drawsK k2 hh i2 b D.l2i2 its2.toArray) hz hTI hTO ⟨h1, p⟩ ⟨h2, p2⟩ (by rw [List.size_toArray]; omega) (by rw [List.size_toArray]; omega) (by rw [List.size_toArray, List.size_toArray]; omega) fun h' tk hk => ⟨rfl, I.turnedL (t' := tk) (ch := [z, TI, TO, i1, i2]) (fun c o hb q =>
      hk c o (fun q' => hb (by simp [q'])) (fun q' => hb (by simp [q'])) (fun q' => hb (by simp [q'])) (fun q' => hb (by simp [q'])) q) hf⟩
  self := fun A i s Q E st h => wpAny_pyIter_zip st.1 h
def iZipK (K : PySem.W.Frag) (ta : TA) : TI := fun σ H R => ta σ H fun vs H1 => ∃ k1 k2 a b xs ys, vs = [.ref a, .ref b] ∧ SqK K k1 H1 a xs ∧ SqK K k2 H1 b ys ∧ R (ItzK K k1 k2 a b) H1
theorem pi_zipK {X : Cx} {e e2 : Expr} {ta : TA} {p pos tpos : Pos} {elts : List Expr} {kk : Nat} (hg : Gl X "zip") (hm : X.mg "zip" = none) (ha : PA X [e, e2] ta)
    (hs : starEach [e, e2] X.env = (false, eval e X.env) :: starEach [e2] X.env := by rfl) (hpl : (backTo pos (starEach [e2] X.env)).any (·.1) = false := by rfl) :
    PI X (.Tuple elts kk tpos) (.Call (.Name "zip" p) [e, e2] [] pos) (iZipK X.K ta) := by
  refine ⟨fun pins s σ H R I h => ?_⟩
  refine Call_ (ld_blt I hg hm PyProof.Rows.boot_zip (PyProof.Rows.callWith_type1 (thn (ha.run pos pins s σ H _ I h) fun us s1 ⟨vs, H1, I1, r1, q1⟩ => ?_) hs hpl))
  obtain ⟨k1, k2, a, b, xs, ys, ex, hqx, hqy, q⟩ := q1
  subst ex
  cases r1 with
  | cons r rr =>
    cases rr with
    | cons r' rr =>
      cases rr
      cases r
      cases r'
      have fresh5 : ∀ c, c ∈ [s1.heap.objs.size + 4, s1.heap.objs.size + 2, s1.heap.objs.size + 3, s1.heap.objs.size, s1.heap.objs.size + 1] → FpOk X pins H1 c := fun c hcm => by
        have hle : s1.heap.objs.size ≤ c := by
          simp only [List.mem_cons, List.not_mem_nil, or_false] at hcm
          rcases hcm with z | z | z | z | z <;> (rw [z]; omega)
        exact I1.fpOk hle (I1.hok.fresh hle)
      obtain ⟨its, rv, p1, lt1⟩ := SqK.arr I1 hqx
      obtain ⟨its2, rv2, p2, lt2⟩ := SqK.arr I1 hqy
      obtain ⟨o1, B1, f1⟩ := beginsK k1 a its.toArray
      obtain ⟨o2, B2, f2⟩ := beginsK k2 b its2.toArray
      refine zip_begins2 B1 B2 p1 p2 fun h' hz hTI hTO h1 h2 hsz hk => wpAny_pyIter_zip hz ?_
      have I2 : Inv X pins σ H1 { s1 with heap := h' } := I1.kept (t' := s1.toks) hk
      exact ⟨s1.heap.objs.size + 4, [s1.heap.objs.size + 4, s1.heap.objs.size + 2, s1.heap.objs.size + 3, s1.heap.objs.size, s1.heap.objs.size + 1], _, _, H1, rfl, I2, turn_zipK k1 k2 (PySem.W.ktu_apart s1.heap.objs.size a b lt1 lt2), ⟨hz, hTI, ⟨_, _, hTO⟩, f1 _ _ h1, f2 _ _ h2⟩, fresh5, q⟩
end L2

set_option Elab.async false
set_option linter.all false
set_option maxRecDepth 100000
set_option maxHeartbeats 3200000
/-! sorted(set(xs)), xs a list of ints. -/
namespace EngQ
open PySem PySem.Spec PyProof.Rows L2 RZ PySem.Calls
/-- a new set's object -/
abbrev fob (w : World) : Obj := { cls := .type "set", dict := none, data := .set #[] 0 (.fresh 0 0 (!w.params.followText "set-order")) }
section
variable {P : Program} {w : World} {A : Around} {E : Value → Shared → Prop} {s : Shared}
end
/-- set(xs) -/
def rSetL (w : World) (K : PySem.W.Frag) : List V → Hp → VK → Prop := fun vs H Q => ∃ (a : Addr) (ns : List Int), vs = [V.ref a] ∧ SqL K H a (ns.map V.int) ∧ ns.length ≤ 1000 ∧ ∀ p c, H p = none → (∀ D : List Int, (∀ k ∈ ns, k ∈ D) → c ≤ D.length) → Q (.ref p) (upd H p (SetO w p (fun j => decide (j ∈ ns)) c))
section
variable {X : Cx}
end
end EngQ

set_option Elab.async false
set_option linter.all false
set_option maxRecDepth 100000
set_option maxHeartbeats 3200000
/-! sorted(set(xs)), xs a list of tuples of ints, of which few differ; turned from HandS.TupSets: its length is free, and a lone tuple may be empty. -/
namespace EngU
open PySem PySem.Spec PyProof.Rows L2
theorem cap_len {α : Type} [DecidableEq α] : ∀ (l D : List α), l.Nodup → (∀ x ∈ l, x ∈ D) → l.length ≤ D.length
  | [], _, _, _ => Nat.zero_le _
  | x :: l, D, hn, hs => by
    obtain ⟨h1, h2⟩ := List.nodup_cons.mp hn
    have hx : x ∈ D := hs x List.mem_cons_self
    have ih := cap_len l (D.erase x) h2 fun y hy => by
      have ne : y ≠ x := fun e => h1 (by rw [← e]; exact hy)
      exact (List.mem_erase_of_ne ne).2 (hs y (List.mem_cons_of_mem _ hy))
    have := List.length_erase_of_mem hx
    have := List.length_pos_of_mem hx
    rw [List.length_cons]; omega
section
open TS
variable {prog : Program} {w : World} {A : Around} {E : Value → Shared → Prop} {s : Shared}
end
section
variable {P : Program} {w : World} {A : Around} {E : Value → Shared → Prop} {s : Shared}
set_option maxRecDepth 100000 in
end
end EngU
namespace EngU
open PySem PySem.Spec PyProof.Rows L2
/-- set(xs), xs a list of tuples of ints, at most 62 of them different -/
def rSetU (K : PySem.W.Frag) (P : Program) (w : World) : List V → Hp → VK → Prop := fun xs H Q => ∃ (l : Addr) (ks : List (Addr × List Int)) (D : List (List Int)), xs = [V.ref l] ∧ SqL K H l (ks.map fun p => V.ref p.1) ∧ (∀ p ∈ ks, SqT K H p.1 (p.2.map V.int)) ∧ (∀ p ∈ ks, p.2 ∈ D) ∧ D.length + 1 < 64 ∧
  ∀ a L, H a = none → (∀ p ∈ L, p ∈ ks) → (∀ p ∈ ks, p.2 ∈ L.map (·.2)) → (L.map (·.2)).Nodup → Q (.ref a) (upd H a (SetTO P w a L))
/-- sorted(set), the tuples of d ints in [0, B) -/
def rSortedU (K : PySem.W.Frag) (P : Program) (w : World) : List V → Hp → VK → Prop := fun vs H Q => ∃ (a : Addr) (L : List (Addr × List Int)) (d : Nat) (B : Int), vs = [V.ref a] ∧ H a = some (SetTO P w a L) ∧ (∀ p ∈ L, SqT K H p.1 (p.2.map V.int)) ∧ (2 ≤ L.length → 1 ≤ d) ∧
  (∀ p ∈ L, p.2.length = d ∧ TS.Bd B p.2) ∧
  ∀ (L' : List (Addr × List Int)) (p : Addr), L'.Perm L → (L'.map (·.2)).Nodup → L'.length < 64 → L'.Pairwise (fun q r => TS.code B q.2 ≤ TS.code B r.2) → H p = none → Q (.ref p) (upd H p (.lst (L'.map fun q => V.ref q.1)))
section
variable {X : Cx}
end
/-! the order by code -/
end EngU

set_option Elab.async false
set_option linter.all false
set_option maxRecDepth 100000
set_option maxHeartbeats 3200000
/-! A set comprehension whose elements are whole numbers, or tuples of them; turned from HandS.SetBool's over truth values. -/
namespace L2
open PySem PySem.Spec PyProof.Rows PpSet
/-- what the set holds so far: nothing yet; numbers; tuples of numbers -/
inductive StV where
  | e | i (S : Int → Bool) (n : Nat) | t (L : List (Addr × List Int))
def SOV (P : Program) (w : World) (a : Addr) : StV → HO
  | .e => .ext fun h => SetR w h a (fun _ => false) 0 ∧ SetT0 P w h a []
  | .i S n => SetO w a S n
  | .t L => SetTO P w a L
/-- y is put in -/
def AdV (K : PySem.W.Frag) (y : V) (H : Hp) (k : StV → Prop) : StV → Prop
  | .e => (∃ i, y = .int i ∧ k (.i (fun j => decide (j = i)) 1)) ∨ ∃ x q, y = .ref x ∧ SqT K H x (q.map V.int) ∧ k (.t [(x, q)])
  | .i S n => ∃ i, y = .int i ∧ n + 1 < scanBound ∧ k (.i (fun j => S j || decide (j = i)) (if S i = true then n else n + 1))
  | .t L => ∃ x q, y = .ref x ∧ SqT K H x (q.map V.int) ∧ (∀ p ∈ L, SqT K H p.1 (p.2.map V.int)) ∧ L.length + 1 < 64 ∧ (q ∈ L.map (·.2) → k (.t L)) ∧ (q ∉ L.map (·.2) → ∀ L', L'.Perm ((x, q) :: L) → k (.t L'))
section
variable {P : Program} {w : World}
end
section
variable {P : Program} {w : World} {A : Around} {E : Value → Shared → Prop} {s : Shared}
end
section
variable {X : Cx}
def tSg (X : Cx) (wi : TI) (g : TG) (tt : TT) (te : TE) (vs : List Nat) : TE := fun σ H Q => wi σ H fun J H1 => ∀ D, H1 D = none → ∃ W : Nat → Nat → Hp → Prop, (∃ m, W 0 m (upd H1 D (SOV X.prog X.w D .e))) ∧ ∀ i m H, W i m H →
  (J.stop i H ∧ Q (.ref D) H) ∨ (J.go i H ∧ ∃ Nx : Hp → Prop, (∀ H', Nx H' → ∃ m', m' < m ∧ W (i + 1) m' H') ∧ ∀ x H', J.yld i H x H' → g x (wipe σ vs) H' fun σ2 H2 => wipe σ2 vs = wipe σ vs ∧ tt σ2 H2 fun b H3 =>
    if b = true then te σ2 H3 fun y H4 => ∃ st, H4 D = some (SOV X.prog X.w D st) ∧ AdV X.K y H4 (fun st' => Nx (upd H4 D (SOV X.prog X.w D st'))) st else Nx H3)
/-- sorted of an empty one -/
def rSortedEm (P : Program) (w : World) : List V → Hp → VK → Prop := fun vs H Q => ∃ (a : Addr), vs = [V.ref a] ∧ H a = some (SOV P w a .e) ∧ ∀ p, H p = none → Q (.ref p) (upd H p (.lst []))
end
end L2

set_option Elab.async false
set_option linter.all false
set_option maxRecDepth 100000
set_option maxHeartbeats 1000000
/-! Dicts by whole numbers: d[i], i in d, i not in d. -/
namespace L2
open PySem PySem.Spec PyProof.Rows
def rIxK : R2 := fun x y H Q => ∃ a ws i v, x = .ref a ∧ y = .int i ∧ H a = some (.dK ws) ∧ valV ws (.inl i) = some v ∧ Q v H
def rInK (n : Bool) : R2 := fun x y H Q => ∃ a ws i, y = .ref a ∧ x = .int i ∧ H a = some (.dK ws) ∧ Q (.bl (xor n (valV ws (.inl i)).isSome)) H
section
variable {X : Cx}
theorem ix_K (hu : X.A.units + 64 < cLine) : IxR X rIxK := by
  intro value slice pins s σ H x y v u Q I rx ry h hs
  obtain ⟨a, ws, i, w, rfl, rfl, ha, e, q⟩ := h
  cases rx
  obtain ⟨z, hd, vs, rel, dd⟩ := dk_rd I.hok (.inl ha)
  exact tail_any dd.typeIs PySem.F.slot_dict_getitem.lookup (d_getItem (y := .int i) (v := w) (by omega) I (.inl ⟨ws, .inl i, .inl ha, rfl, e.symm⟩) ry fun w' s' I' r' => ⟨w, H, I', r', q⟩) hs
end
end L2

set_option Elab.async false
set_option linter.all false
set_option maxRecDepth 100000
set_option maxHeartbeats 4000000
/-! Rules of the machine that the layer lacks: a tuple times one, any and sum of a tuple, sorted of data. -/
namespace L2
open PySem PySem.Spec PyProof.Rows
theorem tuple_mul_one (l : Addr) (items : Array Value) (n : Nat) (dd : Option Addr) (sl : Array (Option Value)) (u : Tok) :
    Meets (Builtin.«tuple.__mul__» ⟨[.ref l, .int 1 u], []⟩) (fun _ R s => s.heap.get? l = some { cls := .type "tuple", dict := dd, data := .seq items n, slots := sl } ∧ R (.ok (.ret (Value.ref l))) s) :=
  .of_wp fun prog w A R s h => by
    obtain ⟨hp, g, d, tk, os⟩ := s
    obtain ⟨hl, h⟩ := h
    have f1 := AutoSeq1.idx_int
    have c0 : (decide ((1 : Int) < -(2 ^ 63)) || decide ((1 : Int) ≥ 2 ^ 63)) = false := by decide
    have c1 : (items.isEmpty || (1 : Int) == 1) = true := by simp
    wp_walk using wpAny_loadPart' hl
    repeat (first
      | (refine wpAny_ite_false (decide_eq_false (by rw [c0]; exact Bool.false_ne_true)) ?_; wp_walk using wpAny_loadPart' hl)
      | (refine wpAny_ite_true (decide_eq_true (by rw [c1])) ?_; wp_walk using wpAny_loadPart' hl))
    exact ⟨_, rfl, h⟩
theorem tuple_mul_zero (l : Addr) (items : Array Value) (n : Nat) (dd : Option Addr) (sl : Array (Option Value)) (u : Tok) (hi : items.isEmpty = false) :
    Meets (Builtin.«tuple.__mul__» ⟨[.ref l, .int 0 u], []⟩) (fun _ R s => s.heap.get? l = some { cls := .type "tuple", dict := dd, data := .seq items n, slots := sl } ∧
      R (.ok (.ret (Value.ref s.heap.objs.size))) { s with heap := s.heap.push { cls := Value.type "tuple", data := Data.seq #[] }, toks := s.toks }) :=
  .of_wp fun prog w A R s h => by
    obtain ⟨hp, g, d, tk, os⟩ := s
    obtain ⟨hl, h⟩ := h
    have f1 := AutoSeq1.idx_int
    have c0 : (decide ((0 : Int) < -(2 ^ 63)) || decide ((0 : Int) ≥ 2 ^ 63)) = false := by decide
    have c1 : (items.isEmpty || (0 : Int) == 1) = false := by rw [hi]; rfl
    have c2 : (decide ((0 : Int) ≤ 0) || items.isEmpty) = true := by simp
    wp_walk using wpAny_loadPart' hl
    repeat (first
      | (refine wpAny_ite_false (decide_eq_false (by rw [c0]; exact Bool.false_ne_true)) ?_; wp_walk using wpAny_loadPart' hl)
      | (refine wpAny_ite_false (decide_eq_false (by rw [c1]; exact Bool.false_ne_true)) ?_; wp_walk using wpAny_loadPart' hl)
      | (refine wpAny_ite_true (decide_eq_true (by rw [c2])) ?_; wp_walk using wpAny_loadPart' hl))
    exact ⟨_, rfl, h⟩
section
variable {X : Cx}
theorem op_repT0 : OpR X (binaryOp .Mult) (fun x y H Q => ∃ l xs, x = .ref l ∧ y = .int 0 ∧ SqT X.K H l xs ∧ xs ≠ [] ∧ ∀ p, H p = none → Q (.ref p) (upd H p (.tup []))) := by
  intro pins s σ H x y v u Q I rx ry h
  obtain ⟨l, xs, rfl, rfl, hT, hne, q⟩ := h
  cases rx
  obtain ⟨t, rfl⟩ := ry
  obtain ⟨its, r, ⟨⟨cls, dd, data, sl⟩, ho, hc, n, hd⟩, hs⟩ := I.tuple hT
  simp only at hc hd
  subst hc hd
  have hle : its.length = xs.length := r.length.symm
  have hn : its ≠ [] := fun e => hne (by
    rw [e] at hle
    exact List.eq_nil_of_length_eq_zero hle.symm)
  have hi : its.toArray.isEmpty = false := by
    cases its with
    | nil => exact absurd rfl hn
    | cons a b => rfl
  refine wpAny_binaryOp_repeat_ref (T := "tuple") (U := "int") (by decide) ⟨_, ho, rfl⟩ (fun s' => typeIs_int s' 0 t) noFill_tuple_mul F.fills_int_mul F.slot_int_rmul repeat_tuple F.slot_int_index.lookup
    (call_meets F.slot_int_rmul (typeIs_int s 0 t) F.entry_int_rmul (F.args_int_rmul_2 _ _) (int_rmul_tuple 0 t l its.toArray n dd sl)
      ⟨ho, rfl, ⟨_, ho, rfl⟩, call_meets F.slot_tuple_mul ⟨_, ho, rfl⟩ F.entry_tuple_mul (F.args_tuple_mul_2 _ _) (tuple_mul_zero l its.toArray n dd sl t hi) ⟨ho, ?_⟩⟩)
  refine ⟨.ref s.heap.objs.size, _, I.laid (t' := s.toks) (o := .tup []) (fun b ob q => Heap.get?_push_of_some _ q) (Nat.le_refl _) ?_, rfl, q _ (I.hok.fresh (Nat.le_refl _))⟩
  exact ⟨by simp, [], .nil, IsTup.new _ _⟩
theorem op_repT1 : OpR X (binaryOp .Mult) (fun x y H Q => ∃ l xs, x = .ref l ∧ y = .int 1 ∧ SqT X.K H l xs ∧ Q (.ref l) H) := by
  intro pins s σ H x y v u Q I rx ry h
  obtain ⟨l, xs, rfl, rfl, hT, q⟩ := h
  cases rx
  obtain ⟨t, rfl⟩ := ry
  obtain ⟨its, r, ⟨⟨cls, dd, data, sl⟩, ho, hc, n, hd⟩, hs⟩ := I.tuple hT
  simp only at hc hd
  subst hc hd
  refine wpAny_binaryOp_repeat_ref (T := "tuple") (U := "int") (by decide) ⟨_, ho, rfl⟩ (fun s' => typeIs_int s' 1 t) noFill_tuple_mul F.fills_int_mul F.slot_int_rmul repeat_tuple F.slot_int_index.lookup
    (call_meets F.slot_int_rmul (typeIs_int s 1 t) F.entry_int_rmul (F.args_int_rmul_2 _ _) (int_rmul_tuple 1 t l its.toArray n dd sl)
      ⟨ho, rfl, ⟨_, ho, rfl⟩, call_meets F.slot_tuple_mul ⟨_, ho, rfl⟩ F.entry_tuple_mul (F.args_tuple_mul_2 _ _) (tuple_mul_one l its.toArray n dd sl t) ⟨ho, ?_⟩⟩)
  exact ⟨.ref l, H, I, rfl, q⟩
theorem dp_ints {K : PySem.W.Frag} {H : Hp} : ∀ ns : List Int, DpAll K H (ns.map V.int) (ns.map PyData.int)
  | [] => .nil
  | n :: ns => .cons (.int n) (dp_ints ns)
theorem plain_ints : ∀ ns : List Int, PyData.plainAll (ns.map PyData.int) = true
  | [] => rfl
  | n :: ns => by simp only [List.map_cons, PyData.plainAll, PyData.plain, plain_ints ns, Bool.and_self]
/-- any(t), t a tuple of ints -/
theorem cr_anyT (hc : X.calm = true) : CallR X (.builtin "any") (fun vs H Q => ∃ (a : Addr) (ns : List Int), vs = [V.ref a] ∧ SqT X.K H a (ns.map V.int) ∧ Q (.bl (ns.any fun i => i != 0)) H) := by
  intro pins s σ H vs us Q I r h
  obtain ⟨a, ns, rfl, hs, q⟩ := h
  obtain ⟨its, rv, hl, _⟩ := I.tuple hs
  rw [Vals.ref1 r]
  have hi := rv.ints
  have hd : ∃ as, ReadsAll s.heap its (ns.map PyData.int) as := Dp.readsAll I _ (ns.map V.int) its (dp_ints ns) rv
  obtain ⟨as, hr⟩ := hd
  refine PySem.W.any_tuple_data (I.ok.hd hc) hl hr ?_ (fun x hx => ?_) fun h' tk hk => ?_
  · exact plain_ints ns
  · obtain ⟨n, _, rfl⟩ := List.mem_map.mp hx
    simp only [PyData.fits63]
  · have e : (ns.map PyData.int).any PyData.truthy = ns.any fun i => i != 0 := by
      rw [List.any_map]
      rfl
    rw [e]
    exact ⟨.bl _, H, I.kept (t' := tk) hk, rfl, q⟩
/-- any(l), l a list of ints -/
theorem cr_anyI (hc : X.calm = true) : CallR X (.builtin "any") (fun vs H Q => ∃ (a : Addr) (ns : List Int), vs = [V.ref a] ∧ SqL X.K H a (ns.map V.int) ∧ Q (.bl (ns.any fun i => i != 0)) H) := by
  intro pins s σ H vs us Q I r h
  obtain ⟨a, ns, rfl, hs, q⟩ := h
  obtain ⟨its, rv, hl, _⟩ := I.list hs
  rw [Vals.ref1 r]
  have hd : ∃ as, ReadsAll s.heap its (ns.map PyData.int) as := Dp.readsAll I _ (ns.map V.int) its (dp_ints ns) rv
  obtain ⟨as, hr⟩ := hd
  refine PySem.W.any_list_data (I.ok.hd hc) hl.isList hr ?_ (fun x hx => ?_) fun h' tk hk => ?_
  · exact plain_ints ns
  · obtain ⟨n, _, rfl⟩ := List.mem_map.mp hx
    simp only [PyData.fits63]
  · have e : (ns.map PyData.int).any PyData.truthy = ns.any fun i => i != 0 := by
      rw [List.any_map]
      rfl
    rw [e]
    exact ⟨.bl _, H, I.kept (t' := tk) hk, rfl, q⟩
/-- sum(t), t a tuple of ints -/
theorem cr_sumT (hc : X.calm = true) : CallR X (.builtin "sum") (fun vs H Q => ∃ (a : Addr) (ns : List Int), vs = [V.ref a] ∧ SqT X.K H a (ns.map V.int) ∧ Q (.int ns.sum) H) := by
  intro pins s σ H vs us Q I r h
  obtain ⟨a, ns, rfl, hs, q⟩ := h
  obtain ⟨its, rv, hl, _⟩ := I.tuple hs
  rw [Vals.ref1 r]
  have hi := rv.ints
  obtain ⟨xs, e⟩ := hi.allInts.items
  have hn : numsOf (intItems xs).toList = ns := by rw [← e]; exact hi.numsOf
  rw [nums_intItems] at hn
  rw [e] at hl
  refine PySem.W.ktm_sumG (I.ok.hd hc) hl fun h' tk t' hk => ?_
  refine ⟨.int ns.sum, H, I.kept (t' := tk) hk, ⟨t', ?_⟩, q⟩
  rw [preSum_eq, List.take_of_length_le (by simp), hn]
/-- sorted(xs), of data that can be ordered -/
theorem cr_sortedD (hu : X.A.units + 64 < cLine) : CallR X (.builtin "sorted") (fun vs H Q => ∃ (a : Addr) (xs : List V) (ds : List PyData), vs = [V.ref a] ∧ SqL X.K H a xs ∧ DpAll X.K H xs ds ∧ Eng.sortOk ds ∧
    ∀ (zs : List (V × PyData)) p, zs.Perm (xs.zip ds) → zs.map (·.2) = ds.mergeSort (PySem.W.dataLe false id) → H p = none → Q (.ref p) (upd H p (.lst (zs.map (·.1))))) := by
  intro pins s σ H vs us Q I r h
  obtain ⟨a, xs, ds, rfl, hs, hd, hok, q⟩ := h
  obtain ⟨its, rv, hl, hz⟩ := I.list hs
  rw [Vals.ref1 r]
  have lz : its.length = xs.length := rv.length.symm
  have ld : xs.length = ds.length := DpAll.len hd
  rcases hok with ⟨h2, _⟩ | ⟨hal, hso, hdp⟩
  · refine Srt.sorted_any hl.isList (by rw [← rv.length]; exact hz) (fun h => by omega) fun out hp => ?_
    have eo : out = its := by
      match its, out, hp, (show its.length < 2 by omega) with
      | [], out, hp, _ => exact hp.eq_nil
      | [x], out, hp, _ => exact List.perm_singleton.mp hp
      | _ :: _ :: _, _, _, h => exact absurd h (by simp)
    subst eo
    have em : ds.mergeSort (PySem.W.dataLe false id) = ds := by
      match ds, h2 with
      | [], _ => simp
      | [x], _ => simp
      | _ :: _ :: _, h => exact absurd h (by simp)
    obtain ⟨n, hn⟩ := sortedAll_at s.heap out out.toArray
    have e1 : (xs.zip ds).map (·.1) = xs := List.map_fst_zip (by omega)
    have e2 : (xs.zip ds).map (·.2) = ds := List.map_snd_zip (by omega)
    refine ⟨.ref _, upd H (s.heap.objs.size + 1) (.lst xs), I.laid (t' := s.toks) (fun b o e => sortedAll_old e) (Nat.le_succ _) ⟨hz, out, n, rv, hn⟩, rfl, ?_⟩
    have := q (xs.zip ds) (s.heap.objs.size + 1) (List.Perm.refl _) (by rw [e2, em]) (I.hok.fresh (Nat.le_succ _))
    rw [e1] at this
    exact this
  · have hR : ∀ {ds : List PyData} {xs : List V} {its : List Value}, DpAll X.K H xs ds → Vals xs its → PySem.W.EachIs (fun u (p : V × PyData) => RelV p.1 u ∧ ∃ as, Reads s.heap u p.2 as) its (xs.zip ds) := by
      intro ds
      induction ds with
      | nil => intro xs its h r; cases h; cases r; exact .nil
      | cons d ds ih =>
        intro xs its h r
        cases h with
        | cons h1 h2 =>
          cases r with
          | cons r1 r2 => exact .cons ⟨r1, Dp.reads I _ _ _ h1 r1⟩ (ih h2 r2)
    have e2 : (xs.zip ds).map (·.2) = ds := List.map_snd_zip (by omega)
    have each := hR hd rv
    refine PySem.W.sorted_data (enc := fun p : V × PyData => p.2) (R := fun u (p : V × PyData) => RelV p.1 u) (bs := xs.zip ds) hl.isList (each.mono fun _ _ h => h.1) (each.mono fun _ _ h => h.2) (by rw [e2]; exact hal) (by rw [e2]; exact hso) (by rw [List.length_zip]; omega) (fun b hb => ?_) fun out ho ho2 => ?_
    · have := hdp b.2 (by rw [← e2]; exact List.mem_map_of_mem hb)
      omega
    · have hvs : ∀ {zs : List (V × PyData)} {out : List Value}, PySem.W.EachIs (fun u (p : V × PyData) => RelV p.1 u) out zs → Vals (zs.map (·.1)) out := by
        intro zs
        induction zs with
        | nil => intro out h; cases h; exact .nil
        | cons z zs ih => intro out h; cases h with | cons h1 h2 => exact .cons h1 (ih h2)
      obtain ⟨n, hn⟩ := sortedAll_at s.heap its out.toArray
      have hm : ((xs.zip ds).mergeSort (PySem.W.dataLe false fun p : V × PyData => p.2)).map (·.2) = ds.mergeSort (PySem.W.dataLe false id) := by
        refine (PySem.W.sort_maps (s := PySem.W.dataLe false id) (fun p : V × PyData => p.2) (fun _ _ _ _ => rfl)).trans ?_
        rw [e2]
      have hv := hvs ho2
      refine ⟨.ref _, upd H (s.heap.objs.size + 1) (.lst (((xs.zip ds).mergeSort (PySem.W.dataLe false fun p : V × PyData => p.2)).map (·.1))), I.laid (t' := s.toks) (fun b o e => sortedAll_old e) (Nat.le_succ _) ⟨?_, out, n, hv, hn⟩, rfl, ?_⟩
      · rw [List.length_map, List.length_mergeSort, List.length_zip]; omega
      · exact q _ _ (List.mergeSort_perm _ _) hm (I.hok.fresh (Nat.le_succ _))
end
end L2

set_option Elab.async false
set_option linter.all false
set_option maxRecDepth 100000
/-! sorted(d), d.get(k, x): dicts of ours. -/
namespace L2
open PySem PySem.Spec PyProof.Rows PySem.Calls Eng PySem.W
section
variable {X : Cx} {pins : List (Addr × Obj)} {σ : St} {H : Hp} {s : Shared}
mutual
theorem nk_reads (I : Inv X pins σ H s) : ∀ (d : PyData) (v : V) (u : Value) (k : NestedKey), Dp X.K H v d → RelV v u → nk d = some k → Reads s.heap u d []
  | .none, _, _, k, h, r, e => by
    cases h
    cases r
    exact .none
  | .int i, _, _, k, h, r, e => by
    cases h
    obtain ⟨t, rfl⟩ := r
    exact .int i t
  | .tuple ds, _, _, k, h, r, e => by
    simp only [nk, Option.map_eq_some_iff] at e
    obtain ⟨ks, e, rfl⟩ := e
    cases h with
    | tup hs ha =>
      cases r
      obtain ⟨its, rv, ⟨o, ho, hc, n, hd⟩, _⟩ := I.tuple hs
      exact .tuple ho hc hd (nkAll_reads I ds _ its ks ha rv e)
  | .bool b, _, _, k, h, r, e => by simp [nk] at e
  | .str b, _, _, k, h, r, e => by simp [nk] at e
  | .list b, _, _, k, h, r, e => by simp [nk] at e
  | .dict b, _, _, k, h, r, e => by simp [nk] at e
theorem nkAll_reads (I : Inv X pins σ H s) : ∀ (ds : List PyData) (vs : List V) (us : List Value) (ks : List NestedKey), DpAll X.K H vs ds → Vals vs us → nkAll ds = some ks → ReadsAll s.heap us ds []
  | [], _, _, ks, h, r, e => by
    cases h
    cases r
    exact .nil
  | d :: ds, _, _, ks, h, r, e => by
    simp only [nkAll, Option.bind_eq_some_iff, Option.map_eq_some_iff] at e
    obtain ⟨k, e1, ks', e2, rfl⟩ := e
    cases h with
    | cons h1 h2 =>
      cases r with
      | cons r1 r2 =>
        have := ReadsAll.cons (nk_reads I d _ _ k h1 r1 e1) (nkAll_reads I ds _ _ ks' h2 r2 e2)
        exact this
end
end
/-- sorted(d) -/
def rSortE (K : PySem.W.Frag) : List V → Hp → VK → Prop := fun vs H Q => ∃ (a : Addr) (es : List (NestedKey × Addr × Value)) (kvs : List (NestedKey × PyData)) (Hf : Hp), Sub Hf H ∧ vs = [V.ref a] ∧ (a == sysModules) = false ∧ H a = some (.ext (DicPhi a es)) ∧ DicAt K Hf es kvs ∧ (es.map (·.1)).Nodup ∧ kvs.length ≤ sizeLine ∧
  AllAlike (kvs.map (·.1.data)) ∧ Sortable (kvs.map (·.1.data)) ∧ (∀ d ∈ kvs.map (·.1.data), d.depth ≤ 60) ∧
  ∀ (vs : List V) p, DpAll K Hf vs ((kvs.map (·.1.data)).mergeSort (PySem.W.dataLe false id)) → H p = none → Q (.ref p) (upd H p (.lst vs))
section
variable {X : Cx}
end
/-! ### d.get(k, x) -/
def IsDic (H : Hp) (x : V) : Prop := ∃ a es, x = .ref a ∧ H a = some (.ext (DicPhi a es))
def rGetE (K : PySem.W.Frag) : V → List V → Hp → VK → Prop := fun x xs H Q => ∃ a es kvs kd k Hf y z, Sub Hf H ∧ x = .ref a ∧ (a == sysModules) = false ∧ H a = some (.ext (DicPhi a es)) ∧ DicAt K Hf es kvs ∧ (es.map (·.1)).Nodup ∧ xs = [y, z] ∧ Dp K H y kd ∧ keyOfD kd = some k ∧ (∀ d, valN kvs k = some d → ∀ v, Dp K Hf v d → Q v H) ∧ (valN kvs k = none → Q z H)
section
variable {X : Cx}
def tDGetE (K : PySem.W.Frag) (to : TE) (t : TA) : TE := fun σ H Q => to σ H fun x H1 => IsDic H1 x ∧ t σ H1 fun xs H2 => rGetE K x xs H2 Q
end
end L2

set_option Elab.async false
set_option linter.all false
set_option maxRecDepth 100000
set_option maxHeartbeats 1000000
/-! A tuple backwards, list(d), {k: v}, x in a list or a tuple of data. -/
namespace HT
open PySem PySem.Spec PyProof.Rows
section
variable {prog : Program} {w : World} {A : Around} {E : Value → Shared → Prop} {s : Shared}
end
end HT
namespace L2
open PySem PySem.Spec PyProof.Rows PySem.Calls Eng PySem.W
section
variable {X : Cx}
/-- t[::-1], t a tuple; l[::-1], l a list -/
def tRevA (K : PySem.W.Frag) (te : TE) : TE := fun σ H Q => te σ H fun x H1 => ∃ a xs, x = .ref a ∧ ((SqL K H1 a xs ∧ ∀ p, H1 p = none → Q (.ref p) (upd H1 p (.lst xs.reverse))) ∨ (SqT K H1 a xs ∧ ∀ p, H1 p = none → Q (.ref p) (upd H1 p (.tup xs.reverse))))
/-- list(d) -/
def rListE (K : PySem.W.Frag) : List V → Hp → VK → Prop := fun vs H Q => ∃ (a : Addr) (es : List (NestedKey × Addr × Value)) (kvs : List (NestedKey × PyData)) (Hf : Hp), Sub Hf H ∧ vs = [V.ref a] ∧ (a == sysModules) = false ∧ H a = some (.ext (DicPhi a es)) ∧ DicAt K Hf es kvs ∧ (es.map (·.1)).Nodup ∧ kvs.length ≤ sizeLine ∧
  ∀ (vs : List V) p, DpAll K Hf vs (kvs.map (·.1.data)) → H p = none → Q (.ref p) (upd H p (.lst vs))
/-- len(d) -/
def rLenE (K : PySem.W.Frag) : List V → Hp → VK → Prop := fun vs H Q => ∃ (a : Addr) (es : List (NestedKey × Addr × Value)) (kvs : List (NestedKey × PyData)) (Hf : Hp), Sub Hf H ∧ vs = [V.ref a] ∧ (a == sysModules) = false ∧ H a = some (.ext (DicPhi a es)) ∧ DicAt K Hf es kvs ∧ (es.map (·.1)).Nodup ∧ kvs.length ≤ sizeLine ∧ Q (.int kvs.length) H
/-- {k: v} -/
def tDNew1E (K : PySem.W.Frag) (tk tv : TE) : TE := fun σ H Q => ∀ p, H p = none → (p == sysModules) = false → tk σ (upd H p (.ext (DicPhi p []))) fun x H1 => tv σ H1 fun y H2 =>
  ∃ kd k d Hf, Sub Hf H2 ∧ Hf p = none ∧ H2 p = some (.ext (DicPhi p [])) ∧ Dp K Hf x kd ∧ keyOfD kd = some k ∧ Dp K Hf y d ∧ ∀ es', DicAt K Hf es' [(k, d)] → (es'.map (·.1)).Nodup → Q (.ref p) (upd H2 p (.ext (DicPhi p es')))
/-- x in c, c a list or a tuple of data -/
theorem room_in {A : Nat} {xs : List PyData} {d : PyData} (h : d.depth ≤ 60) (hu : A + 64 < cLine) : A + 1 + min (PyData.depthAll xs) d.depth < cLine := by
  have := Nat.min_le_right (PyData.depthAll xs) d.depth
  omega
theorem op_inA (hu : X.A.units + 64 < cLine) : OpR X (compareOp .In) (fun x y H Q => ∃ d c ds, Dp X.K H x d ∧ Dp X.K H y c ∧ (c = .list ds ∨ c = .tuple ds) ∧ d.canLay0 = true ∧ PyData.canLayAll0 ds = true ∧ d.depth ≤ 60 ∧ Q (.bl (ds.any fun z => PyData.eqv z d)) H) := by
  intro pins s σ H x y v u Q I rx ry h
  obtain ⟨d, c, ds, hd, he, hc, sd, se, hz, q⟩ := h
  obtain ⟨as, r1⟩ := Dp.reads I d x v hd rx
  obtain ⟨bs, r2⟩ := Dp.reads I c y u he ry
  rcases hc with rfl | rfl
  · exact SeqAt.in_list_reads r2 r1 se sd (room_in hz hu) ⟨.bl _, H, I, rfl, q⟩
  · exact SeqAt.in_tuple_reads r2 r1 se sd (room_in hz hu) ⟨.bl _, H, I, rfl, q⟩
theorem op_notInA (hu : X.A.units + 64 < cLine) : OpR X (compareOp .NotIn) (fun x y H Q => ∃ d c ds, Dp X.K H x d ∧ Dp X.K H y c ∧ (c = .list ds ∨ c = .tuple ds) ∧ d.canLay0 = true ∧ PyData.canLayAll0 ds = true ∧ d.depth ≤ 60 ∧ Q (.bl (!ds.any fun z => PyData.eqv z d)) H) := by
  intro pins s σ H x y v u Q I rx ry h
  obtain ⟨d, c, ds, hd, he, hc, sd, se, hz, q⟩ := h
  obtain ⟨as, r1⟩ := Dp.reads I d x v hd rx
  obtain ⟨bs, r2⟩ := Dp.reads I c y u he ry
  rcases hc with rfl | rfl
  · exact SeqAt.notIn_list_reads r2 r1 se sd (room_in hz hu) ⟨.bl _, H, I, rfl, q⟩
  · exact SeqAt.notIn_tuple_reads r2 r1 se sd (room_in hz hu) ⟨.bl _, H, I, rfl, q⟩
end
end L2

set_option Elab.async false
set_option linter.all false
set_option maxRecDepth 100000
set_option maxHeartbeats 1000000
/-! Operators, comparisons, subscripts, built-ins: by values. -/
namespace Eng
open PySem PySem.Spec PyProof.Rows L2
section
variable {X : Cx} {XR : XRel} {W : WX}
theorem op_catL : OpR X (binaryOp .Add) (fun x y H Q => ∃ l b xs zs, x = .ref l ∧ y = .ref b ∧ SqL X.K H l xs ∧ SqL X.K H b zs ∧ xs.length + zs.length ≤ sizeLine ∧ ∀ p, H p = none → Q (.ref p) (upd H p (.lst (xs ++ zs)))) := by
  intro pins s σ H x y v u Q I rx ry h
  obtain ⟨l, b, xs, zs, rfl, rfl, hH, hB, hz, q⟩ := h
  cases rx
  cases ry
  obtain ⟨its, r, ⟨⟨cls, dd, data, sl⟩, n, e, hc, hd', hd⟩, hl⟩ := I.list hH
  obtain ⟨its2, r2, ⟨⟨cls2, dd2, data2, sl2⟩, n2, e2, hc2, hd2', hd2⟩, hl2⟩ := I.list hB
  simp only at hc hd hc2 hd2
  subst hc hd hc2 hd2
  have ea : its.toArray ++ its2.toArray = (its ++ its2).toArray := by simp
  have l1 := r.length
  have l2 := r2.length
  refine concat_meets ⟨_, e, rfl⟩ ⟨_, e2, rfl⟩ noFill_list_add seq_list_add PySem.F.slot_list_add PySem.F.entry_list_add (PySem.F.args_list_add_2 _ _) (list_addW l b its.toArray its2.toArray n n2 dd dd2 sl sl2 (by rw [List.size_toArray, List.size_toArray]; omega)) ⟨e, e2, ?_⟩
  rw [ea]
  exact ⟨.ref _, _, I.lnew (t' := s.toks) (r.append r2) (by rw [List.length_append]; omega), rfl, q _ I.fresh⟩

abbrev Here (X : Cx) (H : Hp) (x y : V) (d e : PyData) (z : PyData) (Q : VK) : Prop := ∃ Hf ρ ω σ env m, At X.K H σ Hf ρ ω env m ∧ RepB X.K H Hf ρ x (.dat d) ∧ RepB X.K H Hf ρ y (.dat e) ∧
    ∀ v H' Hf' ρ', Pres H Hf ρ H' Hf' ρ' → Fine X.K H' Hf' ρ' m → RepU X.K Hf' ρ' v (.dat z) → Q v H'
theorem sz_app {xs ys : List PyData} (h : szAll xs = true) (h' : szAll ys = true) : szAll (xs ++ ys) = true := by
  rw [szAll_iff] at *
  intro d hd
  rcases List.mem_append.mp hd with q | q
  · exact h d q
  · exact h' d q
theorem op_bin (o : BinO) (op : Operator) (hb : binB o op = true) : OpR X (binaryOp op) (opD X.K (binVal o)) := by
  refine op_cases fun d e z hz => ?_
  cases o <;> cases op <;> simp only [binB, Bool.false_eq_true] at hb
  · -- add
    cases d <;> cases e <;> simp only [binVal, reduceCtorEq, Option.some.injEq] at hz
    · subst hz
      refine OpR.imp op_add fun x y H Q ⟨Hf, ρ, ω, σ, env, m, a, r1, r2, q⟩ => ?_
      rw [r1.int, r2.int]
      exact ⟨_, _, rfl, rfl, q _ H Hf ρ (Pres.refl _ _ _) a.fine ⟨.int _, rfl⟩⟩
    · split at hz
      · rename_i hs
        cases hz
        refine OpR.imp op_add_str fun x y H Q ⟨Hf, ρ, ω, σ, env, m, a, r1, r2, q⟩ => ?_
        obtain ⟨e1, z1⟩ := r1.str
        obtain ⟨e2, z2⟩ := r2.str
        rw [e1, e2]
        refine ⟨_, _, rfl, rfl, hs, q _ H Hf ρ (Pres.refl _ _ _) a.fine ⟨.str _, ?_⟩⟩
        simp only [szOk, decide_eq_true_eq] at z1 z2 ⊢
        refine Nat.le_trans (Nat.le_of_eq ?_) hs
        exact Array.size_append
      · cases hz
    · split at hz
      · rename_i xs ys hs
        cases hz
        refine OpR.imp op_catL fun x y H Q ⟨Hf, ρ, ω, σ, env, m, a, r1, r2, q⟩ => ?_
        obtain ⟨p, vs, rfl, h1, h2, h3⟩ := r1.list a.fine.sub
        obtain ⟨p', vs', rfl, h1', h2', h3'⟩ := r2.list a.fine.sub
        refine ⟨p, p', vs, vs', rfl, rfl, h1, h1', by rw [h2.len, h2'.len]; exact hs, fun b hb => ?_⟩
        have hfb := a.free hb
        refine q _ _ _ ρ (Pres.new hb a.fine.sub) (a.fine.new hb) ⟨.lst (.inl (.inl upd_same)) (DpAll.mono (Sub.new hfb.1) _ _ (h2.app h2')), ?_⟩
        rw [sz_list] at *
        exact ⟨by rw [List.length_append]; exact hs, sz_app h3.2 h3'.2⟩
      · cases hz
    · split at hz
      · rename_i xs ys hs
        cases hz
        refine OpR.imp op_catA fun x y H Q ⟨Hf, ρ, ω, σ, env, m, a, r1, r2, q⟩ => ?_
        have r1' := r1
        have r2' := r2
        obtain ⟨p, vs, rfl, h1, h2, h3⟩ := r1.tup a.fine.sub
        obtain ⟨p', vs', rfl, h1', h2', h3'⟩ := r2.tup a.fine.sub
        have toU : ∀ {v : V} {ds : List PyData}, RepB X.K H Hf ρ v (.dat (.tuple ds)) → RepU X.K Hf ρ v (.dat (.tuple ds)) := fun {v ds} r => by
          rcases r with r | ⟨p, vs, ys, e, _⟩
          · exact r
          · cases e
        refine ⟨p, p', vs, vs', rfl, rfl, h1, h1', by rw [h2.len, h2'.len]; exact hs, fun e => ?_, fun _ e => ?_, fun _ _ b hb => ?_⟩
        · have : xs = [] := List.eq_nil_of_length_eq_zero (by rw [← h2.len, e]; rfl)
          subst this
          exact q _ H Hf ρ (Pres.refl _ _ _) a.fine (by rw [List.nil_append]; exact toU r2')
        · have : ys = [] := List.eq_nil_of_length_eq_zero (by rw [← h2'.len, e]; rfl)
          subst this
          exact q _ H Hf ρ (Pres.refl _ _ _) a.fine (by rw [List.append_nil]; exact toU r1')
        · have hfb := a.free hb
          refine q _ _ _ ρ (Pres.new hb a.fine.sub) (a.fine.new hb) ⟨.tup (.inl (.inl upd_same)) (DpAll.mono (Sub.new hfb.1) _ _ (h2.app h2')), ?_⟩
          rw [sz_tuple] at *
          exact ⟨by rw [List.length_append]; exact hs, sz_app h3.2 h3'.2⟩
      · cases hz
  · -- sub
    cases d <;> cases e <;> simp only [binVal, reduceCtorEq, Option.some.injEq] at hz
    subst hz
    refine OpR.imp op_sub fun x y H Q ⟨Hf, ρ, ω, σ, env, m, a, r1, r2, q⟩ => ?_
    rw [r1.int, r2.int]
    exact ⟨_, _, rfl, rfl, q _ H Hf ρ (Pres.refl _ _ _) a.fine ⟨.int _, rfl⟩⟩
  · -- mul
    cases d <;> cases e <;> simp only [binVal, reduceCtorEq, Option.some.injEq] at hz
    · split at hz
      · rename_i hs
        cases hz
        refine OpR.imp op_mul fun x y H Q ⟨Hf, ρ, ω, σ, env, m, a, r1, r2, q⟩ => ?_
        rw [r1.int, r2.int]
        exact ⟨_, _, rfl, rfl, hs, q _ H Hf ρ (Pres.refl _ _ _) a.fine ⟨.int _, rfl⟩⟩
      · cases hz
    · split at hz
      · rename_i xs k hs
        cases hz
        refine OpR.imp (OpR.or op_repT0 (OpR.or op_repT1 op_repT)) fun x y H Q ⟨Hf, ρ, ω, σ, env, m, a, r1, r2, q⟩ => ?_
        have r1' := r1
        obtain ⟨p, vs, rfl, h1, h2, h3⟩ := r1.tup a.fine.sub
        rw [r2.int]
        have hvn : vs ≠ [] := fun e => hs.1 (List.eq_nil_of_length_eq_zero (by rw [← h2.len, e]; rfl))
        by_cases hk0 : k = 0
        · subst hk0
          refine .inl ⟨p, vs, rfl, rfl, h1, hvn, fun b hb => ?_⟩
          exact q _ _ _ ρ (Pres.new hb a.fine.sub) (a.fine.new hb) ⟨.tup (.inl (.inl upd_same)) .nil, by show szOk (.tuple []) = true; rfl⟩
        by_cases hk1 : k = 1
        · subst hk1
          refine .inr (.inl ⟨p, vs, rfl, rfl, h1, q _ H Hf ρ (Pres.refl _ _ _) a.fine ?_⟩)
          have e1 : (List.replicate (1 : Int).toNat xs).flatten = xs := by
            show (List.replicate 1 xs).flatten = xs
            simp
          rw [e1]
          rcases r1' with r | ⟨_, _, _, e, _⟩
          · exact r
          · cases e
        have hk2 : 2 ≤ k := by have := hs.2.2.1; omega
        refine .inr <| .inr ⟨p, _, vs, rfl, rfl, h1, fun e => hs.1 (List.eq_nil_of_length_eq_zero (by rw [← h2.len, e]; rfl)), hk2, hs.2.2.2, by rw [h2.len]; exact hs.2.1, fun b hb => ?_⟩
        have hfb := a.free hb
        have rep : ∀ n : Nat, DpAll X.K Hf (List.replicate n vs).flatten (List.replicate n xs).flatten := fun n => by
          induction n with
          | zero => exact .nil
          | succ n ih => rw [List.replicate_succ, List.replicate_succ, List.flatten_cons, List.flatten_cons]; exact h2.app ih
        have sz : ∀ n : Nat, szAll (List.replicate n xs).flatten = true ∧ (List.replicate n xs).flatten.length = n * xs.length := fun n => by
          induction n with
          | zero => exact ⟨rfl, by simp⟩
          | succ n ih => rw [List.replicate_succ, List.flatten_cons]; exact ⟨sz_app (sz_tuple.mp h3).2 ih.1, by rw [List.length_append, ih.2, Nat.succ_mul]; omega⟩
        refine q _ _ _ ρ (Pres.new hb a.fine.sub) (a.fine.new hb) ⟨.tup (.inl (.inl upd_same)) (DpAll.mono (Sub.new hfb.1) _ _ (rep _)), ?_⟩
        rw [sz_tuple]
        refine ⟨?_, (sz _).1⟩
        rw [(sz _).2, sizeLine_eq]
        have : k.toNat * xs.length ≤ 1000 * 1000 := Nat.mul_le_mul (by omega) hs.2.1
        omega
      · cases hz
  · -- mod
    cases d <;> cases e <;> simp only [binVal, reduceCtorEq, Option.some.injEq] at hz
    split at hz
    · rename_i hs
      cases hz
      refine OpR.imp op_mod fun x y H Q ⟨Hf, ρ, ω, σ, env, m, a, r1, r2, q⟩ => ?_
      rw [r1.int, r2.int]
      exact ⟨_, _, rfl, rfl, hs, q _ H Hf ρ (Pres.refl _ _ _) a.fine ⟨.int _, rfl⟩⟩
    · cases hz
  · -- fdiv
    cases d <;> cases e <;> simp only [binVal, reduceCtorEq, Option.some.injEq] at hz
    split at hz
    · rename_i hs
      cases hz
      refine OpR.imp op_fdivW fun x y H Q ⟨Hf, ρ, ω, σ, env, m, a, r1, r2, q⟩ => ?_
      rw [r1.int, r2.int]
      exact ⟨_, _, rfl, rfl, hs, q _ H Hf ρ (Pres.refl _ _ _) a.fine ⟨.int _, rfl⟩⟩
    · cases hz
  · -- pow
    cases d <;> cases e <;> simp only [binVal, reduceCtorEq, Option.some.injEq] at hz
    split at hz
    · rename_i hs
      cases hz
      refine OpR.imp op_pow fun x y H Q ⟨Hf, ρ, ω, σ, env, m, a, r1, r2, q⟩ => ?_
      rw [r1.int, r2.int]
      exact ⟨_, _, rfl, rfl, hs, q _ H Hf ρ (Pres.refl _ _ _) a.fine ⟨.int _, rfl⟩⟩
    · cases hz
  · -- shl
    cases d <;> cases e <;> simp only [binVal, reduceCtorEq, Option.some.injEq] at hz
    split at hz
    · rename_i hs
      cases hz
      refine OpR.imp op_shl fun x y H Q ⟨Hf, ρ, ω, σ, env, m, a, r1, r2, q⟩ => ?_
      rw [r1.int, r2.int]
      exact ⟨_, _, rfl, rfl, hs, q _ H Hf ρ (Pres.refl _ _ _) a.fine ⟨.int _, rfl⟩⟩
    · cases hz
  · -- bor
    cases d <;> cases e <;> simp only [binVal, reduceCtorEq, Option.some.injEq] at hz
    cases hz
    refine OpR.imp op_or fun x y H Q ⟨Hf, ρ, ω, σ, env, m, a, r1, r2, q⟩ => ?_
    rw [r1.int, r2.int]
    exact ⟨_, _, rfl, rfl, q _ H Hf ρ (Pres.refl _ _ _) a.fine ⟨.int _, rfl⟩⟩
  · -- band
    cases d <;> cases e <;> simp only [binVal, reduceCtorEq, Option.some.injEq] at hz
    cases hz
    refine OpR.imp op_and fun x y H Q ⟨Hf, ρ, ω, σ, env, m, a, r1, r2, q⟩ => ?_
    rw [r1.int, r2.int]
    exact ⟨_, _, rfl, rfl, q _ H Hf ρ (Pres.refl _ _ _) a.fine ⟨.int _, rfl⟩⟩
end
end Eng

set_option Elab.async false
set_option linter.all false
set_option maxRecDepth 100000
set_option maxHeartbeats 1000000
/-! Operators, comparisons, subscripts, built-ins: by values. -/
namespace Eng
open PySem PySem.Spec PyProof.Rows L2
section
variable {X : Cx} {XR : XRel} {W : WX}
theorem RepB.isNon {K : PySem.W.Frag} {H Hf : Hp} {ρ : List Addr} {v : V} {d : PyData} (r : RepB K H Hf ρ v (.dat d)) : decide (v = .non) = isNoneD d := by
  rcases r with ⟨d', hz⟩ | ⟨p, vs, ys, e, rfl, h, _, _, ha, hz⟩
  · cases d' <;> rfl
  · cases e; rfl
theorem op_isD {d e z : PyData} (hz : cmpVal .is d e = some z) : OpR X (compareOp .Is) (fun x y H Q => ∃ Hf ρ ω σ env m, At X.K H σ Hf ρ ω env m ∧ RepB X.K H Hf ρ x (.dat d) ∧ RepB X.K H Hf ρ y (.dat e) ∧
    ∀ v H' Hf' ρ', Pres H Hf ρ H' Hf' ρ' → Fine X.K H' Hf' ρ' m → RepU X.K Hf' ρ' v (.dat z) → Q v H') := by
  cases e with
  | none =>
    have hz' : z = .bool (isNoneD d) := by cases d <;> exact (Option.some.inj hz).symm
    subst hz'
    refine OpR.imp op_isN fun x y H Q ⟨Hf, ρ, ω, σ, env, m, a, r1, r2, q⟩ => ?_
    refine ⟨r2.none, q _ H Hf ρ (Pres.refl _ _ _) a.fine ?_⟩
    rw [r1.isNon]
    exact ⟨.bl _, rfl⟩
  | bool b =>
    cases d <;> simp only [cmpVal, reduceCtorEq, Option.some.injEq] at hz
    subst hz
    refine OpR.imp op_isBl fun x y H Q ⟨Hf, ρ, ω, σ, env, m, a, r1, r2, q⟩ => ?_
    rw [r1.bool, r2.bool]
    exact ⟨_, _, rfl, rfl, q _ H Hf ρ (Pres.refl _ _ _) a.fine ⟨.bl _, rfl⟩⟩
  | _ => cases d <;> simp only [cmpVal, reduceCtorEq] at hz
theorem op_isnotD {d e z : PyData} (hz : cmpVal .isnot d e = some z) : OpR X (compareOp .IsNot) (fun x y H Q => ∃ Hf ρ ω σ env m, At X.K H σ Hf ρ ω env m ∧ RepB X.K H Hf ρ x (.dat d) ∧ RepB X.K H Hf ρ y (.dat e) ∧
    ∀ v H' Hf' ρ', Pres H Hf ρ H' Hf' ρ' → Fine X.K H' Hf' ρ' m → RepU X.K Hf' ρ' v (.dat z) → Q v H') := by
  cases e with
  | none =>
    have hz' : z = .bool (!isNoneD d) := by cases d <;> exact (Option.some.inj hz).symm
    subst hz'
    refine OpR.imp op_notN fun x y H Q ⟨Hf, ρ, ω, σ, env, m, a, r1, r2, q⟩ => ?_
    refine ⟨r2.none, q _ H Hf ρ (Pres.refl _ _ _) a.fine ?_⟩
    rw [r1.isNon]
    exact ⟨.bl _, rfl⟩
  | bool b =>
    cases d <;> simp only [cmpVal, reduceCtorEq, Option.some.injEq] at hz
    subst hz
    refine OpR.imp op_notBl fun x y H Q ⟨Hf, ρ, ω, σ, env, m, a, r1, r2, q⟩ => ?_
    rw [r1.bool, r2.bool]
    exact ⟨_, _, rfl, rfl, q _ H Hf ρ (Pres.refl _ _ _) a.fine ⟨.bl _, rfl⟩⟩
  | _ => cases d <;> simp only [cmpVal, reduceCtorEq] at hz
theorem op_eqq {d e z : PyData} (hu : X.A.units + 64 < cLine) (hz : cmpVal .eq d e = some z) : OpR X (compareOp .Eq) (fun x y H Q => ∃ Hf ρ ω σ env m, At X.K H σ Hf ρ ω env m ∧ RepB X.K H Hf ρ x (.dat d) ∧ RepB X.K H Hf ρ y (.dat e) ∧
    ∀ v H' Hf' ρ', Pres H Hf ρ H' Hf' ρ' → Fine X.K H' Hf' ρ' m → RepU X.K Hf' ρ' v (.dat z) → Q v H') := by
  have gen : (if SeqAt.shaped d = true ∧ SeqAt.shaped e = true then some (PyData.bool (PyData.eqv d e)) else none) = some z → OpR X (compareOp .Eq) (fun x y H Q => ∃ Hf ρ ω σ env m, At X.K H σ Hf ρ ω env m ∧ RepB X.K H Hf ρ x (.dat d) ∧ RepB X.K H Hf ρ y (.dat e) ∧
    ∀ v H' Hf' ρ', Pres H Hf ρ H' Hf' ρ' → Fine X.K H' Hf' ρ' m → RepU X.K Hf' ρ' v (.dat z) → Q v H') := fun hz => by
    split at hz
    · rename_i hs
      cases hz
      refine OpR.imp (op_eqD hu) fun x y H Q ⟨Hf, ρ, ω, σ, env, m, a, r1, r2, q⟩ => ?_
      obtain ⟨d1, s1⟩ := r1.dp a.fine.sub
      obtain ⟨d2, s2⟩ := r2.dp a.fine.sub
      exact ⟨_, _, d1, d2, hs.1, hs.2, q _ H Hf ρ (Pres.refl _ _ _) a.fine ⟨.bl _, rfl⟩⟩
    · cases hz
  cases d with
  | int i =>
    cases e with
    | int j =>
      cases hz
      refine OpR.imp op_eq fun x y H Q ⟨Hf, ρ, ω, σ, env, m, a, r1, r2, q⟩ => ?_
      rw [r1.int, r2.int]
      refine ⟨rfl, q _ H Hf ρ (Pres.refl _ _ _) a.fine ⟨?_, rfl⟩⟩
      rw [show decide (V.int i = V.int j) = decide (i = j) from by rw [dec_int, Bool.beq_eq_decide_eq]]
      exact .bl _
    | _ => exact gen hz
  | str i =>
    cases e with
    | str j =>
      cases hz
      refine OpR.imp op_eq fun x y H Q ⟨Hf, ρ, ω, σ, env, m, a, r1, r2, q⟩ => ?_
      rw [r1.str.1, r2.str.1]
      refine ⟨rfl, q _ H Hf ρ (Pres.refl _ _ _) a.fine ⟨?_, rfl⟩⟩
      rw [show decide (V.str i = V.str j) = decide (i = j) from by rw [dec_str, Bool.beq_eq_decide_eq]]
      exact .bl _
    | _ => exact gen hz
  | _ => cases e <;> exact gen hz
theorem op_nee {d e z : PyData} (hu : X.A.units + 64 < cLine) (hz : cmpVal .ne d e = some z) : OpR X (compareOp .NotEq) (fun x y H Q => ∃ Hf ρ ω σ env m, At X.K H σ Hf ρ ω env m ∧ RepB X.K H Hf ρ x (.dat d) ∧ RepB X.K H Hf ρ y (.dat e) ∧
    ∀ v H' Hf' ρ', Pres H Hf ρ H' Hf' ρ' → Fine X.K H' Hf' ρ' m → RepU X.K Hf' ρ' v (.dat z) → Q v H') := by
  have gen : (if SeqAt.shaped d = true ∧ SeqAt.shaped e = true then some (PyData.bool (!PyData.eqv d e)) else none) = some z → OpR X (compareOp .NotEq) (fun x y H Q => ∃ Hf ρ ω σ env m, At X.K H σ Hf ρ ω env m ∧ RepB X.K H Hf ρ x (.dat d) ∧ RepB X.K H Hf ρ y (.dat e) ∧
    ∀ v H' Hf' ρ', Pres H Hf ρ H' Hf' ρ' → Fine X.K H' Hf' ρ' m → RepU X.K Hf' ρ' v (.dat z) → Q v H') := fun hz => by
    split at hz
    · rename_i hs
      cases hz
      refine OpR.imp (op_neD hu) fun x y H Q ⟨Hf, ρ, ω, σ, env, m, a, r1, r2, q⟩ => ?_
      obtain ⟨d1, s1⟩ := r1.dp a.fine.sub
      obtain ⟨d2, s2⟩ := r2.dp a.fine.sub
      exact ⟨_, _, d1, d2, hs.1, hs.2, q _ H Hf ρ (Pres.refl _ _ _) a.fine ⟨.bl _, rfl⟩⟩
    · cases hz
  cases d with
  | int i =>
    cases e with
    | int j =>
      cases hz
      refine OpR.imp op_ne fun x y H Q ⟨Hf, ρ, ω, σ, env, m, a, r1, r2, q⟩ => ?_
      rw [r1.int, r2.int]
      refine ⟨rfl, q _ H Hf ρ (Pres.refl _ _ _) a.fine ⟨?_, rfl⟩⟩
      rw [show decide (V.int i = V.int j) = decide (i = j) from by rw [dec_int, Bool.beq_eq_decide_eq]]
      exact .bl _
    | _ => exact gen hz
  | str i =>
    cases e with
    | str j =>
      cases hz
      refine OpR.imp op_ne fun x y H Q ⟨Hf, ρ, ω, σ, env, m, a, r1, r2, q⟩ => ?_
      rw [r1.str.1, r2.str.1]
      refine ⟨rfl, q _ H Hf ρ (Pres.refl _ _ _) a.fine ⟨?_, rfl⟩⟩
      rw [show decide (V.str i = V.str j) = decide (i = j) from by rw [dec_str, Bool.beq_eq_decide_eq]]
      exact .bl _
    | _ => exact gen hz
  | _ => cases e <;> exact gen hz
theorem op_inn {d e z : PyData} (hu : X.A.units + 64 < cLine) (hz : cmpVal .in_ d e = some z) : OpR X (compareOp .In) (fun x y H Q => ∃ Hf ρ ω σ env m, At X.K H σ Hf ρ ω env m ∧ RepB X.K H Hf ρ x (.dat d) ∧ RepB X.K H Hf ρ y (.dat e) ∧
    ∀ v H' Hf' ρ', Pres H Hf ρ H' Hf' ρ' → Fine X.K H' Hf' ρ' m → RepU X.K Hf' ρ' v (.dat z) → Q v H') := by
  cases e <;> simp only [cmpVal, reduceCtorEq] at hz
  all_goals
    split at hz
    · rename_i hs
      cases hz
      refine OpR.imp (op_inA hu) fun x y H Q ⟨Hf, ρ, ω, σ, env, m, a, r1, r2, q⟩ => ?_
      obtain ⟨d1, s1⟩ := r1.dp a.fine.sub
      obtain ⟨d2, s2⟩ := r2.dp a.fine.sub
      exact ⟨_, _, _, d1, d2, by first | exact .inl rfl | exact .inr rfl, hs.1, hs.2.1, hs.2.2, q _ H Hf ρ (Pres.refl _ _ _) a.fine ⟨.bl _, rfl⟩⟩
    · cases hz
theorem op_ninn {d e z : PyData} (hu : X.A.units + 64 < cLine) (hz : cmpVal .notin d e = some z) : OpR X (compareOp .NotIn) (fun x y H Q => ∃ Hf ρ ω σ env m, At X.K H σ Hf ρ ω env m ∧ RepB X.K H Hf ρ x (.dat d) ∧ RepB X.K H Hf ρ y (.dat e) ∧
    ∀ v H' Hf' ρ', Pres H Hf ρ H' Hf' ρ' → Fine X.K H' Hf' ρ' m → RepU X.K Hf' ρ' v (.dat z) → Q v H') := by
  cases e <;> simp only [cmpVal, reduceCtorEq] at hz
  all_goals
    split at hz
    · rename_i hs
      cases hz
      refine OpR.imp (op_notInA hu) fun x y H Q ⟨Hf, ρ, ω, σ, env, m, a, r1, r2, q⟩ => ?_
      obtain ⟨d1, s1⟩ := r1.dp a.fine.sub
      obtain ⟨d2, s2⟩ := r2.dp a.fine.sub
      exact ⟨_, _, _, d1, d2, by first | exact .inl rfl | exact .inr rfl, hs.1, hs.2.1, hs.2.2, q _ H Hf ρ (Pres.refl _ _ _) a.fine ⟨.bl _, rfl⟩⟩
    · cases hz
theorem op_cmp (hu : X.A.units + 64 < cLine) (o : CmpO) (op : CmpOp) (hb : cmpB o op = true) : OpR X (compareOp op) (opD X.K (cmpVal o)) := by
  refine op_cases fun d e z hz => ?_
  cases o <;> cases op <;> simp only [cmpB, Bool.false_eq_true] at hb
  · exact op_eqq hu hz
  · exact op_nee hu hz
  rotate_left 4
  · exact op_isD hz
  · exact op_isnotD hz
  · exact op_inn hu hz
  · exact op_ninn hu hz
  all_goals (cases d <;> cases e <;> simp only [cmpVal, reduceCtorEq, Option.some.injEq] at hz)
  · subst hz
    refine OpR.imp op_lt fun x y H Q ⟨Hf, ρ, ω, σ, env, m, a, r1, r2, q⟩ => ?_
    rw [r1.int, r2.int]
    exact ⟨_, _, rfl, rfl, q _ H Hf ρ (Pres.refl _ _ _) a.fine ⟨.bl _, rfl⟩⟩
  · subst hz
    refine OpR.imp op_le fun x y H Q ⟨Hf, ρ, ω, σ, env, m, a, r1, r2, q⟩ => ?_
    rw [r1.int, r2.int]
    exact ⟨_, _, rfl, rfl, q _ H Hf ρ (Pres.refl _ _ _) a.fine ⟨.bl _, rfl⟩⟩
  · subst hz
    refine OpR.imp op_gt fun x y H Q ⟨Hf, ρ, ω, σ, env, m, a, r1, r2, q⟩ => ?_
    rw [r1.int, r2.int]
    exact ⟨_, _, rfl, rfl, q _ H Hf ρ (Pres.refl _ _ _) a.fine ⟨.bl _, rfl⟩⟩
  · subst hz
    refine OpR.imp op_ge fun x y H Q ⟨Hf, ρ, ω, σ, env, m, a, r1, r2, q⟩ => ?_
    rw [r1.int, r2.int]
    exact ⟨_, _, rfl, rfl, q _ H Hf ρ (Pres.refl _ _ _) a.fine ⟨.bl _, rfl⟩⟩

/-! ### subscripts -/
def ixD (K : PySem.W.Frag) : R2 := fun x y H Q => (∃ Hf ρ ω σ env m d i z, At K H σ Hf ρ ω env m ∧ RepB K H Hf ρ x (.dat d) ∧ y = .int i ∧ ixVal d (.int i) = some z ∧
    ∀ v H' Hf' ρ', Pres H Hf ρ H' Hf' ρ' → Fine K H' Hf' ρ' m → RepU K Hf' ρ' v (.dat z) → Q v H') ∨
  (∃ Hf ρ ω σ env m k xs j z, At K H σ Hf ρ ω env m ∧ RepB K H Hf ρ x (.ref k) ∧ y = .int j ∧ m[k]? = some (.lst xs) ∧ L2.atI xs j = some z ∧
    ∀ v H' Hf' ρ', Pres H Hf ρ H' Hf' ρ' → Fine K H' Hf' ρ' m → RepU K Hf' ρ' v (.dat z) → Q v H')
theorem IxR.imp {r r' : R2} (h : IxR X r) (hi : ∀ x y H Q, r' x y H Q → r x y H Q) : IxR X r' := fun a b pins s σ H x y v u Q I rx ry q hs => h a b pins s σ H x y v u Q I rx ry (hi _ _ _ _ q) hs
theorem atI_rep {K : PySem.W.Frag} {H : Hp} {vs : List V} {ds : List PyData} (h : DpAll K H vs ds) {i : Int} {z : PyData} (e : atI ds i = some z) : ∃ v, atI vs i = some v ∧ Dp K H v z := by
  unfold atI at *
  rw [h.len]
  cases hj : ixN ds.length i with
  | none => rw [hj] at e; cases e
  | some j =>
    rw [hj] at e
    exact h.get (show ds[j]? = some z from e)
theorem atI_mem {ds : List PyData} {i : Int} {z : PyData} (e : atI ds i = some z) : z ∈ ds := by
  unfold atI at e
  cases hj : ixN ds.length i with
  | none => rw [hj] at e; cases e
  | some j => rw [hj] at e; exact List.mem_of_getElem? (show ds[j]? = some z from e)
theorem ix_D : IxR X (ixD X.K) := by
  refine IxR.imp ix_seq fun x y H Q h => ?_
  rcases h with ⟨Hf, ρ, ω, σ, env, m, d, i, z, a, r, rfl, hz, q⟩ | ⟨Hf, ρ, ω, σ, env, m, k, xs, j, z, a, r, rfl, hk, hz, q⟩
  · cases d <;> simp only [ixVal, reduceCtorEq] at hz
    · obtain ⟨p, vs, rfl, h1, h2, h3⟩ := r.list a.fine.sub
      obtain ⟨v, e1, e2⟩ := atI_rep h2 hz
      exact .inl ⟨p, vs, i, v, rfl, rfl, h1, e1, q _ H Hf ρ (Pres.refl _ _ _) a.fine ⟨e2, szAll_iff.mp (sz_list.mp h3).2 _ (atI_mem hz)⟩⟩
    · obtain ⟨p, vs, rfl, h1, h2, h3⟩ := r.tup a.fine.sub
      obtain ⟨v, e1, e2⟩ := atI_rep h2 hz
      exact .inr (.inl ⟨p, vs, i, v, rfl, rfl, h1, e1, q _ H Hf ρ (Pres.refl _ _ _) a.fine ⟨e2, szAll_iff.mp (sz_tuple.mp h3).2 _ (atI_mem hz)⟩⟩)
  · rcases r with ⟨p, e, rfl⟩ | ⟨p, vs, ys, e, _⟩
    · obtain ⟨vs, h1, h2, h3⟩ := a.fine.at_ k p _ e hk
      obtain ⟨v, e1, e2⟩ := atI_rep h2 hz
      exact .inl ⟨p, vs, j, v, rfl, rfl, .inl (.inl h1), e1, q _ H Hf ρ (Pres.refl _ _ _) a.fine ⟨e2, szAll_iff.mp (sz_list.mp h3).2 _ (atI_mem hz)⟩⟩
    · cases e
def slD (K : PySem.W.Frag) : V → Option Int → Option Int → Hp → VK → Prop := fun x lo hi H Q => ∃ Hf ρ ω σ env m d z, At K H σ Hf ρ ω env m ∧ RepB K H Hf ρ x (.dat d) ∧ slVal d lo hi = some z ∧
    ∀ v H' Hf' ρ', Pres H Hf ρ H' Hf' ρ' → Fine K H' Hf' ρ' m → RepU K Hf' ρ' v (.dat z) → Q v H'
theorem SlR.imp {r r' : V → Option Int → Option Int → Hp → VK → Prop} (h : SlR X r) (hi : ∀ x l u H Q, r' x l u H Q → r x l u H Q) : SlR X r' := fun pins s σ H x v vl vu lo hi' sl Q I rx hs pl pu q => h pins s σ H x v vl vu lo hi' sl Q I rx hs pl pu (hi _ _ _ _ _ q)
theorem cut_rep {K : PySem.W.Frag} {H : Hp} {vs : List V} {ds : List PyData} (h : DpAll K H vs ds) (lo hi : Option Int) : DpAll K H (cutV vs lo hi) (cutD ds lo hi) := by
  unfold cutV cutD
  rw [h.len]
  exact (h.drop _).take _
theorem cut_sz {ds : List PyData} (h : szAll ds = true) (lo hi : Option Int) : szAll (cutD ds lo hi) = true ∧ (cutD ds lo hi).length ≤ ds.length := by
  unfold cutD
  refine ⟨?_, ?_⟩
  · rw [szAll_iff] at *
    intro d hd
    exact h d (List.mem_of_mem_drop (List.mem_of_mem_take hd))
  · rw [List.length_take, List.length_drop]; omega
theorem sl_D : SlR X (slD X.K) := by
  refine SlR.imp (SlR.or sl_list sl_tupA) fun x lo hi H Q ⟨Hf, ρ, ω, σ, env, m, d, z, a, r, hz, q⟩ => ?_
  cases d with
  | list xs =>
    simp only [slVal, reduceCtorEq, Option.some.injEq] at hz
    subst hz
    obtain ⟨p, vs, rfl, h1, h2, h3⟩ := r.list a.fine.sub
    refine .inl ⟨p, vs, rfl, h1, fun b hb => ?_⟩
    have hfb := a.free hb
    rw [sz_list] at h3
    obtain ⟨s1, s2⟩ := cut_sz h3.2 lo hi
    exact q _ _ _ ρ (Pres.new hb a.fine.sub) (a.fine.new hb) ⟨.lst (.inl (.inl upd_same)) (DpAll.mono (Sub.new hfb.1) _ _ (cut_rep h2 lo hi)), sz_list.mpr ⟨by omega, s1⟩⟩
  | tuple xs =>
    simp only [slVal, reduceCtorEq, Option.some.injEq] at hz
    subst hz
    have r' := r
    obtain ⟨p, vs, rfl, h1, h2, h3⟩ := r.tup a.fine.sub
    refine .inr ⟨p, vs, rfl, h1, fun w => ?_, fun _ b hb => ?_⟩
    · have : cutD xs lo hi = xs := by
        unfold cutD
        rw [h2.len] at w
        rw [w.1, w.2]; simp
      rw [this] at q
      rcases r' with r' | ⟨_, _, _, e, _⟩
      · exact q _ H Hf ρ (Pres.refl _ _ _) a.fine r'
      · cases e
    · have hfb := a.free hb
      rw [sz_tuple] at h3
      obtain ⟨s1, s2⟩ := cut_sz h3.2 lo hi
      exact q _ _ _ ρ (Pres.new hb a.fine.sub) (a.fine.new hb) ⟨.tup (.inl (.inl upd_same)) (DpAll.mono (Sub.new hfb.1) _ _ (cut_rep h2 lo hi)), sz_tuple.mpr ⟨by omega, s1⟩⟩
  | _ => simp only [slVal, reduceCtorEq] at hz
end
end Eng

set_option Elab.async false
set_option linter.all false
set_option maxRecDepth 100000
set_option maxHeartbeats 1000000
/-! Built-ins by values. -/
namespace Eng
open PySem PySem.Spec PyProof.Rows L2
section
variable {X : Cx} {XR : XRel} {W : WX}
theorem CallR.imp {f : Value} {r r' : List V → Hp → VK → Prop} (h : CallR X f r) (hi : ∀ xs H Q, r' xs H Q → r xs H Q) : CallR X f r' := fun pins s σ H xs us Q I rx q => h pins s σ H xs us Q I rx (hi _ _ _ q)
def b1D (K : PySem.W.Frag) (f : B1) : List V → Hp → VK → Prop := fun xs H Q => ∃ Hf ρ ω σ env m x d z, xs = [x] ∧ At K H σ Hf ρ ω env m ∧ RepB K H Hf ρ x (.dat d) ∧ b1Val f d = some z ∧
  ∀ v H' Hf' ρ', Pres H Hf ρ H' Hf' ρ' → Fine K H' Hf' ρ' m → RepU K Hf' ρ' v (.dat z) → Q v H'
def b1C : B1 → Value
  | .len => .builtin "len" | .tuple => .type "tuple" | .list => .type "list" | .abs => .builtin "abs" | .int => .type "int" | .all => .builtin "all" | .any => .builtin "any" | .sum => .builtin "sum" | .max => .builtin "max" | .min => .builtin "min" | .repr => .builtin "repr" | .sorted => .builtin "sorted"
theorem b1boot (f : B1) : bootBuiltins (b1N f) = some (b1C f) := by cases f <;> decide +kernel
theorem maxL_mem : ∀ {ns : List Int}, ns ≠ [] → maxL ns ∈ ns ∧ ∀ y ∈ ns, y ≤ maxL ns
  | [], h => absurd rfl h
  | [x], _ => by simp [maxL]
  | x :: y :: r, _ => by
    obtain ⟨h1, h2⟩ := maxL_mem (ns := y :: r) (by simp)
    have e : maxL (x :: y :: r) = max x (maxL (y :: r)) := rfl
    rw [e]
    refine ⟨?_, fun z hz => ?_⟩
    · rcases Int.le_total x (maxL (y :: r)) with q | q
      · rw [Int.max_eq_right q]; exact List.mem_cons_of_mem _ h1
      · rw [Int.max_eq_left q]; exact List.mem_cons_self
    · rcases List.mem_cons.mp hz with rfl | hz
      · exact Int.le_max_left ..
      · exact Int.le_trans (h2 z hz) (Int.le_max_right ..)
theorem minL_mem : ∀ {ns : List Int}, ns ≠ [] → minL ns ∈ ns ∧ ∀ y ∈ ns, minL ns ≤ y
  | [], h => absurd rfl h
  | [x], _ => by simp [minL]
  | x :: y :: r, _ => by
    obtain ⟨h1, h2⟩ := minL_mem (ns := y :: r) (by simp)
    have e : minL (x :: y :: r) = min x (minL (y :: r)) := rfl
    rw [e]
    refine ⟨?_, fun z hz => ?_⟩
    · rcases Int.le_total x (minL (y :: r)) with q | q
      · rw [Int.min_eq_left q]; exact List.mem_cons_self
      · rw [Int.min_eq_right q]; exact List.mem_cons_of_mem _ h1
    · rcases List.mem_cons.mp hz with rfl | hz
      · exact Int.min_le_left ..
      · exact Int.le_trans (Int.min_le_right ..) (h2 z hz)
theorem cr_repr (hg : X.A.guards = some []) (hu : X.A.units + 64 < cLine) : CallR X (.builtin "repr") (fun xs H Q => ∃ x d, xs = [x] ∧ Dp X.K H x d ∧ szOk d = true ∧ d.showable = true ∧ d.shown.length ≤ sizeLine ∧ d.depth ≤ 60 ∧ Q (.str d.shown) H) := by
  intro pins s σ H xs us Q I r h
  obtain ⟨x, d, rfl, hd, hsz, hs, hl, hdp, q⟩ := h
  obtain ⟨u, rfl, ru⟩ := vals1 r
  cases d with
  | none =>
    cases hd; cases ru
    exact PySem.P.repr_of_none ⟨.str _, H, I.tok _, ⟨_, rfl⟩, q⟩
  | bool b =>
    cases hd; cases ru
    exact PySem.P.repr_of_bool ⟨.str _, H, I.tok _, ⟨_, rfl⟩, q⟩
  | int i =>
    cases hd; obtain ⟨t, rfl⟩ := ru
    exact PySem.P.repr_of_int (of_decide_eq_true hs) ⟨.str _, H, I.tok _, ⟨_, rfl⟩, q⟩
  | str z =>
    cases hd; obtain ⟨t, rfl⟩ := ru
    exact PySem.P.repr_of_str ⟨.str _, H, I.tok _, ⟨_, rfl⟩, q⟩ hl
  | list ds =>
    obtain ⟨as, rd⟩ := Dp.reads I _ x u hd ru
    cases hd
    cases ru
    refine repr_of_reads' rd hs (PyData.noDict_hsm (noDict_of_sz _ hsz)) hg (by omega) (fun _ _ e => e) (fun h' u tk hk => ?_) hl
    exact ⟨.str _, H, I.kept (t' := tk) hk, ⟨_, rfl⟩, q⟩
  | tuple ds =>
    obtain ⟨as, rd⟩ := Dp.reads I _ x u hd ru
    cases hd
    cases ru
    refine repr_of_reads' rd hs (PyData.noDict_hsm (noDict_of_sz _ hsz)) hg (by omega) (fun _ _ e => e) (fun h' u tk hk => ?_) hl
    exact ⟨.str _, H, I.kept (t' := tk) hk, ⟨_, rfl⟩, q⟩
  | dict _ => cases hd

theorem RepB.seq {K : PySem.W.Frag} {H Hf : Hp} {ρ : List Addr} {v : V} {xs : List PyData} (r : RepB K H Hf ρ v (.dat (.tuple xs))) : RepU K Hf ρ v (.dat (.tuple xs)) := by
  rcases r with r | ⟨p, vs, ys, e, _⟩
  · exact r
  · cases e
theorem op_b1 (hg : X.A.guards = some []) (hu : X.A.units + 64 < cLine) (hc : X.calm = true) (f : B1) : CallR X (b1C f) (b1D X.K f) := by
  cases f with
  | len =>
    refine CallR.imp (CallR.or call_len_seq call_len_str) fun xs H Q ⟨Hf, ρ, ω, σ, env, m, x, d, z, e, a, r, hz, q⟩ => ?_
    subst e
    cases d <;> simp only [b1Val, reduceCtorEq, Option.some.injEq] at hz
    · subst hz
      obtain ⟨e1, z1⟩ := r.str
      simp only [szOk, decide_eq_true_eq] at z1
      exact .inr ⟨_, by rw [e1], z1, q _ H Hf ρ (Pres.refl _ _ _) a.fine ⟨.int _, rfl⟩⟩
    · subst hz
      obtain ⟨p, vs, rfl, h1, h2, h3⟩ := r.list a.fine.sub
      exact .inl ⟨p, vs, rfl, .inl h1, q _ H Hf ρ (Pres.refl _ _ _) a.fine ⟨by rw [h2.len]; exact .int _, rfl⟩⟩
    · subst hz
      obtain ⟨p, vs, rfl, h1, h2, h3⟩ := r.tup a.fine.sub
      exact .inl ⟨p, vs, rfl, .inr h1, q _ H Hf ρ (Pres.refl _ _ _) a.fine ⟨by rw [h2.len]; exact .int _, rfl⟩⟩
  | tuple =>
    refine CallR.imp call_tuple_of fun xs H Q ⟨Hf, ρ, ω, σ, env, m, x, d, z, e, a, r, hz, q⟩ => ?_
    subst e
    cases d <;> simp only [b1Val, reduceCtorEq, Option.some.injEq] at hz
    · subst hz
      obtain ⟨p, vs, rfl, h1, h2, h3⟩ := r.list a.fine.sub
      refine ⟨p, vs, rfl, .inl ⟨h1, fun b hb => ?_⟩⟩
      have hfb := a.free hb
      exact q _ _ _ ρ (Pres.new hb a.fine.sub) (a.fine.new hb) ⟨.tup (.inl (.inl upd_same)) (DpAll.mono (Sub.new hfb.1) _ _ h2), sz_tuple.mpr (sz_list.mp h3)⟩
    · subst hz
      have r' := r
      obtain ⟨p, vs, rfl, h1, h2, h3⟩ := r.tup a.fine.sub
      exact ⟨p, vs, rfl, .inr ⟨h1, q _ H Hf ρ (Pres.refl _ _ _) a.fine r'.seq⟩⟩
  | list =>
    refine CallR.imp call_list_of fun xs H Q ⟨Hf, ρ, ω, σ, env, m, x, d, z, e, a, r, hz, q⟩ => ?_
    subst e
    cases d <;> simp only [b1Val, reduceCtorEq, Option.some.injEq] at hz
    · subst hz
      obtain ⟨p, vs, rfl, h1, h2, h3⟩ := r.list a.fine.sub
      refine ⟨p, vs, rfl, .inl h1, fun b hb => ?_⟩
      have hfb := a.free hb
      exact q _ _ _ ρ (Pres.new hb a.fine.sub) (a.fine.new hb) ⟨.lst (.inl (.inl upd_same)) (DpAll.mono (Sub.new hfb.1) _ _ h2), h3⟩
    · subst hz
      obtain ⟨p, vs, rfl, h1, h2, h3⟩ := r.tup a.fine.sub
      refine ⟨p, vs, rfl, .inr h1, fun b hb => ?_⟩
      have hfb := a.free hb
      exact q _ _ _ ρ (Pres.new hb a.fine.sub) (a.fine.new hb) ⟨.lst (.inl (.inl upd_same)) (DpAll.mono (Sub.new hfb.1) _ _ h2), sz_list.mpr (sz_tuple.mp h3)⟩
  | abs =>
    refine CallR.imp call_abs fun xs H Q ⟨Hf, ρ, ω, σ, env, m, x, d, z, e, a, r, hz, q⟩ => ?_
    subst e
    cases d <;> simp only [b1Val, reduceCtorEq, Option.some.injEq] at hz
    subst hz
    rw [r.int]
    exact ⟨_, rfl, q _ H Hf ρ (Pres.refl _ _ _) a.fine ⟨.int _, rfl⟩⟩
  | int =>
    refine CallR.imp call_int1 fun xs H Q ⟨Hf, ρ, ω, σ, env, m, x, d, z, e, a, r, hz, q⟩ => ?_
    subst e
    cases d <;> simp only [b1Val, reduceCtorEq, Option.some.injEq] at hz
    · subst hz
      rw [r.bool]
      exact .inr ⟨_, rfl, q _ H Hf ρ (Pres.refl _ _ _) a.fine ⟨.int _, rfl⟩⟩
    · subst hz
      rw [r.int]
      exact .inl ⟨_, rfl, q _ H Hf ρ (Pres.refl _ _ _) a.fine ⟨.int _, rfl⟩⟩
  | all =>
    refine CallR.imp (cr_all hc) fun xs H Q ⟨Hf, ρ, ω, σ, env, m, x, d, z, e, a, r, hz, q⟩ => ?_
    subst e
    cases d <;> simp only [b1Val, reduceCtorEq, Option.map_eq_some_iff] at hz
    obtain ⟨bs, hb, rfl⟩ := hz
    obtain ⟨p, vs, rfl, h1, h2, h3⟩ := r.list a.fine.sub
    rw [h2.bools hb] at h1
    exact ⟨p, bs, rfl, h1, q _ H Hf ρ (Pres.refl _ _ _) a.fine ⟨.bl _, rfl⟩⟩
  | any =>
    refine CallR.imp (CallR.or (CallR.or (cr_any hc) (cr_anyI hc)) (cr_anyT hc)) fun xs H Q ⟨Hf, ρ, ω, σ, env, m, x, d, z, e, a, r, hz, q⟩ => ?_
    subst e
    cases d <;> simp only [b1Val, reduceCtorEq, Option.map_eq_some_iff] at hz
    · obtain ⟨p, vs, rfl, h1, h2, h3⟩ := r.list a.fine.sub
      split at hz
      · rename_i bs hb
        cases hz
        rw [h2.bools hb] at h1
        exact .inl (.inl ⟨p, bs, rfl, h1, q _ H Hf ρ (Pres.refl _ _ _) a.fine ⟨.bl _, rfl⟩⟩)
      · simp only [Option.map_eq_some_iff] at hz
        obtain ⟨bs, hb, rfl⟩ := hz
        rw [h2.ints hb] at h1
        exact .inl (.inr ⟨p, bs, rfl, h1, q _ H Hf ρ (Pres.refl _ _ _) a.fine ⟨.bl _, rfl⟩⟩)
    · obtain ⟨bs, hb, rfl⟩ := hz
      obtain ⟨p, vs, rfl, h1, h2, h3⟩ := r.tup a.fine.sub
      rw [h2.ints hb] at h1
      exact .inr ⟨p, bs, rfl, h1, q _ H Hf ρ (Pres.refl _ _ _) a.fine ⟨.bl _, rfl⟩⟩
  | sum =>
    refine CallR.imp (CallR.or (cr_sum hc) (cr_sumT hc)) fun xs H Q ⟨Hf, ρ, ω, σ, env, m, x, d, z, e, a, r, hz, q⟩ => ?_
    subst e
    cases d <;> simp only [b1Val, reduceCtorEq, Option.map_eq_some_iff] at hz
    · obtain ⟨bs, hb, rfl⟩ := hz
      obtain ⟨p, vs, rfl, h1, h2, h3⟩ := r.list a.fine.sub
      rw [h2.ints hb] at h1
      exact .inl ⟨p, bs, rfl, h1, q _ H Hf ρ (Pres.refl _ _ _) a.fine ⟨.int _, rfl⟩⟩
    · obtain ⟨bs, hb, rfl⟩ := hz
      obtain ⟨p, vs, rfl, h1, h2, h3⟩ := r.tup a.fine.sub
      rw [h2.ints hb] at h1
      exact .inr ⟨p, bs, rfl, h1, q _ H Hf ρ (Pres.refl _ _ _) a.fine ⟨.int _, rfl⟩⟩
  | sorted =>
    refine CallR.imp (cr_sortedD hu) fun xs H Q ⟨Hf, ρ, ω, σ, env, m, x, d, z, e, a, r, hz, q⟩ => ?_
    subst e
    cases d <;> simp only [b1Val, reduceCtorEq] at hz
    rename_i ds
    split at hz
    · rename_i hok
      cases hz
      obtain ⟨p, vs, rfl, h1, h2, h3⟩ := r.list a.fine.sub
      refine ⟨p, vs, ds, rfl, h1, DpAll.mono a.fine.sub _ _ h2, hok, fun zs b hp hs hb => ?_⟩
      have hfb := a.free hb
      have hall : ∀ {ds : List PyData} {vs : List V}, DpAll X.K Hf vs ds → ∀ z ∈ vs.zip ds, Dp X.K Hf z.1 z.2 := by
        intro ds
        induction ds with
        | nil => intro vs h z hz; cases h; simp at hz
        | cons d ds ih =>
          intro vs h z hz
          cases h with
          | cons k1 k2 =>
            rw [List.zip_cons_cons] at hz
            rcases List.mem_cons.mp hz with rfl | hz
            · exact k1
            · exact ih k2 z hz
      have back : ∀ {zs : List (V × PyData)}, (∀ z ∈ zs, Dp X.K Hf z.1 z.2) → DpAll X.K Hf (zs.map (·.1)) (zs.map (·.2)) := by
        intro zs
        induction zs with
        | nil => intro _; exact .nil
        | cons z zs ih => intro h; exact .cons (h z List.mem_cons_self) (ih fun y hy => h y (List.mem_cons_of_mem _ hy))
      have hd := back fun z hz => hall h2 z (hp.mem_iff.mp hz)
      rw [hs] at hd
      refine q _ _ _ ρ (Pres.new hb a.fine.sub) (a.fine.new hb) ⟨.lst (.inl (.inl upd_same)) (DpAll.mono (Sub.new hfb.1) _ _ hd), ?_⟩
      rw [sz_list] at h3 ⊢
      refine ⟨by rw [List.length_mergeSort]; exact h3.1, ?_⟩
      rw [szAll_iff] at h3 ⊢
      exact fun d hd => h3.2 d ((List.mergeSort_perm _ _).mem_iff.mp hd)
    · cases hz
  | max =>
    refine CallR.imp (cr_max hc) fun xs H Q ⟨Hf, ρ, ω, σ, env, m, x, d, z, e, a, r, hz, q⟩ => ?_
    subst e
    cases d <;> simp only [b1Val, reduceCtorEq, Option.bind_eq_some_iff] at hz
    obtain ⟨bs, hb, hz⟩ := hz
    split at hz
    · cases hz
    · rename_i hn
      cases hz
      obtain ⟨p, vs, rfl, h1, h2, h3⟩ := r.list a.fine.sub
      rw [h2.ints hb] at h1
      obtain ⟨g1, g2⟩ := maxL_mem hn
      refine ⟨p, bs, rfl, h1, List.length_pos_iff.mpr hn, fun k hk hy => ?_⟩
      rw [show k = maxL bs from Int.le_antisymm (g2 k hk) (hy _ g1)]
      exact q _ H Hf ρ (Pres.refl _ _ _) a.fine ⟨.int _, rfl⟩
  | min =>
    refine CallR.imp (cr_min hc) fun xs H Q ⟨Hf, ρ, ω, σ, env, m, x, d, z, e, a, r, hz, q⟩ => ?_
    subst e
    cases d <;> simp only [b1Val, reduceCtorEq, Option.bind_eq_some_iff] at hz
    obtain ⟨bs, hb, hz⟩ := hz
    split at hz
    · cases hz
    · rename_i hn
      cases hz
      obtain ⟨p, vs, rfl, h1, h2, h3⟩ := r.list a.fine.sub
      rw [h2.ints hb] at h1
      obtain ⟨g1, g2⟩ := minL_mem hn
      refine ⟨p, bs, rfl, h1, List.length_pos_iff.mpr hn, fun k hk hy => ?_⟩
      rw [show k = minL bs from Int.le_antisymm (hy _ g1) (g2 k hk)]
      exact q _ H Hf ρ (Pres.refl _ _ _) a.fine ⟨.int _, rfl⟩
  | repr =>
    refine CallR.imp (cr_repr hg hu) fun xs H Q ⟨Hf, ρ, ω, σ, env, m, x, d, z, e, a, r, hz, q⟩ => ?_
    subst e
    have hz' : (if d.showable && decide (d.shown.length ≤ sizeLine) && decide (d.depth ≤ 60) then some (.str d.shown) else none) = some z := by
      rw [← hz]; cases d <;> rfl
    split at hz'
    · rename_i hh
      simp only [Bool.and_eq_true, decide_eq_true_eq] at hh
      cases hz'
      obtain ⟨h1, h2⟩ := r.dp a.fine.sub
      refine ⟨x, d, rfl, h1, h2, hh.1.1, hh.1.2, hh.2, q _ H Hf ρ (Pres.refl _ _ _) a.fine ⟨.str _, ?_⟩⟩
      simp only [szOk, decide_eq_true_eq]
      exact hh.1.2
    · cases hz'
/-- list(..), a list of its own -/
theorem op_listF : CallR X (.type "list") (fun xs H Q => ∃ Hf ρ ω σ env m x d ds, xs = [x] ∧ At X.K H σ Hf ρ ω env m ∧ RepB X.K H Hf ρ x (.dat d) ∧ b1Val .list d = some (.list ds) ∧
    ∀ p vs, H p = none → DpAll X.K Hf vs ds → szOk (.list ds) = true → Q (.ref p) (upd H p (.lst vs))) := by
  refine CallR.imp call_list_of fun xs H Q ⟨Hf, ρ, ω, σ, env, m, x, d, z, e, a, r, hz, q⟩ => ?_
  subst e
  cases d <;> simp only [b1Val, reduceCtorEq, Option.some.injEq, PyData.list.injEq] at hz
  · subst hz
    obtain ⟨p, vs, rfl, h1, h2, h3⟩ := r.list a.fine.sub
    exact ⟨p, vs, rfl, .inl h1, fun b hb => q b vs hb h2 h3⟩
  · subst hz
    obtain ⟨p, vs, rfl, h1, h2, h3⟩ := r.tup a.fine.sub
    exact ⟨p, vs, rfl, .inr h1, fun b hb => q b vs hb h2 (sz_list.mpr (sz_tuple.mp h3))⟩
end
end Eng

set_option Elab.async false
set_option linter.all false
set_option maxRecDepth 100000
set_option maxHeartbeats 1000000
/-! Expressions: what a checked text evaluates to. -/
namespace Eng
open PySem PySem.Spec PyProof.Rows L2

/-- a def's promise: the evaluator's outcome -/
def spC (K : PySem.W.Frag) (XR : XRel) (g : List U → Mem → R U) : Sp := fun vs H Q E => ∃ Hf ρ m us, Fine K H Hf ρ m ∧ RUs K Hf ρ vs us ∧ OutE K XR (fun cls d _ H => E cls d H) [] H Hf ρ (RU K) (g us m) Q
/-- the own errors: their classes' texts, which clause takes which, isinstance -/
structure XTab (P : Program) (K : PySem.W.Frag) (mg : Str → Option Value) (cl : List (Str × Str)) (ci : List (Nat × Str × Bool)) : Prop where
  cls : ∀ (k : Nat) (p : Str × Str), cl[k]? = some p → ∃ C fI, EngX.OwnTxt P K mg p.1 p.2 C fI
  exm : ∀ (k k' : Nat) (p p' : Str × Str) (Ca Cb : Addr), cl[k]? = some p → cl[k']? = some p' → mg p.1 = some (.ref Ca) → mg p'.1 = some (.ref Cb) → PySem.W.exmOne K (.ref Ca) (.ref Cb) = some (decide (k = k'))
  isx : ∀ (k : Nat) (D : Str) (b : Bool) (p : Str × Str) (Ca : Addr), (k, D, b) ∈ ci → cl[k]? = some p → mg p.1 = some (.ref Ca) → ∃ Cd, mg D = some (.ref Cd) ∧ PySem.W.kitOne K (.ref Ca) (.ref Cd) = some b ∧ IsxC K Ca
theorem XTab.nil {P : Program} {K : PySem.W.Frag} {mg : Str → Option Value} : XTab P K mg [] [] :=
  ⟨fun k p h => by simp at h, fun k k' p p' Ca Cb h => by simp at h, fun k D b p Ca h => by simp at h⟩
/-- an own error that is on its way -/
def xrG (K : PySem.W.Frag) (mg : Str → Option Value) (cl : List (Str × Str)) : XRel := fun _ Hf ρ k u cls d =>
  ∃ (p : Str × Str) (Ca dd : Addr) (v : V), cl[k]? = some p ∧ mg p.1 = some (.ref Ca) ∧ cls = .ref Ca ∧ d = some dd ∧ Hf dd = some (.xd [(p.2, v)]) ∧ RepU K Hf ρ v u
/-- what a def that makes lambdas is known by -/
structure LamF (G : Cfg) (C : Calls) (XR : XRel) (X : Cx) (x : Str) : Prop where
  code : ∃ c0 P, X.env.code = .ref c0 ∧ PySem.W.tabIn X.K x = some (c0, P) ∧ LamX.TabB X.base X.mg c0 P
  qual : X.env.qual ++ "<lambda>" = lamQ x
  fns : ∃ k, Room (k + 2) X.A ∧ ∀ f y, G.nm f = some y → ∃ a fd ps, X.mg y = some (.ref a) ∧ PySem.W.keepIn X.K (.ref a) = true ∧ (G.kwo.contains f = false → Binds X.K fd ps []) ∧ FnG X.prog X.w X.K X.mg X.base k a fd ps (spC X.K XR (C f)) ∧
    ∀ na ks perm, (f, na, ks, perm) ∈ G.kb → KB fd ps na ks perm
/-- a def that calls what it got -/
def DF (K : PySem.W.Frag) (mg : Str → Option Value) (p : Str × Stmt × List Str) : Prop := ∃ (a : Addr) (fd : FuncData) (pa nn : Str), p.2.2 = [pa, nn] ∧ mg p.1 = some (.ref a) ∧ PySem.W.keepIn K (.ref a) = true ∧ Fun K p.1 p.1 p.2.1 a fd ∧ Binds K fd [pa] [] ∧ FnScope [pa, nn] [pa] (defScope p.2.1)
structure GX (G : Cfg) (N : List Str) (C : Calls) (XR : XRel) (X : Cx) (W : WX) (c : Sc) : Prop where
  hN : X.N = N
  sc : X.env.scope = c.sc
  fn : X.fn = c.fn
  nd : X.N.Nodup
  calm : X.calm = true
  gd : X.A.guards = some []
  takes : Takes X W
  un : X.A.units + 65 < cLine
  bn : ∀ x ∈ bnames, X.mg x = none
  fns : ∀ f x, G.nm f = some x → ∃ a fd ps k, X.mg x = some (.ref a) ∧ PySem.W.keepIn X.K (.ref a) = true ∧ (G.kwo.contains f = false → Binds X.K fd ps []) ∧ Room k X.A ∧ FnG X.prog X.w X.K X.mg X.base k a fd ps (spC X.K XR (C f)) ∧
    ∀ na ks perm, (f, na, ks, perm) ∈ G.kb → KB fd ps na ks perm
  gl : ∀ x d, (x, d) ∈ G.gl → ∃ u, X.mg x = some u ∧ (∀ v, sEq d v = true → ∃ z, RelV z u ∧ (∀ H, Dp X.K H z v) ∧ szOk v = true)
  gdt : ∀ x kvs nks, (x, kvs, nks) ∈ G.gd → ∃ a es n, X.mg x = some (.ref a) ∧ KDict X.K X.w a es n ∧ (∀ k i, (k, i) ∈ kvs → ∃ t, PySem.W.nsIn X.K a k = some (some (.int i t))) ∧ ∀ k ∈ nks, PySem.W.nsIn X.K a k = some none
  rm : ∃ k, Room k X.A
  xr : XR = xrG X.K X.mg G.cl
  xt : XTab X.prog X.K X.mg G.cl G.ci
  lamF : ∀ x, c.lam = some x → LamF G C XR X x
  dfs : ∀ p ∈ G.df, DF X.K X.mg p
theorem takes00 {X : Cx} : Takes X (fun _ _ _ _ => False) := fun _ _ x => by
  obtain ⟨_, _, _, _, _, _, _, _, _, _, _, _, _, _, _, _, w⟩ := x
  exact w.elim
section
variable {G : Cfg} {N : List Str} {C : Calls} {XR : XRel} {X : Cx} {W : WX} {c : Sc}
theorem GX.blk (g : GX G N C XR X W c) (s : Shared) (H : Hp) (scope : Scope) (cl : List (Str × Addr)) (D : Addr) (fp : List Addr) : GX G N C XR (X.blk s H scope (compEnvC scope cl D X.env) fp) (fun _ _ _ _ => False) (c.blk scope) :=
  ⟨g.hN, by show relS scope X.env.scope = _; rw [g.sc]; rfl, rfl, g.nd, g.calm, g.gd, takes00, g.un, g.bn, g.fns, g.gl, g.gdt, g.rm, g.xr, g.xt, (fun x h => by cases h), g.dfs⟩
theorem GX.vis (g : GX G N C XR X W c) {x : Str} (h : visB c x = true) : Vis X.env.scope x ∧ (x == ("__debug__" : Str)) = false ∧ (x == ("__classdict__" : Str)) = false := by
  unfold visB at h
  simp only [Bool.and_eq_true, Bool.or_eq_true, decide_eq_true_eq, Bool.not_eq_true'] at h
  obtain ⟨⟨h1, h2⟩, h3⟩ := h
  refine ⟨?_, h2, h3⟩
  unfold Vis
  rw [g.sc]
  rcases h1 with (h1 | h1) | h1
  · exact .inl h1
  · exact .inr (.inl h1)
  · exact .inr (.inr h1)
theorem GX.glo (g : GX G N C XR X W c) {x : Str} (h : glB c x = true) : Gl X x ∧ (x == ("__debug__" : Str)) = false := by
  unfold glB at h
  simp only [Bool.and_eq_true, decide_eq_true_eq, Bool.not_eq_true'] at h
  refine ⟨?_, h.2⟩
  show X.env.scope.names.lookup x = _
  rw [g.sc]; exact h.1
theorem cst_pe {d : PyData} {k : Const} {n : Nat} {p : Pos} (h : cstB d k = true) : ∃ v, PE X (.Constant k n p) (tC v) ∧ (∀ H, Dp X.K H v d) ∧ szOk d = true := by
  cases d <;> cases k <;> simp only [cstB, Bool.false_eq_true] at h
  · exact ⟨_, pe_non, fun _ => .non, rfl⟩
  · rw [beq_iff_eq.mp h]; exact ⟨_, pe_bl, fun _ => .bl _, rfl⟩
  · rw [beq_iff_eq.mp h]; exact ⟨_, pe_int, fun _ => .int _, rfl⟩
  · simp only [Bool.and_eq_true, decide_eq_true_eq] at h
    rw [h.1] at *
    exact ⟨_, pe_str, fun _ => .str _, h.2⟩
theorem pe_sc {e : Expr} {v : V} {d : PyData} {f : Env → Mem → R U} (h : PE X e (tC v)) (hd : ∀ H, Dp X.K H v d) (hz : szOk d = true) (hf : ∀ σ m, f σ m = .ok (.dat d) m) : PE X e (tU X.K XR W f) :=
  PE.imp h fun σ H Q ⟨Hf, ρ, ω, env, m, a, o⟩ => by
    rw [hf] at o
    exact a.ok o ⟨hd _, hz⟩
/-- a name -/
theorem pe_nameB (g : GX G N C XR X W c) {i : Nat} {x : Str} {p : Pos} (h1 : N[i]? = some x) (h2 : visB c x = true) (f : Env → Mem → R U)
    (hf : ∀ σ m, f σ m = getB σ i m) : PE X (.Name x p) (tB X.K XR W f) := by
  obtain ⟨v1, v2, v3⟩ := g.vis h2
  refine PE.imp (pe_var (i := i) (by rw [g.hN]; exact h1) v1 v2 v3) fun σ H Q ⟨Hf, ρ, ω, env, m, a, o⟩ => ?_
  rw [hf] at o
  unfold getB at o
  cases e : env[i]? with
  | none => rw [e] at o; exact o.elim
  | some sl =>
    rw [e] at o
    cases sl with
    | no => exact o.elim
    | v u =>
      obtain ⟨v, e1, r⟩ := a.slots.val i u e
      exact ⟨v, e1, a.ok o (.inl r)⟩
    | own xs =>
      obtain ⟨e1, e2, e3, ⟨vs, e4, e5⟩, e6⟩ := a.slots.own i xs e
      exact ⟨_, e1, a.ok o (.inr ⟨_, vs, xs, rfl, rfl, e4, e2, e3, e5, e6⟩)⟩
theorem pe_nameU (g : GX G N C XR X W c) {i : Nat} {x : Str} {p : Pos} (h1 : N[i]? = some x) (h2 : visB c x = true) : PE X (.Name x p) (tU X.K XR W (evE C (.var i))) := by
  obtain ⟨v1, v2, v3⟩ := g.vis h2
  refine PE.imp (pe_var (i := i) (by rw [g.hN]; exact h1) v1 v2 v3) fun σ H Q ⟨Hf, ρ, ω, env, m, a, o⟩ => ?_
  simp only [evE, getV] at o
  cases e : env[i]? with
  | none => rw [e] at o; exact o.elim
  | some sl =>
    rw [e] at o
    cases sl with
    | no => exact o.elim
    | v u =>
      obtain ⟨v, e1, r⟩ := a.slots.val i u e
      exact ⟨v, e1, a.ok o r⟩
    | own xs => exact o.elim
/-- a built-in of one argument -/
theorem pe_b1X (g : GX G N C XR X W c) {f : B1} {x : Str} {e : Expr} {p pos : Pos} {r : List V → Hp → VK → Prop} {t : TE} (hx : x = b1N f) (hg : glB c x = true) (he : PE X e t) (hp : pl e = true) (hr : CallR X (b1C f) r) :
    PE X (.Call (.Name x p) [e] [] pos) (tCB r (tCons t tNil)) := by
  obtain ⟨q1, q2⟩ := g.glo hg
  have hm : X.mg x = none := g.bn x (by rw [hx]; cases f <;> decide)
  have hv := b1boot f
  rw [← hx] at hv
  have hn : x ≠ "__name__" := by rw [hx]; cases f <;> decide
  have ha : PA X [e] (tCons t tNil) := pa_cons he pa_nil (star_pl hp)
  cases f <;> first
    | exact pe_callB hr q1 hm hv ha hn q2 (star_pl hp)
    | exact pe_callTy hr q1 hm hv ha hn q2 (star_pl hp)
/-- a value's class -/
def tyD : PyData → String
  | .none => "NoneType" | .bool _ => "bool" | .int _ => "int" | .str _ => "str" | .list _ => "list" | .tuple _ => "tuple" | .dict _ => "dict"
theorem ty_of {H : Hp} {v : V} {d : PyData} (h : Dp X.K H v d) : TyX X.K H v (.type (tyD d)) := by
  cases h with
  | non => exact .base .non
  | bl b => exact .base (.bl b)
  | int i => exact .base (.int i)
  | str x => exact .base (.str x)
  | lst hs ha =>
    rcases hs with (h | ⟨o, h⟩) | ⟨o, its, n, h, hc, _⟩
    · exact .base (.lst h)
    · exact .base (.frz h)
    · exact .kList h hc
  | tup hs ha =>
    rcases hs with (h | ⟨o, h⟩) | ⟨o, its, n, h, hc, _⟩
    · exact .base (.tup h)
    · exact .fTuple h
    · exact .kTuple h hc
def clsS : ClsT → String
  | .int => "int" | .bool => "bool" | .str => "str" | .list => "list" | .tuple => "tuple"
theorem cls_kit (k : ClsT) (d : PyData) (hd : szOk d = true) : PySem.W.kitOne X.K (.type (tyD d)) (.type (clsS k)) = some (clsVal k d) := by
  cases k <;> cases d <;> first | (simp only [tyD, clsVal, clsS]; exact kit_ty (by decide +kernel)) | (simp [szOk] at hd)
end
end Eng

set_option Elab.async false
set_option linter.all false
set_option maxRecDepth 100000
set_option maxHeartbeats 1000000
/-! Expressions: the cases. -/
namespace Eng
open PySem PySem.Spec PyProof.Rows L2

abbrev RBl : Hp → Hp → List Addr → Bool → Bool → Prop := fun _ _ _ b b' => b = b'
abbrev tT (K : PySem.W.Frag) (XR : XRel) (W : WX) (f : Env → Mem → R U) : TT := tR K XR W RBl (fun σ m => (f σ m).bind asB)
section
variable {G : Cfg} {N : List Str} {C : Calls} {XR : XRel} {X : Cx} {W : WX} {c : Sc} {f : Env → Mem → R U} {e : Expr}
/-- a value that is a truth value, as a test -/
theorem pt_of (h : PE X e (tU X.K XR W f)) (he : ∀ whole, isTrue e X.env whole = (do let v ← whole; standAt e.pos; holding [v] (truthy v))) : PT X e (tT X.K XR W f) :=
  PT.imp (pt_val h he) fun σ H Q ⟨Hf, ρ, ω, env, m, a, o⟩ => by
    refine ⟨Hf, ρ, ω, env, m, a, (OutE.bind (Rp' := RU X.K) o).mono fun v H1 ⟨u, Hf1, ρ1, m1, p, f1, r, o1⟩ => ?_⟩
    cases u with
    | ref i => exact o1.elim
    | dat d =>
      cases d with
      | bool b =>
        cases r.1
        exact ⟨b, rfl, (a.pres p f1).ok o1 rfl⟩
      | _ => exact o1.elim
end
end Eng

set_option Elab.async false
set_option linter.all false
set_option maxRecDepth 100000
set_option maxHeartbeats 1000000
/-! Expressions: a rule for each. -/
namespace Eng
open PySem PySem.Spec PyProof.Rows L2
section
variable {G : Cfg} {N : List Str} {C : Calls} {XR : XRel} {X : Cx} {W : WX} {c : Sc} {e e' l r : Expr} {pos : Pos} {f fa fb fc : Env → Mem → R U}
theorem RepB_d2 {F : PyData → PyData → Option PyData} {H Hf : Hp} {ρ : List Addr} {ω : Nat → Addr} {σ : L2.St} {env : Env} {m : Mem} {x y : V} {u u' : U} {Q : VK} (a : At X.K H σ Hf ρ ω env m) (r1 : RepB X.K H Hf ρ x u) (r2 : RepB X.K H Hf ρ y u')
    (o : OutE X.K XR W σ H Hf ρ (RU X.K) (d2 F u u' m) Q) : opD X.K F x y H Q := by
  cases u with
  | ref i => exact o.elim
  | dat d =>
    cases u' with
    | ref i => exact o.elim
    | dat e =>
      simp only [d2_dat] at o
      cases hz : F d e with
      | none => rw [hz] at o; exact o.elim
      | some z =>
        rw [hz] at o
        exact ⟨Hf, ρ, ω, σ, env, m, d, e, z, a, r1, r2, hz, o⟩
theorem rl_op {F : PyData → PyData → Option PyData} {o : Operator} (ha : PE X l (tB X.K XR W fa)) (hb : PE X r (tB X.K XR W fb)) (ho : OpR X (binaryOp o) (opD X.K F)) :
    PE X (.BinOp l o r pos) (tU X.K XR W fun σ m => (fa σ m).bind fun x m1 => (fb σ m1).bind fun y m2 => d2 F x y m2) :=
  PE.imp (pe_op ho ha hb) fun σ H Q ⟨Hf, ρ, ω, env, m, a, o⟩ => by
    obtain ⟨A, B, D, E, F', a1, o1⟩ := a.bind (Rp' := RB X.K) o
    refine ⟨A, B, D, E, F', a1, o1.mono fun x H1 ⟨u, Hf1, ρ1, m1, p, a1, r1, o1⟩ => ?_⟩
    obtain ⟨A, B, D, E, F', a2, o2⟩ := a1.bind (Rp' := RB X.K) o1
    refine ⟨A, B, D, E, F', a2, o2.mono fun y H2 ⟨u2, Hf2, ρ2, m2, p2, a2, r2, o2⟩ => ?_⟩
    exact RepB_d2 a2 (r1.pres p2) r2 o2
theorem rl_cmp {F : PyData → PyData → Option PyData} {o : CmpOp} (ha : PE X l (tB X.K XR W fa)) (hb : PE X r (tB X.K XR W fb)) (ho : OpR X (compareOp o) (opD X.K F)) (hp : pl r = true) :
    PE X (.Compare l [o] [r] pos) (tU X.K XR W fun σ m => (fa σ m).bind fun x m1 => (fb σ m1).bind fun y m2 => d2 F x y m2) :=
  PE.imp (pe_cmpR ho ha hb (mark_pl hp)) fun σ H Q ⟨Hf, ρ, ω, env, m, a, o⟩ => by
    obtain ⟨A, B, D, E, F', a1, o1⟩ := a.bind (Rp' := RB X.K) o
    refine ⟨A, B, D, E, F', a1, o1.mono fun x H1 ⟨u, Hf1, ρ1, m1, p, a1, r1, o1⟩ => ?_⟩
    obtain ⟨A, B, D, E, F', a2, o2⟩ := a1.bind (Rp' := RB X.K) o1
    refine ⟨A, B, D, E, F', a2, o2.mono fun y H2 ⟨u2, Hf2, ρ2, m2, p2, a2, r2, o2⟩ => ?_⟩
    exact RepB_d2 a2 (r1.pres p2) r2 o2
/-- a truth value, behind which a test goes on -/
theorem bl_of {H Hf : Hp} {ρ : List Addr} {ω : Nat → Addr} {σ : L2.St} {env : Env} {m : Mem} {Q : Bool → Hp → Prop} {x : V} {u : U} (a : At X.K H σ Hf ρ ω env m) (r : RepU X.K Hf ρ x u) (o : OutE X.K XR W σ H Hf ρ RBl (asB u m) Q) : ∃ k, x = .bl k ∧ Q k H := by
  cases u with
  | ref i => exact o.elim
  | dat d =>
    cases d with
    | bool b => cases r.1; exact ⟨b, rfl, a.ok o rfl⟩
    | _ => exact o.elim
theorem rt_cmp {F : PyData → PyData → Option PyData} {o : CmpOp} (ha : PE X l (tB X.K XR W fa)) (hb : PE X r (tB X.K XR W fb)) (ho : OpR X (compareOp o) (opD X.K F)) (hp : pl r = true) :
    PT X (.Compare l [o] [r] pos) (tT X.K XR W fun σ m => (fa σ m).bind fun x m1 => (fb σ m1).bind fun y m2 => d2 F x y m2) := by
  have h := pt_cmpR (pos := pos) ho ha hb (mark_pl hp)
  refine PT.imp h fun σ H Q ⟨Hf, ρ, ω, env, m, a, o⟩ => ?_
  dsimp only at o
  rw [R.bind_bind] at o
  obtain ⟨A, B, D, E, F', a1, o1⟩ := a.bind (Rp' := RB X.K) o
  refine ⟨A, B, D, E, F', a1, o1.mono fun x H1 ⟨u, Hf1, ρ1, m1, p, a1, r1, o1⟩ => ?_⟩
  rw [R.bind_bind] at o1
  obtain ⟨A, B, D, E, F', a2, o2⟩ := a1.bind (Rp' := RB X.K) o1
  refine ⟨A, B, D, E, F', a2, o2.mono fun y H2 ⟨u2, Hf2, ρ2, m2, p2, a2, r2, o2⟩ => ?_⟩
  refine RepB_d2 (XR := XR) (W := W) a2 (r1.pres p2) r2 ?_
  exact (OutE.bind (Rp' := RU X.K) o2).mono fun v H3 ⟨u3, Hf3, ρ3, m3, p3, f3, r3, o3⟩ => bl_of (a2.pres p3 f3) r3 o3
theorem tU_of_tT {σ : L2.St} {H : Hp} {Q : Bool → Hp → Prop} (h : tT X.K XR W f σ H Q) : tU X.K XR W f σ H (fun x H' => ∃ k, x = .bl k ∧ Q k H') := by
  obtain ⟨Hf, ρ, ω, env, m, a, o⟩ := h
  exact ⟨Hf, ρ, ω, env, m, a, (OutE.bind (Rp' := RU X.K) o).mono fun v H1 ⟨u, Hf1, ρ1, m1, p, f1, r, o1⟩ => bl_of (a.pres p f1) r o1⟩
theorem im_chain {F F' : PyData → PyData → Option PyData} {σ : L2.St} {H : Hp} {Q : VK} (h : tU X.K XR W (fun σ m => (fa σ m).bind fun x m1 => (fb σ m1).bind fun y m2 => (c2 F x y m2).bind fun k m3 => if k = true then (fc σ m3).bind fun z m4 => d2 F' y z m4 else .ok (.dat (.bool false)) m3) σ H Q) :
    tChain (opD X.K F) (opD X.K F') (tB X.K XR W fa) (tB X.K XR W fb) (tB X.K XR W fc) σ H Q := by
    obtain ⟨Hf, ρ, ω, env, m, a, o⟩ := h
    obtain ⟨A, B, D, E, F0, a1, o1⟩ := a.bind (Rp' := RB X.K) o
    refine ⟨A, B, D, E, F0, a1, o1.mono fun x H1 ⟨u, Hf1, ρ1, m1, p, a1, r1, o1⟩ => ?_⟩
    obtain ⟨A, B, D, E, F0, a2, o2⟩ := a1.bind (Rp' := RB X.K) o1
    refine ⟨A, B, D, E, F0, a2, o2.mono fun y H2 ⟨u2, Hf2, ρ2, m2, p2, a2, r2, o2⟩ => ?_⟩
    have r1 := r1.pres p2
    cases u with
    | ref i => exact o2.elim
    | dat d =>
      cases u2 with
      | ref i => exact o2.elim
      | dat e =>
        simp only [c2_dat] at o2
        cases hz : F d e with
        | none => rw [hz] at o2; exact o2.elim
        | some z =>
          rw [hz] at o2
          cases z with
          | bool k =>
            rw [boolOf_some, R.bind_ok] at o2
            refine ⟨_, _, _, _, _, _, d, e, _, a2, r1, r2, hz, fun v H3 Hf3 ρ3 p3 f3 r3 => ?_⟩
            cases r3.1
            refine ⟨k, rfl, ?_⟩
            have a3 := a2.pres p3 f3
            cases k with
            | true =>
              have o3 := OutE.pres p3 o2
              rw [if_pos rfl] at o3
              obtain ⟨A, B, D, E, F0, a4, o4⟩ := a3.bind (Rp' := RB X.K) o3
              refine ⟨A, B, D, E, F0, a4, o4.mono fun y H4 ⟨u4, Hf4, ρ4, m4, p4, a4, r4, o4⟩ => ?_⟩
              exact RepB_d2 a4 ((r2.pres p3).pres p4) r4 o4
            | false => exact a3.ok (OutE.pres p3 o2) ⟨.bl _, rfl⟩
          | _ => exact o2.elim
theorem rl_chain {F F' : PyData → PyData → Option PyData} {o o' : CmpOp} {b : Expr} (ha : PE X l (tB X.K XR W fa)) (hb : PE X b (tB X.K XR W fb)) (hc : PE X r (tB X.K XR W fc)) (ho : OpR X (compareOp o) (opD X.K F)) (ho' : OpR X (compareOp o') (opD X.K F')) (hp' : pl r = true) :
    PE X (.Compare l [o, o'] [b, r] pos) (tU X.K XR W fun σ m => (fa σ m).bind fun x m1 => (fb σ m1).bind fun y m2 => (c2 F x y m2).bind fun k m3 => if k = true then (fc σ m3).bind fun z m4 => d2 F' y z m4 else .ok (.dat (.bool false)) m3) :=
  PE.imp (pe_chain ho ho' ha hb hc (mark_pl hp')) fun σ H Q h => im_chain h
theorem rt_chain {F F' : PyData → PyData → Option PyData} {o o' : CmpOp} {b : Expr} (ha : PE X l (tB X.K XR W fa)) (hb : PE X b (tB X.K XR W fb)) (hc : PE X r (tB X.K XR W fc)) (ho : OpR X (compareOp o) (opD X.K F)) (ho' : OpR X (compareOp o') (opD X.K F')) (hp' : pl r = true) :
    PT X (.Compare l [o, o'] [b, r] pos) (tT X.K XR W fun σ m => (fa σ m).bind fun x m1 => (fb σ m1).bind fun y m2 => (c2 F x y m2).bind fun k m3 => if k = true then (fc σ m3).bind fun z m4 => d2 F' y z m4 else .ok (.dat (.bool false)) m3) :=
  PT.imp (pt_chain ho ho' ha hb hc (mark_pl hp')) fun σ H Q h => im_chain (tU_of_tT h)
theorem rl_not (ht : PT X e (tT X.K XR W f)) (hv : PE X e (tU X.K XR W f)) : PE X (.UnaryOp .Not e pos) (tU X.K XR W fun σ m => ((f σ m).bind asB).bind fun b m1 => .ok (.dat (.bool (!b))) m1) :=
  PE.imp (pe_not hv) fun σ H Q ⟨Hf, ρ, ω, env, m, a, o⟩ => by
    dsimp only at o
    rw [R.bind_bind] at o
    obtain ⟨A, B, D, E, F', a1, o1⟩ := a.bind (Rp' := RU X.K) o
    refine ⟨A, B, D, E, F', a1, o1.mono fun x H1 ⟨u, Hf1, ρ1, m1, p, a1, r1, o1⟩ => ?_⟩
    cases u with
    | ref i => exact o1.elim
    | dat d =>
      cases d with
      | bool b => cases r1.1; exact ⟨b, rfl, a1.ok o1 ⟨.bl _, rfl⟩⟩
      | _ => exact o1.elim
theorem rt_not (ht : PT X e (tT X.K XR W f)) : PT X (.UnaryOp .Not e pos) (tT X.K XR W fun σ m => ((f σ m).bind asB).bind fun b m1 => .ok (.dat (.bool (!b))) m1) :=
  PT.imp (pt_not ht) fun σ H Q ⟨Hf, ρ, ω, env, m, a, o⟩ => by
    dsimp only at o
    rw [R.bind_bind] at o
    obtain ⟨A, B, D, E, F', a1, o1⟩ := a.bind (f := fun σ m => (f σ m).bind asB) (Rp' := RBl) o
    refine ⟨A, B, D, E, F', a1, o1.mono fun x H1 ⟨u, Hf1, ρ1, m1, p, a1, r1, o1⟩ => ?_⟩
    cases r1
    exact a1.ok o1 rfl
/-- and, or: as a value, as a test; h: the rest (one value, or a further and) -/
theorem rl_and {rest : List Expr} {b : Expr} (ha : PE X l (tU X.K XR W fa)) (hb : PE X (.BoolOp .And (b :: rest) pos) (tU X.K XR W fb)) : PE X (.BoolOp .And (l :: b :: rest) pos) (tU X.K XR W fun σ m => ((fa σ m).bind asB).bind fun c m1 => if c = true then fb σ m1 else .ok (.dat (.bool false)) m1) :=
  PE.imp (pe_and ha hb) fun σ H Q ⟨Hf, ρ, ω, env, m, a, o⟩ => by
    dsimp only at o
    rw [R.bind_bind] at o
    obtain ⟨A, B, D, E, F', a1, o1⟩ := a.bind (Rp' := RU X.K) o
    refine ⟨A, B, D, E, F', a1, o1.mono fun x H1 ⟨u, Hf1, ρ1, m1, p, a1, r1, o1⟩ => ?_⟩
    cases u with
    | ref i => exact o1.elim
    | dat d =>
      cases d with
      | bool k =>
        cases r1.1
        refine ⟨k, rfl, ?_⟩
        cases k with
        | true => exact ⟨_, _, _, _, _, a1, o1⟩
        | false => exact a1.ok o1 ⟨.bl _, rfl⟩
      | _ => exact o1.elim
theorem rl_or {rest : List Expr} {b : Expr} (ha : PE X l (tU X.K XR W fa)) (hb : PE X (.BoolOp .Or (b :: rest) pos) (tU X.K XR W fb)) : PE X (.BoolOp .Or (l :: b :: rest) pos) (tU X.K XR W fun σ m => ((fa σ m).bind asB).bind fun c m1 => if c = true then .ok (.dat (.bool true)) m1 else fb σ m1) :=
  PE.imp (pe_or ha hb) fun σ H Q ⟨Hf, ρ, ω, env, m, a, o⟩ => by
    dsimp only at o
    rw [R.bind_bind] at o
    obtain ⟨A, B, D, E, F', a1, o1⟩ := a.bind (Rp' := RU X.K) o
    refine ⟨A, B, D, E, F', a1, o1.mono fun x H1 ⟨u, Hf1, ρ1, m1, p, a1, r1, o1⟩ => ?_⟩
    cases u with
    | ref i => exact o1.elim
    | dat d =>
      cases d with
      | bool k =>
        cases r1.1
        refine ⟨k, rfl, ?_⟩
        cases k with
        | true => exact a1.ok o1 ⟨.bl _, rfl⟩
        | false => exact ⟨_, _, _, _, _, a1, o1⟩
      | _ => exact o1.elim
theorem rt_and {rest : List Expr} {b : Expr} (ha : PT X l (tT X.K XR W fa)) (hb : PW X (.BoolOp .And (b :: rest) pos) (tT X.K XR W fb)) : PW X (.BoolOp .And (l :: b :: rest) pos) (tT X.K XR W fun σ m => ((fa σ m).bind asB).bind fun c m1 => if c = true then fb σ m1 else .ok (.dat (.bool false)) m1) :=
  PW.imp (pw_and ha hb) fun σ H Q ⟨Hf, ρ, ω, env, m, a, o⟩ => by
    dsimp only at o
    rw [R.bind_bind] at o
    obtain ⟨A, B, D, E, F', a1, o1⟩ := a.bind (f := fun σ m => (fa σ m).bind asB) (Rp' := RBl) o
    refine ⟨A, B, D, E, F', a1, o1.mono fun x H1 ⟨u, Hf1, ρ1, m1, p, a1, r1, o1⟩ => ?_⟩
    cases r1
    cases x with
    | true => exact ⟨_, _, _, _, _, a1, o1⟩
    | false => exact a1.ok o1 rfl
theorem rt_or {rest : List Expr} {b : Expr} (ha : PT X l (tT X.K XR W fa)) (hb : PW X (.BoolOp .Or (b :: rest) pos) (tT X.K XR W fb)) : PW X (.BoolOp .Or (l :: b :: rest) pos) (tT X.K XR W fun σ m => ((fa σ m).bind asB).bind fun c m1 => if c = true then .ok (.dat (.bool true)) m1 else fb σ m1) :=
  PW.imp (pw_or ha hb) fun σ H Q ⟨Hf, ρ, ω, env, m, a, o⟩ => by
    dsimp only at o
    rw [R.bind_bind] at o
    obtain ⟨A, B, D, E, F', a1, o1⟩ := a.bind (f := fun σ m => (fa σ m).bind asB) (Rp' := RBl) o
    refine ⟨A, B, D, E, F', a1, o1.mono fun x H1 ⟨u, Hf1, ρ1, m1, p, a1, r1, o1⟩ => ?_⟩
    cases r1
    cases x with
    | true => exact a1.ok o1 rfl
    | false => exact ⟨_, _, _, _, _, a1, o1⟩
theorem rl_ite {t : Expr} (ht : PT X t (tT X.K XR W f)) (ha : PE X l (tU X.K XR W fa)) (hb : PE X r (tU X.K XR W fb)) : PE X (.IfExp t l r pos) (tU X.K XR W fun σ m => ((f σ m).bind asB).bind fun c m1 => if c = true then fa σ m1 else fb σ m1) :=
  PE.imp (pe_ifExp ht ha hb) fun σ H Q ⟨Hf, ρ, ω, env, m, a, o⟩ => by
    obtain ⟨A, B, D, E, F', a1, o1⟩ := a.bind (f := fun σ m => (f σ m).bind asB) (Rp' := RBl) o
    refine ⟨A, B, D, E, F', a1, o1.mono fun x H1 ⟨u, Hf1, ρ1, m1, p, a1, r1, o1⟩ => ?_⟩
    cases r1
    cases x with
    | true => exact ⟨_, _, _, _, _, a1, o1⟩
    | false => exact ⟨_, _, _, _, _, a1, o1⟩
theorem rl_neg (h : PE X e (tU X.K XR W f)) : PE X (.UnaryOp .USub e pos) (tU X.K XR W fun σ m => (f σ m).bind (d1 negD)) :=
  PE.imp (pe_un un_neg h) fun σ H Q ⟨Hf, ρ, ω, env, m, a, o⟩ => by
    obtain ⟨A, B, D, E, F', a1, o1⟩ := a.bind (Rp' := RU X.K) o
    refine ⟨A, B, D, E, F', a1, o1.mono fun x H1 ⟨u, Hf1, ρ1, m1, p, a1, r1, o1⟩ => ?_⟩
    cases u with
    | ref i => exact o1.elim
    | dat d =>
      cases d with
      | int k => cases r1.1; exact ⟨k, rfl, a1.ok o1 ⟨.int _, rfl⟩⟩
      | _ => exact o1.elim
theorem rl_b1 (g : GX G N C XR X W c) {b : B1} {x : Str} {p : Pos} (hx : x = b1N b) (hg : glB c x = true) (he : PE X e (tB X.K XR W f)) (hp : pl e = true) :
    PE X (.Call (.Name x p) [e] [] pos) (tU X.K XR W fun σ m => (f σ m).bind (d1 (b1Val b))) :=
  PE.imp (pe_b1X g hx hg he hp (op_b1 g.gd (by have := g.un; omega) g.calm b)) fun σ H Q ⟨Hf, ρ, ω, env, m, a, o⟩ => by
    obtain ⟨A, B, D, E, F', a1, o1⟩ := a.bind (Rp' := RB X.K) o
    refine ⟨A, B, D, E, F', a1, o1.mono fun x H1 ⟨u, Hf1, ρ1, m1, p, a1, r1, o1⟩ => ?_⟩
    cases u with
    | ref i => exact o1.elim
    | dat d =>
      simp only [d1_dat] at o1
      cases hz : b1Val b d with
      | none => rw [hz] at o1; exact o1.elim
      | some z => rw [hz] at o1; exact ⟨_, _, _, _, _, _, x, d, z, rfl, a1, r1, hz, o1⟩
theorem lookup_mem {k : Str} {i : Int} : ∀ {l : List (Str × Int)}, l.lookup k = some i → (k, i) ∈ l
  | [], h => by cases h
  | (k', v) :: r, h => by
    rw [List.lookup_cons] at h
    by_cases e : k = k'
    · subst e; simp at h; subst h; exact List.mem_cons_self
    · rw [show (k == k') = false by simpa using e] at h
      exact List.mem_cons_of_mem _ (lookup_mem h)
theorem gdin_core {kvs : List (Str × Int)} {nks : List Str} {d : Addr} {H1 Hf1 : Hp} {ρ1 : List Addr} {ω : Nat → Addr} {σ : L2.St} {env : Env} {m1 : Mem} {x : V} {u : U} {Q : VK} (hk : ∀ k i, (k, i) ∈ kvs → ∃ t, PySem.W.nsIn X.K d k = some (some (.int i t))) (hn : ∀ k ∈ nks, PySem.W.nsIn X.K d k = some none)
    (a1 : At X.K H1 σ Hf1 ρ1 ω env m1) (r1 : RepU X.K Hf1 ρ1 x u) (o1 : OutE X.K XR W σ H1 Hf1 ρ1 (RU X.K) (d1 (gdVal .in_ kvs nks) u m1) Q) : ∃ (z : Str) (r : Option Value), x = .str z ∧ V.ref d = .ref d ∧ PySem.W.nsIn X.K d z = some r ∧ Q (.bl (r.isSome)) H1 := by
  cases u with
  | ref i => exact o1.elim
  | dat y =>
    cases y with
    | str z =>
      simp only [d1_dat, gdVal] at o1
      cases r1.1
      cases hl : kvs.lookup z with
      | some i =>
        rw [hl] at o1
        obtain ⟨t, ht⟩ := hk _ _ (lookup_mem hl)
        exact ⟨z, _, rfl, rfl, ht, a1.ok o1 ⟨.bl _, rfl⟩⟩
      | none =>
        rw [hl] at o1
        simp only at o1
        split at o1
        · rename_i hz
          exact ⟨z, _, rfl, rfl, hn _ hz, a1.ok o1 ⟨.bl _, rfl⟩⟩
        · exact (o1 : False).elim
    | _ => exact (o1 : False).elim
theorem rl_gdin (g : GX G N C XR X W c) {x : Str} {kvs : List (Str × Int)} {nks : List Str} {p : Pos} (hg : glB c x = true) (hm : (x, kvs, nks) ∈ G.gd) (ha : PE X l (tU X.K XR W f)) :
    PE X (.Compare l [.In] [.Name x p] pos) (tU X.K XR W fun σ m => (f σ m).bind (d1 (gdVal .in_ kvs nks))) := by
  obtain ⟨q1, q2⟩ := g.glo hg
  obtain ⟨d, es, n, e1, D, hk, hn⟩ := g.gdt _ _ _ hm
  refine PE.imp (pe_cmpR (op_in_kd D) ha (pe_glob q1 e1 (show RelV (.ref d) (.ref d) from rfl) q2) rfl) fun σ H Q ⟨Hf, ρ, ω, env, m, a, o⟩ => ?_
  obtain ⟨A, B, D', E, F', a1, o1⟩ := a.bind (Rp' := RU X.K) o
  exact ⟨A, B, D', E, F', a1, o1.mono fun x H1 ⟨u, Hf1, ρ1, m1, p, a1, r1, o1⟩ => gdin_core hk hn a1 r1 o1⟩
theorem rt_gdin (g : GX G N C XR X W c) {x : Str} {kvs : List (Str × Int)} {nks : List Str} {p : Pos} (hg : glB c x = true) (hm : (x, kvs, nks) ∈ G.gd) (ha : PE X l (tU X.K XR W f)) :
    PT X (.Compare l [.In] [.Name x p] pos) (tT X.K XR W fun σ m => (f σ m).bind (d1 (gdVal .in_ kvs nks))) := by
  obtain ⟨q1, q2⟩ := g.glo hg
  obtain ⟨d, es, n, e1, D, hk, hn⟩ := g.gdt _ _ _ hm
  refine PT.imp (pt_cmpR (op_in_kd D) ha (pe_glob q1 e1 (show RelV (.ref d) (.ref d) from rfl) q2) rfl) fun σ H Q ⟨Hf, ρ, ω, env, m, a, o⟩ => ?_
  dsimp only at o
  rw [R.bind_bind] at o
  obtain ⟨A, B, D', E, F', a1, o1⟩ := a.bind (Rp' := RU X.K) o
  refine ⟨A, B, D', E, F', a1, o1.mono fun x H1 ⟨u, Hf1, ρ1, m1, p, a1, r1, o1⟩ => ?_⟩
  exact gdin_core (W := W) hk hn a1 r1 ((OutE.bind (Rp' := RU X.K) o1).mono fun v H3 ⟨u3, Hf3, ρ3, m3, p3, f3, r3, o3⟩ => bl_of (a1.pres p3 f3) r3 o3)
theorem gdnin_core {kvs : List (Str × Int)} {nks : List Str} {d : Addr} {H1 Hf1 : Hp} {ρ1 : List Addr} {ω : Nat → Addr} {σ : L2.St} {env : Env} {m1 : Mem} {x : V} {u : U} {Q : VK} (hk : ∀ k i, (k, i) ∈ kvs → ∃ t, PySem.W.nsIn X.K d k = some (some (.int i t))) (hn : ∀ k ∈ nks, PySem.W.nsIn X.K d k = some none)
    (a1 : At X.K H1 σ Hf1 ρ1 ω env m1) (r1 : RepU X.K Hf1 ρ1 x u) (o1 : OutE X.K XR W σ H1 Hf1 ρ1 (RU X.K) (d1 (gdVal .notin kvs nks) u m1) Q) : ∃ (z : Str) (r : Option Value), x = .str z ∧ V.ref d = .ref d ∧ PySem.W.nsIn X.K d z = some r ∧ Q (.bl (!r.isSome)) H1 := by
  cases u with
  | ref i => exact o1.elim
  | dat y =>
    cases y with
    | str z =>
      simp only [d1_dat, gdVal] at o1
      cases r1.1
      cases hl : kvs.lookup z with
      | some i =>
        rw [hl] at o1
        obtain ⟨t, ht⟩ := hk _ _ (lookup_mem hl)
        exact ⟨z, _, rfl, rfl, ht, a1.ok o1 ⟨.bl _, rfl⟩⟩
      | none =>
        rw [hl] at o1
        simp only at o1
        split at o1
        · rename_i hz
          exact ⟨z, _, rfl, rfl, hn _ hz, a1.ok o1 ⟨.bl _, rfl⟩⟩
        · exact (o1 : False).elim
    | _ => exact (o1 : False).elim
theorem rl_gdnin (g : GX G N C XR X W c) {x : Str} {kvs : List (Str × Int)} {nks : List Str} {p : Pos} (hg : glB c x = true) (hm : (x, kvs, nks) ∈ G.gd) (ha : PE X l (tU X.K XR W f)) :
    PE X (.Compare l [.NotIn] [.Name x p] pos) (tU X.K XR W fun σ m => (f σ m).bind (d1 (gdVal .notin kvs nks))) := by
  obtain ⟨q1, q2⟩ := g.glo hg
  obtain ⟨d, es, n, e1, D, hk, hn⟩ := g.gdt _ _ _ hm
  refine PE.imp (pe_cmpR (op_notIn_kd D) ha (pe_glob q1 e1 (show RelV (.ref d) (.ref d) from rfl) q2) rfl) fun σ H Q ⟨Hf, ρ, ω, env, m, a, o⟩ => ?_
  obtain ⟨A, B, D', E, F', a1, o1⟩ := a.bind (Rp' := RU X.K) o
  exact ⟨A, B, D', E, F', a1, o1.mono fun x H1 ⟨u, Hf1, ρ1, m1, p, a1, r1, o1⟩ => gdnin_core hk hn a1 r1 o1⟩
theorem rt_gdnin (g : GX G N C XR X W c) {x : Str} {kvs : List (Str × Int)} {nks : List Str} {p : Pos} (hg : glB c x = true) (hm : (x, kvs, nks) ∈ G.gd) (ha : PE X l (tU X.K XR W f)) :
    PT X (.Compare l [.NotIn] [.Name x p] pos) (tT X.K XR W fun σ m => (f σ m).bind (d1 (gdVal .notin kvs nks))) := by
  obtain ⟨q1, q2⟩ := g.glo hg
  obtain ⟨d, es, n, e1, D, hk, hn⟩ := g.gdt _ _ _ hm
  refine PT.imp (pt_cmpR (op_notIn_kd D) ha (pe_glob q1 e1 (show RelV (.ref d) (.ref d) from rfl) q2) rfl) fun σ H Q ⟨Hf, ρ, ω, env, m, a, o⟩ => ?_
  dsimp only at o
  rw [R.bind_bind] at o
  obtain ⟨A, B, D', E, F', a1, o1⟩ := a.bind (Rp' := RU X.K) o
  refine ⟨A, B, D', E, F', a1, o1.mono fun x H1 ⟨u, Hf1, ρ1, m1, p, a1, r1, o1⟩ => ?_⟩
  exact gdnin_core (W := W) hk hn a1 r1 ((OutE.bind (Rp' := RU X.K) o1).mono fun v H3 ⟨u3, Hf3, ρ3, m3, p3, f3, r3, o3⟩ => bl_of (a1.pres p3 f3) r3 o3)
theorem rl_gdix (g : GX G N C XR X W c) {x : Str} {kvs : List (Str × Int)} {nks : List Str} {p : Pos} (hg : glB c x = true) (hm : (x, kvs, nks) ∈ G.gd) (ha : PE X l (tU X.K XR W f)) (hp : pl l = true) :
    PE X (.Subscript (.Name x p) l pos) (tU X.K XR W fun σ m => (f σ m).bind (d1 (gdVal .item kvs nks))) := by
  obtain ⟨q1, q2⟩ := g.glo hg
  obtain ⟨d, es, n, e1, D, hk, hn⟩ := g.gdt _ _ _ hm
  refine PE.imp (pe_ix ix_kdict (pe_glob q1 e1 (show RelV (.ref d) (.ref d) from rfl) q2) ha (ix_pl hp)) fun σ H Q ⟨Hf, ρ, ω, env, m, a, o⟩ => ?_
  obtain ⟨A, B, D', E, F', a1, o1⟩ := a.bind (Rp' := RU X.K) o
  refine ⟨A, B, D', E, F', a1, o1.mono fun x H1 ⟨u, Hf1, ρ1, m1, p, a1, r1, o1⟩ => ?_⟩
  cases u with
  | ref i => exact o1.elim
  | dat y =>
    cases y with
    | str z =>
      simp only [d1_dat, gdVal] at o1
      cases r1.1
      cases hl : kvs.lookup z with
      | some i =>
        rw [hl] at o1
        obtain ⟨t, ht⟩ := hk _ _ (lookup_mem hl)
        exact ⟨d, z, .int i, rfl, rfl, ⟨es, n, _, D.at_, D.lit, ht, ⟨t, rfl⟩⟩, a1.ok o1 ⟨.int _, rfl⟩⟩
      | none => rw [hl] at o1; exact (o1 : False).elim
    | _ => exact (o1 : False).elim
theorem valN_sz {kvs : List (NestedKey × PyData)} {k : NestedKey} {d : PyData} (h : valN kvs k = some d) (hs : ∀ p ∈ kvs, szOk p.2 = true ∧ szOk p.1.data = true) : szOk d = true := by
  unfold valN at h
  obtain ⟨p, h1, rfl⟩ := Option.map_eq_some_iff.mp h
  exact (hs p (List.mem_of_find?_eq_some h1)).1
theorem valI_sz {kvs : List (Int × PyData)} {i : Int} {d : PyData} (h : valI kvs i = some d) (hz : ∀ p ∈ kvs, szOk p.2 = true) : szOk d = true := by
  unfold valI at h
  obtain ⟨p, hp, rfl⟩ := Option.map_eq_some_iff.mp h
  exact hz p (List.mem_of_find?_eq_some hp)
theorem rl_ix (hu : X.A.units + 64 < cLine) (ha : PE X l (tB X.K XR W fa)) (hb : PE X r (tU X.K XR W fb)) (hp : pl r = true) : PE X (.Subscript l r pos) (tU X.K XR W fun σ m => (fa σ m).bind fun x m1 => (fb σ m1).bind fun y m2 => ixU x y m2) :=
  PE.imp (pe_ix (ix_D.or ((ix_dic hu).or ((ix_K hu).or ix_list))) ha hb (ix_pl hp)) fun σ H Q ⟨Hf, ρ, ω, env, m, a, o⟩ => by
    obtain ⟨A, B, D, E, F', a1, o1⟩ := a.bind (Rp' := RB X.K) o
    refine ⟨A, B, D, E, F', a1, o1.mono fun x H1 ⟨u, Hf1, ρ1, m1, p, a1, r1, o1⟩ => ?_⟩
    obtain ⟨A, B, D, E, F', a2, o2⟩ := a1.bind (Rp' := RU X.K) o1
    refine ⟨A, B, D, E, F', a2, o2.mono fun y H2 ⟨u2, Hf2, ρ2, m2, p2, a2, r2, o2⟩ => ?_⟩
    have r1 := r1.pres p2
    cases u2 with
    | ref i => cases u <;> exact o2.elim
    | dat i =>
      cases u with
      | dat d =>
        simp only [ixU_dat] at o2
        cases hz : ixVal d i with
        | none => rw [hz] at o2; exact o2.elim
        | some z =>
          rw [hz] at o2
          cases i <;> first
            | (cases d <;> simp [ixVal] at hz; done)
            | (cases r2.1; exact .inl (.inl ⟨_, _, _, _, _, _, d, _, z, a2, r1, rfl, hz, o2⟩))
      | ref k =>
        simp only [ixU] at o2
        cases hk : m2[k]? with
        | none => rw [hk] at o2; exact o2.elim
        | some ob =>
          rw [hk] at o2
          cases ob with
          | tab x => exact o2.elim
          | refs ks =>
            cases i with
            | int j =>
              simp only at o2
              cases r2.1
              cases hz : atI ks j with
              | none => rw [hz] at o2; exact o2.elim
              | some z =>
                rw [hz] at o2
                rcases r1 with ⟨q, e, rfl⟩ | ⟨q, vs, ys, e, _⟩
                · obtain ⟨as, h1, h2, h3⟩ := a2.fine.at_ k q _ e hk
                  unfold atI at hz
                  obtain ⟨jj, e1, e2⟩ := Option.bind_eq_some_iff.mp hz
                  obtain ⟨b, b1, b2⟩ := h2 jj z e2
                  refine .inr (.inr (.inr ⟨q, as.map V.ref, j, .ref b, rfl, rfl, .inl (.inl h1), ?_, a2.ok (u := U.ref z) o2 ⟨b, b2, rfl⟩⟩))
                  unfold atI
                  rw [List.length_map, h3, e1, Option.bind_some, List.getElem?_map, b1]; rfl
                · cases e
            | _ => exact (o2 : False).elim
          | kd kvs =>
            cases i with
            | int j =>
              simp only at o2
              cases r2.1
              cases hz : valI kvs j with
              | none => rw [hz] at o2; exact o2.elim
              | some z =>
                rw [hz] at o2
                rcases r1 with ⟨q, e, rfl⟩ | ⟨q, vs, ys, e, _⟩
                · obtain ⟨ws, h1, h2, h3⟩ := a2.fine.at_ k q _ e hk
                  obtain ⟨v, e1, e2⟩ := h2.val j z hz
                  exact .inr (.inr (.inl ⟨q, ws, j, v, rfl, rfl, h1, e1, a2.ok (u := U.dat z) o2 ⟨e2, valI_sz hz h3⟩⟩))
                · cases e
            | _ => exact (o2 : False).elim
          | lst xs =>
            cases i with
            | int j =>
              simp only at o2
              cases r2.1
              cases hz : atI xs j with
              | none => rw [hz] at o2; exact o2.elim
              | some z => rw [hz] at o2; exact .inl (.inr ⟨_, _, _, _, _, _, k, xs, j, z, a2, r1, rfl, hk, hz, o2⟩)
            | _ => exact (o2 : False).elim
          | dct kvs =>
            simp only at o2
            cases hq : (keyOfD i).bind (valN kvs) with
            | none => rw [hq] at o2; exact o2.elim
            | some z =>
              rw [hq] at o2
              obtain ⟨kk, e1, e2⟩ := Option.bind_eq_some_iff.mp hq
              rcases r1 with ⟨q, e, rfl⟩ | ⟨q, vs, ys, e, _⟩
              · obtain ⟨es, h1, h2, h3, h4, h5, h6⟩ := a2.fine.at_ k q _ e hk
                exact .inr (.inl ⟨q, es, kvs, i, kk, z, Hf2, a2.fine.sub, rfl, h1, h2, h3, Dp.mono a2.fine.sub _ _ r2.1, e1, e2, fun v hv => a2.ok (u := U.dat z) o2 ⟨hv, valN_sz e2 h5⟩⟩)
              · cases e
/-- an object that is shared is another one -/
theorem fine_set {K : PySem.W.Frag} {H Hf : Hp} {ρ : List Addr} {m : Mem} (f : Fine K H Hf ρ m) {q : Nat} {a : Addr} {w : HO} {ob' : MObj} (e : ρ[q]? = some a) (hob : MAt K (upd H a w) Hf ρ a ob') : Fine K (upd H a w) Hf ρ (m.set q ob') := by
  have hm : a ∈ ρ := List.mem_of_getElem? e
  have hf : Hf a = none := f.un a hm
  have hq : q < ρ.length := (List.getElem?_eq_some_iff.mp e).1
  refine ⟨fun b x eb => ?_, f.nd, f.un, by rw [List.length_set]; exact f.len, fun i b ob e1 e2 => ?_⟩
  · have : b ≠ a := fun z => by rw [z, hf] at eb; cases eb
    rw [upd_ne this]; exact f.sub _ _ eb
  · by_cases hi : q = i
    · subst hi
      rw [e] at e1; cases e1
      rw [List.getElem?_set, if_pos rfl, if_pos (by rw [← f.len]; exact hq)] at e2
      cases e2
      exact hob
    · rw [List.getElem?_set, if_neg hi] at e2
      have hb : b ≠ a := fun z => by
        subst z
        have hil : i < ρ.length := (List.getElem?_eq_some_iff.mp e1).1
        have h1 := (List.getElem?_eq_some_iff.mp e).2
        have h2 := (List.getElem?_eq_some_iff.mp e1).2
        exact hi ((List.getElem_inj f.nd).mp (h1.trans h2.symm))
      have k := f.at_ i b ob e1 e2
      cases ob with
      | lst xs => obtain ⟨ws, k1, k2, k3⟩ := k; exact ⟨ws, by rw [upd_ne hb]; exact k1, k2, k3⟩
      | dct xs => obtain ⟨ws, k1, k2, k3⟩ := k; exact ⟨ws, by rw [upd_ne hb]; exact k1, k2, k3⟩
      | kd xs => obtain ⟨ws, k1, k2, k3⟩ := k; exact ⟨ws, by rw [upd_ne hb]; exact k1, k2, k3⟩
      | refs xs => obtain ⟨ws, k1, k2, k3⟩ := k; exact ⟨ws, by rw [upd_ne hb]; exact k1, k2, k3⟩
      | tab x => obtain ⟨k0, ps, k1, k2⟩ := k; exact ⟨k0, ps, by rw [upd_ne hb]; exact k1, k2⟩
theorem new_mem {σ : L2.St} {H1 Hf1 : Hp} {ρ1 : List Addr} {ω : Nat → Addr} {env : Env} {m1 : Mem} {K : PySem.W.Frag} (a1 : At K H1 σ Hf1 ρ1 ω env m1) {b : Addr} {w : HO} {ob' : MObj} (hb : H1 b = none) (hM : MAt K (upd H1 b w) Hf1 (ρ1 ++ [b]) b ob') :
    Pres H1 Hf1 ρ1 (upd H1 b w) Hf1 (ρ1 ++ [b]) ∧ Fine K (upd H1 b w) Hf1 (ρ1 ++ [b]) (m1 ++ [ob']) := by
  have hfb := a1.free hb
  refine ⟨⟨Sub.refl _, ⟨[b], rfl⟩, fun q o e e1 e2 => ⟨Sub.new hb _ _ e, e1, fun hm => ?_⟩⟩, ⟨fun q o e => Sub.new hb _ _ (a1.fine.sub _ _ e), ?_, fun q hq => ?_, ?_, fun i q ob e1 e2 => ?_⟩⟩
  · rcases List.mem_append.mp hm with z | z
    · exact e2 z
    · have : q = b := by simpa using z
      rw [this, hb] at e; cases e
  · rw [List.nodup_append]
    refine ⟨a1.fine.nd, by simp, fun q hq q' hq' e => hfb.2 ?_⟩
    have : q' = b := by simpa using hq'
    rw [← this, ← e]; exact hq
  · rcases List.mem_append.mp hq with z | z
    · exact a1.fine.un q z
    · have : q = b := by simpa using z
      rw [this]; exact hfb.1
  · rw [List.length_append, List.length_append, a1.fine.len]; rfl
  · by_cases hi : i < ρ1.length
    · rw [List.getElem?_append_left hi] at e1
      rw [List.getElem?_append_left (by rw [← a1.fine.len]; exact hi)] at e2
      exact (a1.fine.at_ i q ob e1 e2).grow (fun x e => Sub.new hb _ _ e) (Sub.refl _) ⟨_, rfl⟩
    · have hl : i = ρ1.length := by
        have := (List.getElem?_eq_some_iff.mp e1).1
        rw [List.length_append, List.length_singleton] at this
        omega
      subst hl
      rw [List.getElem?_append_right (by omega), Nat.sub_self] at e1
      rw [a1.fine.len, List.getElem?_append_right (by omega), Nat.sub_self] at e2
      cases e1
      cases e2
      exact hM
theorem DpAll.pairs {K : PySem.W.Frag} {H : Hp} : ∀ {ds : List PyData} {vs : List V} {kvs : List (Int × PyData)}, DpAll K H vs ds → asPairs ds = some kvs → szAll ds = true → ∃ (ps : List Addr) (ws : List (Key × V)), vs = ps.map V.ref ∧ Paired (fun p kv => SqT K H p [kV kv.1, kv.2]) ps ws ∧ KdAt K H ws kvs ∧ ws.map (·.1) = kvs.map (fun q => Sum.inl q.1) ∧ ∀ p ∈ kvs, szOk p.2 = true
  | [], _, kvs, h, e, _ => by
    cases h
    simp [asPairs] at e
    subst e
    exact ⟨[], [], rfl, .nil, trivial, rfl, fun p hp => by simp at hp⟩
  | d :: ds, _, kvs, h, e, hz => by
    cases h with
    | cons h1 h2 =>
      unfold asPairs at e
      split at e
      · rename_i he; cases he
      · rename_i i d' r he
        cases he
        obtain ⟨kv, ek, rfl⟩ := Option.map_eq_some_iff.mp e
        simp only [szAll, Bool.and_eq_true] at hz
        obtain ⟨ps, ws, rfl, hp, hk, hm, hs⟩ := DpAll.pairs h2 ek hz.2
        cases h1 with
        | tup hq ha =>
          cases ha with
          | cons a1 a2 =>
            cases a1
            cases a2 with
            | cons b1 b2 =>
              cases b2
              refine ⟨_ :: ps, (.inl i, _) :: ws, rfl, .cons hq hp, ⟨rfl, b1, hk⟩, by rw [List.map_cons, List.map_cons, hm], fun p hp => ?_⟩
              rcases List.mem_cons.mp hp with z | z
              · rw [z]
                have := hz.1
                simp only [szOk, szAll, Bool.and_eq_true] at this
                exact this.2.2.1
              · exact hs p z
      · cases e
/-- sorted(set(xs)) -/
theorem asInts_map : ∀ ns : List Int, asInts (ns.map .int) = some ns
  | [] => rfl
  | n :: ns => by simp only [List.map_cons, asInts, asInts_map ns, Option.map_some]
theorem asInts_eq : ∀ {xs : List PyData} {ns : List Int}, asInts xs = some ns → xs = ns.map .int
  | [], ns, h => by simp [asInts] at h; subst h; rfl
  | d :: r, ns, h => by
    cases d with
    | int i =>
      simp only [asInts, Option.map_eq_some_iff] at h
      obtain ⟨z, h, rfl⟩ := h
      rw [asInts_eq h]; rfl
    | _ => simp [asInts] at h
theorem asTupI_map : ∀ {ds : List PyData} {ks : List (List Int)}, asTupI ds = some ks → ds = ks.map fun k => .tuple (k.map .int)
  | [], ks, e => by simp [asTupI] at e; subst e; rfl
  | d :: ds, ks, e => by
    cases d with
    | tuple ys =>
      simp only [asTupI, Option.bind_eq_some_iff, Option.map_eq_some_iff] at e
      obtain ⟨k, ek, r, er, rfl⟩ := e
      rw [asTupI_map er, asInts_eq ek]; rfl
    | _ => simp [asTupI] at e
end
end Eng

set_option Elab.async false
set_option linter.all false
set_option maxRecDepth 100000
set_option maxHeartbeats 1000000
/-! Expressions: displays, calls, slices. -/
namespace Eng
open PySem PySem.Spec PyProof.Rows L2
section
variable {α α' β β' : Type} {K : PySem.W.Frag} {XR : XRel} {W : WX} {σ : L2.St} {H Hf : Hp} {ρ : List Addr} {ω : Nat → Addr} {env : Env} {m : Mem} {Rp : Hp → Hp → List Addr → β → α → Prop} {Rp' : Hp → Hp → List Addr → β' → α' → Prop} {Q : β → Hp → Prop}
theorem OutE.bindE {r : R α'} {k : α' → Mem → R α} (h : OutE K XR W σ H Hf ρ Rp (r.bind k) Q) :
    OutE K XR W σ H Hf ρ Rp' r fun v H1 => ∃ u Hf1 ρ1 m1, Pres H Hf ρ H1 Hf1 ρ1 ∧ Fine K H1 Hf1 ρ1 m1 ∧ Rp' H1 Hf1 ρ1 v u ∧ OutE K XR W σ H1 Hf1 ρ1 Rp (k u m1) Q ∧ r = .ok u m1 := by
  cases r with
  | ok u m' => exact fun v H' Hf' ρ' p f r => ⟨u, Hf', ρ', m', p, f, r, OutE.pres p h, rfl⟩
  | exc c x m' => exact h
  | bad => exact h
theorem At.bindE {Rp' : Hp → Hp → List Addr → β' → α' → Prop} (a : At K H σ Hf ρ ω env m) {f : Env → Mem → R α'} {k : α' → Mem → R α} (h : OutE K XR W σ H Hf ρ Rp ((f env m).bind k) Q) :
    tR K XR W Rp' f σ H (fun v H1 => ∃ u Hf1 ρ1 m1, Pres H Hf ρ H1 Hf1 ρ1 ∧ At K H1 σ Hf1 ρ1 ω env m1 ∧ Rp' H1 Hf1 ρ1 v u ∧ OutE K XR W σ H1 Hf1 ρ1 Rp (k u m1) Q ∧ f env m = .ok u m1) :=
  ⟨Hf, ρ, ω, env, m, a, (OutE.bindE h).mono fun v H' ⟨u, Hf1, ρ1, m1, p, f1, r, o, e⟩ => ⟨u, Hf1, ρ1, m1, p, a.pres p f1, r, o, e⟩⟩
end
def Es.len : Es → Nat
  | .nil => 0
  | .cons _ es => es.len + 1
theorem evEs_len {C : Calls} : ∀ (es : Es) {σ : Env} {m m' : Mem} {us : List U}, evEs C es σ m = .ok us m' → us.length = es.len
  | .nil, σ, m, m', us, h => by simp only [evEs, R.ok.injEq] at h; rw [← h.1]; rfl
  | .cons e es, σ, m, m', us, h => by
    simp only [evEs] at h
    cases h1 : evE C e σ m with
    | ok u m1 =>
      rw [h1, R.bind_ok] at h
      cases h2 : evEs C es σ m1 with
      | ok us2 m2 =>
        rw [h2, R.bind_ok] at h
        simp only [R.ok.injEq] at h
        rw [← h.1, List.length_cons, evEs_len es h2]; rfl
      | exc c x m => rw [h2] at h; simp at h
      | bad => rw [h2] at h; simp at h
    | exc c x m => rw [h1] at h; simp at h
    | bad => rw [h1] at h; simp at h
theorem okEs_len {G : Cfg} {N : List Str} : ∀ (es : Es) {c : Sc} {xs : List Expr}, okEs G N es c xs = true → es.len = xs.length
  | .nil, c, xs, h => by
    cases xs with
    | nil => rfl
    | cons _ _ => simp [okEs] at h
  | .cons e es, c, xs, h => by
    cases xs with
    | nil => simp [okEs] at h
    | cons x xs =>
      simp only [okEs, Bool.and_eq_true] at h
      rw [List.length_cons, ← okEs_len es h.2]; rfl
theorem small1001 {n : Nat} (h : n ≤ 1000) : n ≤ sizeLine := by rw [sizeLine_eq]; omega
section
variable {G : Cfg} {N : List Str} {C : Calls} {XR : XRel} {X : Cx} {W : WX} {c : Sc} {e e' l r : Expr} {es : List Expr} {pos : Pos} {f fa fb fc : Env → Mem → R U} {fs : Env → Mem → R (List U)}
abbrev tL (K : PySem.W.Frag) (XR : XRel) (W : WX) (f : Env → Mem → R (List U)) : TA := tR K XR W (RL K) f
theorem ra_nil : PA X [] (tL X.K XR W fun _ m => .ok [] m) := PA.imp pa_nil fun σ H Q ⟨Hf, ρ, ω, env, m, a, o⟩ => a.ok o trivial
theorem ra_cons (he : PE X e (tU X.K XR W f)) (hr : PA X es (tL X.K XR W fs)) (hp : pl e = true) : PA X (e :: es) (tL X.K XR W fun σ m => (f σ m).bind fun u m1 => (fs σ m1).bind fun us m2 => .ok (u :: us) m2) :=
  PA.imp (pa_cons he hr (star_pl hp)) fun σ H Q ⟨Hf, ρ, ω, env, m, a, o⟩ => by
    obtain ⟨A, B, D, E, F', a1, o1⟩ := a.bind (Rp' := RU X.K) o
    refine ⟨A, B, D, E, F', a1, o1.mono fun x H1 ⟨u, Hf1, ρ1, m1, p, a1, r1, o1⟩ => ?_⟩
    obtain ⟨A, B, D, E, F', a2, o2⟩ := a1.bind (Rp' := RL X.K) o1
    refine ⟨A, B, D, E, F', a2, o2.mono fun y H2 ⟨u2, Hf2, ρ2, m2, p2, a2, r2, o2⟩ => ?_⟩
    exact a2.ok o2 ⟨r1.pres p2, r2⟩
theorem rl_tup {k : Nat} (h : PA X es (tL X.K XR W fs)) (hl : ∀ σ m us m', fs σ m = .ok us m' → us.length ≤ 1000) : PE X (.Tuple es k pos) (tU X.K XR W fun σ m => (fs σ m).bind asTup) :=
  PE.imp (pe_tup h) fun σ H Q ⟨Hf, ρ, ω, env, m, a, o⟩ => by
    obtain ⟨A, B, D, E, F', a1, o1⟩ := a.bindE (Rp' := RL X.K) o
    refine ⟨A, B, D, E, F', a1, o1.mono fun x H1 ⟨u, Hf1, ρ1, m1, p, a1, r1, o1, eq⟩ => ?_⟩
    have hlen := small1001 (hl _ _ _ _ eq)
    have hl1 := r1.len
    refine ⟨by omega, fun b hb => ?_⟩
    unfold asTup at o1
    cases hz : datL u with
    | none => rw [hz] at o1; exact o1.elim
    | some ds =>
      rw [hz] at o1
      obtain ⟨h1, h2⟩ := r1.dats hz
      have hfb := a1.free hb
      refine a1.okN o1 hb ⟨.tup (.inl (.inl upd_same)) (DpAll.mono (Sub.new hfb.1) _ _ h1), sz_tuple.mpr ⟨?_, h2⟩⟩
      rw [← h1.len]; omega
theorem rl_lst (h : PA X es (tL X.K XR W fs)) (hl : ∀ σ m us m', fs σ m = .ok us m' → us.length ≤ 1000) : PE X (.List es pos) (tF X.K XR W fun σ m => (fs σ m).bind asLst) :=
  PE.imp (pe_lst h) fun σ H Q ⟨Hf, ρ, ω, env, m, a, o⟩ => by
    obtain ⟨A, B, D, E, F', a1, o1⟩ := a.bindE (Rp' := RL X.K) o
    refine ⟨A, B, D, E, F', a1, o1.mono fun x H1 ⟨u, Hf1, ρ1, m1, p, a1, r1, o1, eq⟩ => ?_⟩
    have hlen := small1001 (hl _ _ _ _ eq)
    have hl1 := r1.len
    refine ⟨by omega, fun b hb => ?_⟩
    unfold asLst at o1
    cases hz : datL u with
    | none => rw [hz] at o1; exact o1.elim
    | some ds =>
      rw [hz] at o1
      obtain ⟨h1, h2⟩ := r1.dats hz
      have hfb := a1.free hb
      refine o1 _ _ _ _ (Pres.fresh hb) (a1.fine.fresh hb) ⟨b, _, ds, rfl, rfl, p.none a.fine a1.fine hb, upd_same, hfb.1, hfb.2, h1, sz_list.mpr ⟨?_, h2⟩⟩
      rw [← h1.len]; omega
/-- [..] * k -/
theorem rl_lmul (ha : PE X l (tF X.K XR W fa)) (hb : PE X r (tU X.K XR W fb)) : PE X (.BinOp l .Mult r pos) (tF X.K XR W fun σ m => (fa σ m).bind fun x m1 => (fb σ m1).bind fun y m2 => d2 lmulV x y m2) :=
  PE.imp (pe_op op_rep ha hb) fun σ H Q ⟨Hf, ρ, ω, env, m, a, o⟩ => by
    obtain ⟨A, B, D, E, F', a1, o1⟩ := a.bind (Rp' := RF X.K H) o
    refine ⟨A, B, D, E, F', a1, o1.mono fun x H1 ⟨u, Hf1, ρ1, m1, p, a1, r1, o1⟩ => ?_⟩
    obtain ⟨A, B, D, E, F', a2, o2⟩ := a1.bind (Rp' := RU X.K) o1
    refine ⟨A, B, D, E, F', a2, o2.mono fun y H2 ⟨u2, Hf2, ρ2, m2, p2, a2, r2, o2⟩ => ?_⟩
    obtain ⟨q, vs, xs, rfl, rfl, h0, h1, h2, h3, h4, h5⟩ := r1
    obtain ⟨k1, k2, k3⟩ := p2.kp q _ h1 h2 h3
    cases u2 with
    | ref i => exact (o2 : False).elim
    | dat d =>
      cases d with
      | int k =>
        simp only [d2_dat, lmulV] at o2
        split at o2
        · rename_i hs
          have h4' := DpAll.mono p2.fz _ _ h4
          cases r2.1
          refine ⟨q, k, vs, rfl, rfl, k1, hs.1, hs.2.1, by rw [h4'.len]; exact hs.2.2, fun b hb => ?_⟩
          have hfb := a2.free hb
          have rep : ∀ n : Nat, DpAll X.K Hf2 (List.replicate n vs).flatten (List.replicate n xs).flatten := fun n => by
            induction n with
            | zero => exact .nil
            | succ n ih => rw [List.replicate_succ, List.replicate_succ, List.flatten_cons, List.flatten_cons]; exact h4'.app ih
          have sz : ∀ n : Nat, szAll (List.replicate n xs).flatten = true ∧ (List.replicate n xs).flatten.length = n * xs.length := fun n => by
            induction n with
            | zero => exact ⟨rfl, by simp⟩
            | succ n ih => rw [List.replicate_succ, List.flatten_cons]; exact ⟨sz_app (sz_list.mp h5).2 ih.1, by rw [List.length_append, ih.2, Nat.succ_mul]; omega⟩
          refine o2 _ _ _ _ (Pres.fresh hb) (a2.fine.fresh hb) ⟨b, _, _, rfl, rfl, (p.trans p2).none a.fine a2.fine hb, upd_same, hfb.1, hfb.2, rep _, sz_list.mpr ⟨?_, (sz _).1⟩⟩
          rw [(sz _).2, Nat.mul_comm]; exact hs.2.2
        · exact o2.elim
      | _ => exact (o2 : False).elim
/-- xs + ys, a list of its own -/
theorem rl_ladd (ha : PE X l (tB X.K XR W fa)) (hb : PE X r (tB X.K XR W fb)) : PE X (.BinOp l .Add r pos) (tF X.K XR W fun σ m => (fa σ m).bind fun x m1 => (fb σ m1).bind fun y m2 => d2 laddV x y m2) :=
  PE.imp (pe_op op_catL ha hb) fun σ H Q ⟨Hf, ρ, ω, env, m, a, o⟩ => by
    obtain ⟨A, B, D, E, F', a1, o1⟩ := a.bind (Rp' := RB X.K) o
    refine ⟨A, B, D, E, F', a1, o1.mono fun x H1 ⟨u, Hf1, ρ1, m1, p, a1, r1, o1⟩ => ?_⟩
    obtain ⟨A, B, D, E, F', a2, o2⟩ := a1.bind (Rp' := RB X.K) o1
    refine ⟨A, B, D, E, F', a2, o2.mono fun y H2 ⟨u2, Hf2, ρ2, m2, p2, a2, r2, o2⟩ => ?_⟩
    have r1' := r1.pres p2
    cases u with
    | ref i => exact (o2 : False).elim
    | dat d =>
      cases u2 with
      | ref i => cases d <;> exact (o2 : False).elim
      | dat e =>
        simp only [d2_dat] at o2
        cases d <;> first | (exact (o2 : False).elim) | skip
        rename_i xs
        cases e <;> first | (exact (o2 : False).elim) | skip
        rename_i ys
        simp only [laddV] at o2
        split at o2
        · rename_i hs
          obtain ⟨q, vs, rfl, h1, h2, h3⟩ := r1'.list a2.fine.sub
          obtain ⟨q', vs', rfl, h1', h2', h3'⟩ := r2.list a2.fine.sub
          refine ⟨q, q', vs, vs', rfl, rfl, h1, h1', by rw [h2.len, h2'.len]; exact hs, fun b hb => ?_⟩
          have hfb := a2.free hb
          refine o2 _ _ _ _ (Pres.fresh hb) (a2.fine.fresh hb) ⟨b, _, _, rfl, rfl, (p.trans p2).none a.fine a2.fine hb, upd_same, hfb.1, hfb.2, h2.app h2', ?_⟩
          rw [sz_list] at *
          exact ⟨by rw [List.length_append]; exact hs, sz_app h3.2 h3'.2⟩
        · exact o2.elim
theorem rl_newl (h : PA X es (tL X.K XR W fs)) (hl : ∀ σ m us m', fs σ m = .ok us m' → us.length ≤ 1000) : PE X (.List es pos) (tU X.K XR W fun σ m => (fs σ m).bind asNew) :=
  PE.imp (pe_lst h) fun σ H Q ⟨Hf, ρ, ω, env, m, a, o⟩ => by
    obtain ⟨A, B, D, E, F', a1, o1⟩ := a.bindE (Rp' := RL X.K) o
    refine ⟨A, B, D, E, F', a1, o1.mono fun x H1 ⟨u, Hf1, ρ1, m1, p, a1, r1, o1, eq⟩ => ?_⟩
    have hlen := small1001 (hl _ _ _ _ eq)
    have hl1 := r1.len
    refine ⟨by omega, fun b hb => ?_⟩
    unfold asNew at o1
    cases hz : datL u with
    | none => rw [hz] at o1; exact o1.elim
    | some ds =>
      rw [hz] at o1
      obtain ⟨h1, h2⟩ := r1.dats hz
      have hfb := a1.free hb
      have hsz : szOk (.list ds) = true := sz_list.mpr ⟨by rw [← h1.len]; omega, h2⟩
      refine o1 _ (upd H1 b (.lst x)) Hf1 (ρ1 ++ [b]) ⟨Sub.refl _, ⟨[b], rfl⟩, fun q o e e1 e2 => ⟨Sub.new hb _ _ e, e1, fun hm => ?_⟩⟩ ⟨fun q o e => Sub.new hb _ _ (a1.fine.sub _ _ e), ?_, fun q hq => ?_, ?_, fun i q ob e1 e2 => ?_⟩ ⟨b, ?_, rfl⟩
      · rcases List.mem_append.mp hm with z | z
        · exact e2 z
        · have : q = b := by simpa using z
          rw [this, hb] at e; cases e
      · rw [List.nodup_append]
        refine ⟨a1.fine.nd, by simp, fun q hq q' hq' e => hfb.2 ?_⟩
        have : q' = b := by simpa using hq'
        rw [← this, ← e]; exact hq
      · rcases List.mem_append.mp hq with z | z
        · exact a1.fine.un q z
        · have : q = b := by simpa using z
          rw [this]; exact hfb.1
      · rw [List.length_append, List.length_append, a1.fine.len]; rfl
      · by_cases hi : i < ρ1.length
        · rw [List.getElem?_append_left hi] at e1
          rw [List.getElem?_append_left (by rw [← a1.fine.len]; exact hi)] at e2
          exact (a1.fine.at_ i q ob e1 e2).grow (fun x e => Sub.new hb _ _ e) (Sub.refl _) ⟨_, rfl⟩
        · rw [List.getElem?_append_right (by omega)] at e1
          rw [List.getElem?_append_right (by rw [← a1.fine.len]; omega)] at e2
          rw [a1.fine.len] at e1
          cases hk : i - m1.length with
          | zero =>
            rw [hk] at e1 e2
            simp at e1 e2
            subst e1 e2
            exact ⟨x, upd_same, h1, hsz⟩
          | succ k => rw [hk] at e1; simp at e1
      · rw [List.getElem?_append_right (by rw [a1.fine.len]; exact Nat.le_refl _), a1.fine.len, Nat.sub_self]; rfl
theorem OutE.conv {α β : Type} {K : PySem.W.Frag} {σ : L2.St} {H Hf : Hp} {ρ : List Addr} {Rp : Hp → Hp → List Addr → β → α → Prop} {Q : β → Hp → Prop} {q : R α} (h : OutE K XR W σ H Hf ρ Rp q Q) : OutE K XR (fun cls d _ H => WE W σ cls d H) [] H Hf ρ Rp q Q := by
  cases q with
  | ok u m => exact h
  | exc c x m => exact h
  | bad => exact h
theorem rl_call (g : GX G N C XR X W c) {i : Nat} {x : Str} {p : Pos} (hn : G.nm i = some x) (hkw : G.kwo.contains i = false) (hg : glB c x = true) (ha : PA X es (tL X.K XR W fs)) (hes : es = [] → ∀ σ m, fs σ m = .ok [] m) (hpl : es.all pl = true) :
    PE X (.Call (.Name x p) es [] pos) (tU X.K XR W fun σ m => (fs σ m).bind fun us m1 => C i us m1) := by
  obtain ⟨q1, q2⟩ := g.glo hg
  obtain ⟨a, fd, ps, k, hm, hk, hb, hr, F, _⟩ := g.fns i x hn
  have hb := hb hkw
  have him : ∀ σ H Q, tU X.K XR W (fun σ m => (fs σ m).bind fun us m1 => C i us m1) σ H Q → tL X.K XR W fs σ H fun vs H1 => spC X.K XR (C i) vs H1 Q (WE W σ) := fun σ H Q ⟨Hf, ρ, ω, env, m, a, o⟩ => by
    obtain ⟨A, B, D, E, F', a1, o1⟩ := a.bind (Rp' := RL X.K) o
    exact ⟨A, B, D, E, F', a1, o1.mono fun x H1 ⟨u, Hf1, ρ1, m1, p, a1, r1, o1⟩ => ⟨Hf1, ρ1, m1, u, a1.fine, r1, o1.conv⟩⟩
  have hst : ∀ l : List Expr, l.all pl = true → (starEach l X.env).any (·.1) = false := fun l => by
    induction l with
    | nil => intro _; rfl
    | cons x r ih => intro h; simp only [List.all_cons, Bool.and_eq_true] at h; rw [star_pl h.1, List.any_cons, ih h.2]; rfl
  cases es with
  | nil =>
    refine PE.imp (pe_callG0 F hr g.gd q1 hm hk hb g.takes q2) fun σ H Q h => ?_
    obtain ⟨Hf, ρ, ω, env, m, a, o⟩ := him σ H Q h
    rw [hes rfl] at o
    exact o _ H Hf ρ (Pres.refl _ _ _) a.fine trivial
  | cons e r =>
    simp only [List.all_cons, Bool.and_eq_true] at hpl
    exact PE.imp (pe_callG F hr g.gd q1 hm hk hb g.takes ha q2 (star_pl hpl.1) (hst r hpl.2)) him
end
end Eng

set_option Elab.async false
set_option linter.all false
set_option maxRecDepth 100000
set_option maxHeartbeats 1000000
/-! Expressions: keywords, isinstance, slices. -/
namespace Eng
open PySem PySem.Spec PyProof.Rows L2
section
variable {G : Cfg} {N : List Str} {C : Calls} {XR : XRel} {X : Cx} {W : WX} {c : Sc} {e e' l r : Expr} {es : List Expr} {pos : Pos} {f fa fb fc : Env → Mem → R U} {fs fk : Env → Mem → R (List U)} {kws : List Keyword}
theorem rk_nil : PK X [] (tL X.K XR W fun _ m => .ok [] m) := ⟨fun pos pins s σ H Q I ⟨Hf, ρ, ω, env, m, a, o⟩ => pk_nil.run pos pins s σ H Q I (a.ok (v := ([] : List V)) o trivial)⟩
theorem rk_cons {nm : Option Str} {kp : Pos} (he : PE X e (tU X.K XR W f)) (hr : PK X kws (tL X.K XR W fs)) : PK X (⟨nm, e, kp⟩ :: kws) (tL X.K XR W fun σ m => (f σ m).bind fun u m1 => (fs σ m1).bind fun us m2 => .ok (u :: us) m2) :=
  ⟨fun pos pins s σ H Q I ⟨Hf, ρ, ω, env, m, a, o⟩ => (pk_cons he hr).run pos pins s σ H Q I (by
    obtain ⟨A, B, D, E, F', a1, o1⟩ := a.bind (Rp' := RU X.K) o
    refine ⟨A, B, D, E, F', a1, o1.mono fun x H1 ⟨u, Hf1, ρ1, m1, p, a1, r1, o1⟩ => ?_⟩
    obtain ⟨A, B, D, E, F', a2, o2⟩ := a1.bind (Rp' := RL X.K) o1
    refine ⟨A, B, D, E, F', a2, o2.mono fun y H2 ⟨u2, Hf2, ρ2, m2, p2, a2, r2, o2⟩ => ?_⟩
    exact a2.ok (v := x :: y) o2 ⟨r1.pres p2, r2⟩)⟩
theorem permL_cons (us : List U) (i : Nat) (r : List Nat) : permL us (i :: r) = (us[i]?).bind fun u => (permL us r).bind fun w => some (u :: w) := by
  unfold permL
  rw [List.mapM_cons]
  rfl
theorem RUs.get {K : PySem.W.Frag} {Hf : Hp} {ρ : List Addr} : ∀ {vs : List V} {us : List U} {i : Nat} {u : U}, RUs K Hf ρ vs us → us[i]? = some u → ∃ v, vs[i]? = some v ∧ RepU K Hf ρ v u
  | v :: vs, u :: us, 0, w, h, e => by simp at e; subst e; exact ⟨v, rfl, h.1⟩
  | v :: vs, u :: us, i + 1, w, h, e => by simp at e; obtain ⟨v', e', r⟩ := RUs.get h.2 e; exact ⟨v', by simpa using e', r⟩
  | [], [], i, w, h, e => by simp at e
  | [], _ :: _, _, _, h, _ => h.elim
  | _ :: _, [], _, _, h, _ => h.elim
theorem RUs.app {K : PySem.W.Frag} {Hf : Hp} {ρ : List Addr} : ∀ {vs ws : List V} {us zs : List U}, RUs K Hf ρ vs us → RUs K Hf ρ ws zs → RUs K Hf ρ (vs ++ ws) (us ++ zs)
  | [], _, [], _, _, h => h
  | _ :: _, _, _ :: _, _, h, h' => ⟨h.1, RUs.app h.2 h'⟩
  | [], _, _ :: _, _, h, _ => h.elim
  | _ :: _, _, [], _, h, _ => h.elim
theorem RUs.perm {K : PySem.W.Frag} {Hf : Hp} {ρ : List Addr} {vs : List V} {us : List U} (h : RUs K Hf ρ vs us) : ∀ {p : List Nat} {ws : List U}, permL us p = some ws → ∃ zs, p.mapM (fun i => vs[i]?) = some zs ∧ RUs K Hf ρ zs ws
  | [], ws, e => by simp [permL] at e; subst e; exact ⟨[], rfl, trivial⟩
  | i :: p, ws, e => by
    rw [permL_cons] at e
    simp only [Option.bind_eq_some_iff, Option.some.injEq] at e
    obtain ⟨u, e1, w, e2, rfl⟩ := e
    obtain ⟨v, e3, r⟩ := h.get e1
    obtain ⟨zs, e4, r'⟩ := h.perm e2
    refine ⟨v :: zs, ?_, r, r'⟩
    rw [List.mapM_cons, e3, e4]; rfl
theorem rl_callk (g : GX G N C XR X W c) {i : Nat} {x : Str} {p : Pos} {ks : List Str} {perm : List Nat} (hn : G.nm i = some x) (hg : glB c x = true) (ha : PA X es (tL X.K XR W fs)) (hes : es = [] → ∀ σ m, fs σ m = .ok [] m) (hpl : es.all pl = true)
    (hk : PK X kws (tL X.K XR W fk)) (hks : kws.map (·.arg) = ks.map some) (hkb : (i, es.length, ks, perm) ∈ G.kb) (hl : ∀ σ m us m', fs σ m = .ok us m' → us.length = es.length) (hl' : ∀ σ m us m', fk σ m = .ok us m' → us.length = ks.length) :
    PE X (.Call (.Name x p) es kws pos) (tU X.K XR W fun σ m => (fs σ m).bind fun us m1 => (fk σ m1).bind fun zs m2 => (R.ofO (permL (us ++ zs) perm) m2).bind fun ws m3 => C i ws m3) := by
  obtain ⟨q1, q2⟩ := g.glo hg
  obtain ⟨a, fd, ps, k, hm, hkp, hb, hr, F, hKB⟩ := g.fns i x hn
  have hst : ∀ l : List Expr, l.all pl = true → (starEach l X.env).any (·.1) = false := fun l => by
    induction l with
    | nil => intro _; rfl
    | cons x r ih => intro h; simp only [List.all_cons, Bool.and_eq_true] at h; rw [star_pl h.1, List.any_cons, ih h.2]; rfl
  have fin : ∀ {σ : L2.St} {H : Hp} {Q : VK} {Hf ρ ω env m} {us : List U} {vs : List V}, At X.K H σ Hf ρ ω env m → RUs X.K Hf ρ vs us → vs.length = es.length →
      OutE X.K XR W σ H Hf ρ (RU X.K) ((fk env m).bind fun zs m2 => (R.ofO (permL (us ++ zs) perm) m2).bind fun ws m3 => C i ws m3) Q →
      tL X.K XR W fk σ H fun zs H2 => vs.length = es.length ∧ zs.length = ks.length ∧ ∃ vs', perm.mapM (fun i => (vs ++ zs)[i]?) = some vs' ∧ spC X.K XR (C i) vs' H2 Q (WE W σ) := fun {σ H Q Hf ρ ω env m us vs} a1 r1 hv o1 => by
    obtain ⟨A, B, D, E, F', a2, o2⟩ := a1.bindE (Rp' := RL X.K) o1
    refine ⟨A, B, D, E, F', a2, o2.mono fun y H2 ⟨u2, Hf2, ρ2, m2, p2, a2, r2, o2, eq2⟩ => ?_⟩
    cases hz : permL (us ++ u2) perm with
    | none => rw [hz] at o2; exact o2.elim
    | some ws =>
      rw [hz, R.ofO_some, R.bind_ok] at o2
      obtain ⟨zs, e4, r4⟩ := ((r1.pres p2).app r2).perm hz
      exact ⟨hv, by rw [r2.len]; exact hl' _ _ _ _ eq2, zs, e4, Hf2, ρ2, m2, ws, a2.fine, r4, o2.conv⟩
  cases es with
  | nil =>
    refine PE.imp (pe_callGK F hr g.gd q1 hm hkp (hKB _ _ _ hkb) g.takes pa_nil hk hks q2 (fun _ => rfl) (fun _ _ h => by cases h) (hst [] rfl)) fun σ H Q ⟨Hf, ρ, ω, env, m, a, o⟩ => ?_
    dsimp only at o
    rw [hes rfl, R.bind_ok] at o
    exact fin (us := []) (vs := []) a trivial rfl o
  | cons e r =>
    refine PE.imp (pe_callGK F hr g.gd q1 hm hkp (hKB _ _ _ hkb) g.takes ha hk hks q2 (fun h => by cases h) (fun e' r' h => by cases h; simp only [List.all_cons, Bool.and_eq_true] at hpl; exact star_pl hpl.1) (hst _ hpl)) fun σ H Q ⟨Hf, ρ, ω, env, m, a, o⟩ => ?_
    obtain ⟨A, B, D, E, F', a1, o1⟩ := a.bindE (Rp' := RL X.K) o
    refine ⟨A, B, D, E, F', a1, o1.mono fun x H1 ⟨u, Hf1, ρ1, m1, p, a1, r1, o1, eq⟩ => ?_⟩
    exact fin a1 r1 (by rw [r1.len]; exact hl _ _ _ _ eq) o1
/-- a built-in class as a value -/
theorem cls_pe (g : GX G N C XR X W c) {k : ClsT} {t : Expr} (h : isName c (clsN k) t = true) : ∃ n : String, PE X t (tC (.ty n)) ∧ n = clsS k ∧ pl t = true := by
  cases t <;> simp only [isName, Bool.false_eq_true] at h
  simp only [Bool.and_eq_true, decide_eq_true_eq] at h
  obtain ⟨rfl, h2⟩ := h
  obtain ⟨q1, q2⟩ := g.glo h2
  have hm : X.mg (clsN k) = none := g.bn _ (by cases k <;> decide)
  refine ⟨_, pe_bltn (v := .ty _) q1 hm (u := .type (clsS k)) (by cases k <;> decide +kernel) rfl (by cases k <;> decide) q2, rfl, rfl⟩
theorem rl_isi (g : GX G N C XR X W c) {k : ClsT} {t : Expr} {p : Pos} (hg : glB c "isinstance" = true) (he : PE X e (tU X.K XR W f)) (hp : pl e = true) (ht : isName c (clsN k) t = true) :
    PE X (.Call (.Name "isinstance" p) [e, t] [] pos) (tU X.K XR W fun σ m => (f σ m).bind (d1 fun d => some (.bool (clsVal k d)))) := by
  obtain ⟨q1, q2⟩ := g.glo hg
  obtain ⟨n, h1, hn, hpt⟩ := cls_pe g ht
  have hm : X.mg "isinstance" = none := g.bn _ (by decide)
  refine PE.imp (pe_callB call_isi q1 hm (by decide +kernel) (pa_cons he (pa_cons h1 pa_nil (star_pl hpt)) (star_pl hp)) (by decide) q2 (star_pl hp) (by rw [star_pl hpt]; rfl)) fun σ H Q ⟨Hf, ρ, ω, env, m, a, o⟩ => ?_
  obtain ⟨A, B, D, E, F', a1, o1⟩ := a.bind (Rp' := RU X.K) o
  refine ⟨A, B, D, E, F', a1, o1.mono fun x H1 ⟨u, Hf1, ρ1, m1, p, a1, r1, o1⟩ => ?_⟩
  cases u with
  | ref i => exact o1.elim
  | dat d =>
    subst hn
    exact ⟨x, _, _, _, _, rfl, .ty _, ty_of (Dp.mono a1.fine.sub _ _ r1.1), cls_kit k d r1.2, a1.ok o1 ⟨.bl _, rfl⟩⟩
theorem rl_isi2 (g : GX G N C XR X W c) {k k' : ClsT} {t t' : Expr} {p p' : Pos} {kk : Nat} (hg : glB c "isinstance" = true) (he : PE X e (tU X.K XR W f)) (hp : pl e = true) (ht : isName c (clsN k) t = true) (ht' : isName c (clsN k') t' = true) :
    PE X (.Call (.Name "isinstance" p) [e, .Tuple [t, t'] kk p'] [] pos) (tU X.K XR W fun σ m => (f σ m).bind (d1 fun d => some (.bool (clsVal k d || clsVal k' d)))) := by
  obtain ⟨q1, q2⟩ := g.glo hg
  obtain ⟨n, h1, hn, hpt⟩ := cls_pe g ht
  obtain ⟨n', h1', hn', hpt'⟩ := cls_pe g ht'
  have hm : X.mg "isinstance" = none := g.bn _ (by decide)
  have hT : PE X (.Tuple [t, t'] kk p') (tTup (tCons (tC (.ty n)) (tCons (tC (.ty n')) tNil))) := pe_tup (pa_cons h1 (pa_cons h1' pa_nil (star_pl hpt')) (star_pl hpt))
  refine PE.imp (pe_callB call_isiT q1 hm (by decide +kernel) (pa_cons he (pa_cons hT pa_nil) (star_pl hp)) (by decide) q2 (star_pl hp) (by rfl)) fun σ H Q ⟨Hf, ρ, ω, env, m, a, o⟩ => ?_
  obtain ⟨A, B, D, E, F', a1, o1⟩ := a.bind (Rp' := RU X.K) o
  refine ⟨A, B, D, E, F', a1, o1.mono fun x H1 ⟨u, Hf1, ρ1, m1, p, a1, r1, o1⟩ => ⟨by show 2 ≤ sizeLine; decide, fun b hb => ?_⟩⟩
  cases u with
  | ref i => exact o1.elim
  | dat d =>
    subst hn hn'
    refine ⟨x, b, _, _, _, (clsVal k d || clsVal k' d), rfl, upd_same, .cons (.ty _) (.cons (.ty _) .nil), ty_of (Dp.mono (a1.fine.sub.trans (Sub.new hb)) _ _ r1.1), ?_, ?_⟩
    · refine kitAny_cons (cls_kit k d r1.2) (fun hb => ?_) fun hb => by rw [hb]; rfl
      refine kitAny_cons (cls_kit k' d r1.2) (fun hb' => ?_) fun hb' => by rw [hb']; exact Bool.or_true _
      rw [hb, hb']; exact kitAny_nil
    · exact o1 _ _ _ _ (Pres.fresh hb) (a1.fine.fresh hb) ⟨.bl _, rfl⟩
/-- a slice's parts -/
theorem ro_no : PO X none (tR X.K XR W (fun _ _ _ (a b : Option Int) => a = b) fun _ m => .ok none m) := ⟨fun pins s σ H Q I ⟨Hf, ρ, ω, env, m, a, o⟩ => po_none.run pins s σ H Q I (a.ok (v := (none : Option Int)) o rfl)⟩
abbrev tO (K : PySem.W.Frag) (XR : XRel) (W : WX) (f : Env → Mem → R (Option Int)) : TO := tR K XR W (fun _ _ _ (a b : Option Int) => a = b) f
theorem ro_some (h : PE X e (tU X.K XR W f)) : PO X (some e) (tO X.K XR W fun σ m => ((f σ m).bind asInt).bind fun i m1 => .ok (some i) m1) := ⟨fun pins s σ H Q I ⟨Hf, ρ, ω, env, m, a, o⟩ => (po_some h).run pins s σ H Q I (by
  dsimp only at o
  rw [R.bind_bind] at o
  obtain ⟨A, B, D, E, F', a1, o1⟩ := a.bind (Rp' := RU X.K) o
  refine ⟨A, B, D, E, F', a1, o1.mono fun x H1 ⟨u, Hf1, ρ1, m1, p, a1, r1, o1⟩ => ?_⟩
  cases u with
  | ref i => exact o1.elim
  | dat d =>
    cases d with
    | int i => cases r1.1; exact ⟨i, rfl, a1.ok o1 rfl⟩
    | _ => exact o1.elim)⟩
theorem rl_sl {lo hi : Option Expr} {p2 : Pos} {fl fh : Env → Mem → R (Option Int)} (he : PE X e (tB X.K XR W f)) (hl : PO X lo (tO X.K XR W fl)) (hh : PO X hi (tO X.K XR W fh)) :
    PE X (.Subscript e (.Slice lo hi none p2) pos) (tU X.K XR W fun σ m => (f σ m).bind fun x m1 => (fl σ m1).bind fun l m2 => (fh σ m2).bind fun h m3 => d1 (fun d => slVal d l h) x m3) :=
  PE.imp (pe_slice sl_D he hl hh) fun σ H Q ⟨Hf, ρ, ω, env, m, a, o⟩ => by
    obtain ⟨A, B, D, E, F', a1, o1⟩ := a.bind (Rp' := RB X.K) o
    refine ⟨A, B, D, E, F', a1, o1.mono fun x H1 ⟨u, Hf1, ρ1, m1, p, a1, r1, o1⟩ => ?_⟩
    obtain ⟨A, B, D, E, F', a2, o2⟩ := a1.bind (Rp' := fun _ _ _ (a b : Option Int) => a = b) o1
    refine ⟨A, B, D, E, F', a2, o2.mono fun y H2 ⟨u2, Hf2, ρ2, m2, p2, a2, r2, o2⟩ => ?_⟩
    obtain ⟨A, B, D, E, F', a3, o3⟩ := a2.bind (Rp' := fun _ _ _ (a b : Option Int) => a = b) o2
    refine ⟨A, B, D, E, F', a3, o3.mono fun z H3 ⟨u3, Hf3, ρ3, m3, p3, a3, r3, o3⟩ => ?_⟩
    subst r2 r3
    have r1 := (r1.pres p2).pres p3
    cases u with
    | ref i => exact o3.elim
    | dat d =>
      simp only [d1_dat] at o3
      cases hz : slVal d y z with
      | none => rw [hz] at o3; exact o3.elim
      | some w => rw [hz] at o3; exact ⟨_, _, _, _, _, _, d, w, a3, r1, hz, o3⟩
/-- list(..), a list of its own -/
theorem rl_listF (g : GX G N C XR X W c) {p : Pos} (hg : glB c "list" = true) (he : PE X e (tB X.K XR W f)) (hp : pl e = true) :
    PE X (.Call (.Name "list" p) [e] [] pos) (tF X.K XR W fun σ m => (f σ m).bind (d1 (b1Val .list))) :=
  PE.imp (pe_b1X g (f := .list) rfl hg he hp op_listF) fun σ H Q ⟨Hf, ρ, ω, env, m, a, o⟩ => by
    obtain ⟨A, B, D, E, F', a1, o1⟩ := a.bind (Rp' := RB X.K) o
    refine ⟨A, B, D, E, F', a1, o1.mono fun x H1 ⟨u, Hf1, ρ1, m1, p, a1, r1, o1⟩ => ?_⟩
    cases u with
    | ref i => exact o1.elim
    | dat d =>
      simp only [d1_dat] at o1
      cases hz : b1Val .list d with
      | none => rw [hz] at o1; exact o1.elim
      | some w =>
        rw [hz] at o1
        obtain ⟨ds, rfl⟩ : ∃ ds, w = .list ds := by
          cases d <;> simp only [b1Val, reduceCtorEq, Option.some.injEq] at hz
          · exact ⟨_, hz.symm⟩
          · exact ⟨_, hz.symm⟩
        refine ⟨_, _, _, _, _, _, x, d, ds, rfl, a1, r1, hz, fun b vs hb h1 h2 => ?_⟩
        have hfb := a1.free hb
        exact o1 _ _ _ _ (Pres.fresh hb) (a1.fine.fresh hb) ⟨b, vs, ds, rfl, rfl, p.none a.fine a1.fine hb, upd_same, hfb.1, hfb.2, h1, h2⟩
end
end Eng

set_option Elab.async false
set_option linter.all false
set_option maxRecDepth 100000
set_option maxHeartbeats 1000000
/-! enumerate of a tuple. -/
namespace PySem
open Sem (wp)
open AutoSeq1 (wpAny_loadPart')
theorem engMeets_enum1 {v : Value} {o : Obj} {H : Heap → Prop} (B : Begins v o H) :
    Meets (Builtin.«enumerate.__new__» ⟨[.type "enumerate", v], []⟩) (fun _ R s => H s.heap ∧
      R (.ok (.ret (.ref (s.heap.push o).objs.size))) { s with heap := (s.heap.push o).push { cls := .type "enumerate", data := .fields #[.none, .bool false, .ref s.heap.objs.size, rawInt 0, .none, .none] } }) :=
  .of_wp fun prog w A R s h => by
    obtain ⟨hp, g, d, tk, os⟩ := s; obtain ⟨h1, h⟩ := h
    have hsub := sub_enumerate
    have q1 : ∀ {A' : Around} {E : Value → Shared → Prop} {Q : Value → Shared → Prop}, Q (.ref hp.objs.size) ⟨hp.push o, g, d, tk, os⟩ → wpAny (model prog w) A' (pyIter v) Q E ⟨hp, g, d, tk, os⟩ :=
      fun q => B.iter prog w _ _ ⟨hp, g, d, tk, os⟩ _ h1 q
    wp_walk using q1
    refine wpAny_stack_any fun st => wpAny_pure ?_
    split
    · rename_i c _ _ _ _ _
      cases (c == Value.type "enumerate")
      · wp_walk using q1
        exact ⟨_, rfl, h⟩
      · wp_walk using q1
        exact ⟨_, rfl, h⟩
    · wp_walk using q1
      exact ⟨_, rfl, h⟩
section
variable {prog : Program} {w : World} {A : Around} {E : Value → Shared → Prop} {s : Shared}
theorem engEnum1 {v : Value} {o : Obj} {H : Heap → Prop} {Q : Value → Shared → Prop} (B : Begins v o H) (h1 : H s.heap)
    (h : ∀ h', IsEnum h' (s.heap.objs.size + 1) s.heap.objs.size 0 .none → h'.get? s.heap.objs.size = some o → h'.objs.size = s.heap.objs.size + 2 →
      (∀ b o, s.heap.get? b = some o → h'.get? b = some o) → Q (.ref (s.heap.objs.size + 1)) { s with heap := h' }) :
    wpAny (model prog w) A (call (.type "enumerate") [v]) Q E s := by
  refine callType_new F.called_enumerate (by decide) (F.typeCall_enumerate_1 _) (F.newCall_enumerate_1 _) (fun obj => F.args_object_init_2 obj _) F.entry_enumerate_new
    (engMeets_enum1 B) ⟨h1, ?_⟩
  have hz : (s.heap.push o).objs.size = s.heap.objs.size + 1 := Heap.size_push ..
  show _ ∧ _
  rw [hz]
  have he : IsEnum ((s.heap.push o).push { cls := .type "enumerate", data := .fields #[.none, .bool false, .ref s.heap.objs.size, rawInt 0, .none, .none] }) (s.heap.objs.size + 1) s.heap.objs.size 0 .none := by
    have := Heap.get?_push_size (s.heap.push o) (o := { cls := .type "enumerate", data := .fields #[.none, .bool false, .ref s.heap.objs.size, rawInt 0, .none, .none] }) rfl
    rw [hz] at this; exact this
  refine ⟨⟨_, he, rfl⟩, h _ he (Heap.get?_push_of_some _ (Heap.get?_push_size _ B.free)) (by rw [Heap.size_push, hz]) fun b o x => Heap.get?_push_of_some _ (Heap.get?_push_of_some _ x)⟩
end
end PySem
namespace Eng
open PySem PySem.Spec PyProof.Rows L2
def IteT (K : PySem.W.Frag) (a : Addr) : L2.It :=
  ⟨fun i H => ∃ (xs : List V) (x : V), SqT K H a xs ∧ xs[i]? = some x, fun i H v H' => ∃ T x, v = .ref T ∧ H T = none ∧ H' = upd H T (.tup [.int (i : Nat), x]) ∧ ∀ xs, SqT K H a xs → xs[i]? = some x, fun i H => ∃ xs : List V, SqT K H a xs ∧ xs.length = i⟩
theorem turn_enumT {P : Program} {w : World} {K : PySem.W.Frag} {elts : List Expr} {kk : Nat} {tpos : Pos} (a e it : Addr) (hae : e ≠ a) (hai : a ≠ it) :
    Turn P w K (.Tuple elts kk tpos) (IteT K a) [e, it] e (fun i h => (∃ old, IsEnum h e it ((i : Nat) : Int) old) ∧ h.IsTupleIter it a i ∧ e ≠ it) where
  mem := by simp
  obj := fun i h st b hb => by
    obtain ⟨⟨old, he⟩, ⟨o, ho, hc, hd⟩, _⟩ := st
    have e' : b = e ∨ b = it := by simpa using hb
    rcases e' with z | z
    · rw [z]; exact ⟨_, he, fun v q => nomatch q⟩
    · rw [z]; exact ⟨o, ho, fun v q => by rw [hd] at q; cases q⟩
  keep := fun i h h' st k => let ⟨⟨old, he⟩, hi, hne⟩ := st; ⟨⟨old, k e (by simp) _ he⟩, hi.at fun o q => k it (by simp) o q, hne⟩
  item := by
    intro X hP hw hK hc i pins s σ H E I hf st hg
    subst hP hw hK
    obtain ⟨⟨old, he⟩, hit, hne⟩ := st
    obtain ⟨xs, x, hq, hx⟩ := hg
    obtain ⟨its, rv, p, hz⟩ := I.tuple hq
    obtain ⟨u, hu, ru⟩ := rv.get hx
    have hel : e < s.heap.objs.size := Heap.lt_size he
    have hil : it < s.heap.objs.size := by obtain ⟨_, q, _⟩ := hit; exact Heap.lt_size q
    have hh : X.A.in1.handled = none := I.ok.hd hc
    have hil2 : i < its.toArray.size := by have := (List.getElem?_eq_some_iff.mp hu).1; simpa using this
    refine wpAny_pyNext_enum_itemD (Draws.tuple (prog := X.prog) (w := X.w) (A := X.A.in1) hh it a hai its.toArray) he ⟨hit, show s.heap.IsTuple a its.toArray from p⟩ hil2 hne (by
      intro z; rcases List.mem_cons.mp z with z | z
      · exact hne z
      · exact hae (by simpa using z)) fun y h' tk hy ho hst hT hsz hk => ?_
    have ey : y = u := by
      have h1 : its.toArray[i]? = some u := by simpa using hu
      rw [h1] at hy; exact (Option.some.inj hy).symm
    subst ey
    refine ⟨_, rfl, wpAny_letOwnedTupleGo_enum (s := { s with heap := h', toks := tk + 1 }) ho fun h'' he' sb => ?_⟩
    have hT2 : h''.get? s.heap.objs.size = some { cls := .type "tuple", data := .seq #[.int i tk, y] } := (sb.2 _ (Nat.ne_of_gt hel)).trans hT
    have new : ObjOk X.prog X.w (upd H s.heap.objs.size (.tup [.int (i : Nat), x])) h'' s.heap.objs.size (.tup [.int (i : Nat), x]) :=
      ⟨by show 2 ≤ sizeLine; decide, [.int i tk, y], .cons ⟨_, rfl⟩ (.cons ru .nil), ⟨_, hT2, rfl, _, rfl⟩⟩
    have I1 : L2.Inv X pins σ (upd H s.heap.objs.size (.tup [.int (i : Nat), x])) { s with heap := h'', toks := tk + 1 } :=
      I.turnedNew (ch := [e, it]) (fun b ob hb q => (sb.2 b (fun z => hb (by simp [z]))).trans (hk b ob (fun z => hb (by simp [z])) (fun z => hb (by simp [z])) q)) hf (Nat.le_refl _) new
    refine ⟨.ref s.heap.objs.size, _, I1, rfl, ⟨_, x, rfl, I.hok.fresh (Nat.le_refl _), rfl, fun ys hy => by rw [I.tuple_inj hy hq]; exact hx⟩, ⟨⟨y, ?_⟩, hst.1.at fun o q => (sb.2 it (Ne.symm hne)).trans q, hne⟩, fun b hb => ?_⟩
    · have e1 : ((i + 1 : Nat) : Int) = (i : Int) + 1 := by omega
      rw [e1]; exact he'
    · have hb' : b < s.heap.objs.size := by
        have e' : b = e ∨ b = it := by simpa using hb
        rcases e' with z | z
        · rw [z]; exact hel
        · rw [z]; exact hil
      rw [upd_ne (Nat.ne_of_lt hb')]
      exact (hf b hb).1
  done := by
    intro X hP hw hK hc i pins s σ H E I hf st hg
    subst hP hw hK
    obtain ⟨⟨old, he⟩, hit, hne⟩ := st
    obtain ⟨xs, hq, hx⟩ := hg
    obtain ⟨its, rv, p, hz⟩ := I.tuple hq
    obtain ⟨f0, f1, f2, f3, f4, f5⟩ := hf it (by simp)
    have hl := rv.length
    have hh : X.A.in1.handled = none := I.ok.hd hc
    have hsz : its.toArray.size = i := by rw [List.size_toArray]; omega
    exact wpAny_pyNext_enum_endD (Draws.tuple (prog := X.prog) (w := X.w) (A := X.A.in1) hh it a hai its.toArray) he ⟨by rw [hsz]; exact hit, show s.heap.IsTuple a its.toArray from p⟩ fun h' eb => ⟨rfl, I.turned (t' := s.toks) (fun b o hb q => eb b o hb q) f0 f1 f3 f4 f5⟩
  self := fun A i s Q E st h => let ⟨⟨_, he⟩, _⟩ := st; wpAny_pyIter_enum he h
def iEnumT (K : PySem.W.Frag) (ta : TA) : TI := fun σ H R => ta σ H fun vs H1 => ∃ a xs, vs = [.ref a] ∧ SqT K H1 a xs ∧ R (IteT K a) H1
theorem pi_enumT {X : Cx} {e : Expr} {ta : TA} {p pos tpos : Pos} {elts : List Expr} {kk : Nat} (hg : Gl X "enumerate") (hm : X.mg "enumerate" = none) (ha : PA X [e] ta) (hs : starEach [e] X.env = [(false, eval e X.env)]) :
    PI X (.Tuple elts kk tpos) (.Call (.Name "enumerate" p) [e] [] pos) (iEnumT X.K ta) := by
  refine ⟨fun pins s σ H R I h => ?_⟩
  refine Call_ (ld_blt I hg hm boot_enumerate (PyProof.Rows.callWith_type1 (thn (ha.run pos pins s σ H _ I h) fun us s1 ⟨vs, H1, I1, r1, q1⟩ => ?_) hs rfl))
  obtain ⟨a, xs, ex, hq, q⟩ := q1
  subst ex
  cases r1 with
  | cons r rr =>
    cases rr
    cases r
    obtain ⟨its, rv, p', hz⟩ := I1.tuple hq
    have hal : a < s1.heap.objs.size := by obtain ⟨o, e1, _⟩ := p'; exact Heap.lt_size e1
    refine engEnum1 (begins_tuple a its.toArray) (show s1.heap.IsTuple a its.toArray from p') fun h' he hit hsz hk => wpAny_pyIter_enum he ?_
    have I2 : L2.Inv X pins σ H1 { s1 with heap := h' } := I1.kept (t' := s1.toks) hk
    refine ⟨s1.heap.objs.size + 1, [s1.heap.objs.size + 1, s1.heap.objs.size], _, _, H1, rfl, I2, turn_enumT a (s1.heap.objs.size + 1) s1.heap.objs.size (Nat.ne_of_gt (Nat.lt_succ_of_lt hal)) (Nat.ne_of_lt hal), ⟨⟨.none, he⟩, ⟨_, hit, rfl, rfl⟩, Nat.succ_ne_self _⟩, fun b hb => ?_, q⟩
    have e' : b = s1.heap.objs.size + 1 ∨ b = s1.heap.objs.size := by simpa using hb
    have hle : s1.heap.objs.size ≤ b := by
      rcases e' with z | z
      · rw [z]; exact Nat.le_add_right _ _
      · rw [z]; exact Nat.le_refl _
    exact I1.fpOk hle (I1.hok.fresh hle)
end Eng

set_option Elab.async false
set_option linter.all false
set_option maxRecDepth 100000
set_option maxHeartbeats 1000000
/-! What is walked; targets. -/
namespace Eng
open PySem PySem.Spec PyProof.Rows L2

/-- an iterator that gives these data -/
def ItOk (K : PySem.W.Frag) (J : L2.It) (Hf : Hp) (ds : List PyData) : Prop := ∀ (H1 Hf1 : Hp), Sub Hf Hf1 → Sub Hf1 H1 → ∀ i : Nat,
  (∀ d, ds[i]? = some d → J.go i H1 ∧ ∀ x H2, J.yld i H1 x H2 → ∃ Hf2, Sub Hf1 Hf2 ∧ Sub H1 H2 ∧ Sub Hf2 H2 ∧ (∀ a, H1 a ≠ none → Hf1 a = none → Hf2 a = none) ∧ Dp K Hf2 x d) ∧ (ds.length = i → J.stop i H1)
abbrev RI (K : PySem.W.Frag) : Hp → Hp → List Addr → L2.It → List PyData → Prop := fun _ Hf _ J ds => ItOk K J Hf ds ∧ szAll ds = true
abbrev tI (K : PySem.W.Frag) (XR : XRel) (W : WX) (f : Env → Mem → R (List PyData)) : TI := tR K XR W (RI K) f
section
variable {G : Cfg} {N : List Str} {C : Calls} {XR : XRel} {X : Cx} {W : WX} {c : Sc} {e e' l r t : Expr} {pos : Pos} {f fa fb : Env → Mem → R U}
theorem itOk_list {K : PySem.W.Frag} {Hf : Hp} {a : Addr} {vs : List V} {ds : List PyData} (h : SqL K Hf a vs) (ha : DpAll K Hf vs ds) : ItOk K (Itl K a) Hf ds := by
  intro H1 Hf1 s1 s2 i
  have h1 : SqL K H1 a vs := SqL.mono (s1.trans s2) h
  refine ⟨fun d hd => ?_, fun e => ⟨vs, h1, by rw [ha.len]; omega⟩⟩
  obtain ⟨v, hv, hdp⟩ := ha.get hd
  refine ⟨⟨vs, v, h1, hv⟩, fun x H2 ⟨e1, e2⟩ => ?_⟩
  subst e1
  have := e2 vs h1
  rw [hv] at this; cases this
  exact ⟨Hf1, Sub.refl _, Sub.refl _, s2, fun _ _ h => h, Dp.mono s1 _ _ hdp⟩
theorem itOk_tup {K : PySem.W.Frag} {Hf : Hp} {a : Addr} {vs : List V} {ds : List PyData} (h : SqT K Hf a vs) (ha : DpAll K Hf vs ds) : ItOk K (Itt K a) Hf ds := by
  intro H1 Hf1 s1 s2 i
  have h1 : SqT K H1 a vs := SqT.mono (s1.trans s2) h
  refine ⟨fun d hd => ?_, fun e => ⟨vs, h1, by rw [ha.len]; omega⟩⟩
  obtain ⟨v, hv, hdp⟩ := ha.get hd
  refine ⟨⟨vs, v, h1, hv⟩, fun x H2 ⟨e1, e2⟩ => ?_⟩
  subst e1
  have := e2 vs h1
  rw [hv] at this; cases this
  exact ⟨Hf1, Sub.refl _, Sub.refl _, s2, fun _ _ h => h, Dp.mono s1 _ _ hdp⟩
theorem rng_get {lo : Int} {n i : Nat} {d : PyData} (h : (rngD lo n)[i]? = some d) : i < n ∧ d = .int (lo + i) := by
  unfold rngD at h
  rw [List.getElem?_map] at h
  by_cases hi : i < n
  · rw [List.getElem?_eq_getElem (by simpa using hi)] at h
    simp at h
    exact ⟨hi, h.symm⟩
  · rw [List.getElem?_eq_none (by simp; omega)] at h; cases h
theorem itOk_rng {K : PySem.W.Frag} {Hf : Hp} (lo : Int) (n : Nat) : ItOk K (Itr lo n) Hf (rngD lo n) := by
  intro H1 Hf1 s1 s2 i
  refine ⟨fun d hd => ?_, fun e => ?_⟩
  · obtain ⟨h1, rfl⟩ := rng_get hd
    refine ⟨h1, fun x H2 ⟨e1, e2⟩ => ?_⟩
    subst e1 e2
    exact ⟨Hf1, Sub.refl _, Sub.refl _, s2, fun _ _ h => h, .int _⟩
  · have : (rngD lo n).length = n := by unfold rngD; simp
    show n ≤ i
    omega
theorem rng_sz (lo : Int) (n : Nat) : szAll (rngD lo n) = true := by
  rw [szAll_iff]
  intro d hd
  unfold rngD at hd
  obtain ⟨i, _, rfl⟩ := List.mem_map.mp hd
  rfl
theorem enum_get : ∀ {ds : List PyData} {k i : Nat} {d : PyData}, (enumD k ds)[i]? = some d → ∃ x, ds[i]? = some x ∧ d = .tuple [.int ((k + i : Nat) : Int), x]
  | [], _, _, _, h => by simp [enumD] at h
  | x :: ds, k, 0, d, h => by simp [enumD] at h; exact ⟨x, rfl, by simp [h]⟩
  | x :: ds, k, i + 1, d, h => by
    simp only [enumD, List.getElem?_cons_succ] at h ⊢
    obtain ⟨y, h1, h2⟩ := enum_get h
    exact ⟨y, h1, by rw [h2]; congr 3; omega⟩
theorem enum_len : ∀ (ds : List PyData) (k : Nat), (enumD k ds).length = ds.length
  | [], _ => rfl
  | _ :: ds, k => by show (enumD (k + 1) ds).length + 1 = _; rw [enum_len ds (k + 1)]; rfl
theorem sz_two {x y : PyData} (h : szOk x = true) (h' : szOk y = true) : szOk (.tuple [x, y]) = true := by
  rw [sz_tuple]; refine ⟨by show 2 ≤ sizeLine; decide, ?_⟩
  simp [szAll, h, h']
theorem enum_sz {ds : List PyData} {k : Nat} (h : szAll ds = true) : szAll (enumD k ds) = true := by
  rw [szAll_iff] at *
  intro d hd
  obtain ⟨i, hi⟩ := List.mem_iff_getElem?.mp hd
  obtain ⟨x, h1, rfl⟩ := enum_get hi
  exact sz_two rfl (h x (List.mem_of_getElem? h1))
theorem new_pair {K : PySem.W.Frag} {H1 Hf1 : Hp} {T : Addr} {x y : V} {d d' : PyData} (hT : H1 T = none) (s2 : Sub Hf1 H1) (hx : Dp K Hf1 x d) (hy : Dp K Hf1 y d') :
    ∃ Hf2, Sub Hf1 Hf2 ∧ Sub H1 (upd H1 T (.tup [x, y])) ∧ Sub Hf2 (upd H1 T (.tup [x, y])) ∧ (∀ a, H1 a ≠ none → Hf1 a = none → Hf2 a = none) ∧ Dp K Hf2 (.ref T) (.tuple [d, d']) := by
  have hfT := s2.none hT
  refine ⟨upd Hf1 T (.tup [x, y]), Sub.new hfT, Sub.new hT, fun b o e => ?_, fun a h1 h2 => ?_, .tup (.inl (.inl upd_same)) (.cons (Dp.mono (Sub.new hfT) _ _ hx) (.cons (Dp.mono (Sub.new hfT) _ _ hy) .nil))⟩
  · by_cases hb : b = T
    · subst hb; rw [upd_same] at e ⊢; exact e
    · rw [upd_ne hb] at e ⊢; exact s2 _ _ e
  · have : a ≠ T := fun z => h1 (by rw [z]; exact hT)
    rw [upd_ne this]; exact h2
theorem itOk_enumL {K : PySem.W.Frag} {Hf : Hp} {a : Addr} {vs : List V} {ds : List PyData} (h : SqL K Hf a vs) (ha : DpAll K Hf vs ds) : ItOk K (Ite K a) Hf (enumD 0 ds) := by
  intro H1 Hf1 s1 s2 i
  have h1 : SqL K H1 a vs := SqL.mono (s1.trans s2) h
  refine ⟨fun d hd => ?_, fun e => ⟨vs, h1, by rw [enum_len] at e; rw [ha.len]; omega⟩⟩
  obtain ⟨y, hy, rfl⟩ := enum_get hd
  obtain ⟨v, hv, hdp⟩ := ha.get hy
  refine ⟨⟨vs, v, h1, hv⟩, fun x H2 ⟨T, x', e1, e2, e3, e4⟩ => ?_⟩
  subst e1 e3
  have := e4 vs h1
  rw [hv] at this; cases this
  rw [Nat.zero_add]
  exact new_pair e2 s2 (.int _) (Dp.mono s1 _ _ hdp)
theorem itOk_enumT {K : PySem.W.Frag} {Hf : Hp} {a : Addr} {vs : List V} {ds : List PyData} (h : SqT K Hf a vs) (ha : DpAll K Hf vs ds) : ItOk K (IteT K a) Hf (enumD 0 ds) := by
  intro H1 Hf1 s1 s2 i
  have h1 : SqT K H1 a vs := SqT.mono (s1.trans s2) h
  refine ⟨fun d hd => ?_, fun e => ⟨vs, h1, by rw [enum_len] at e; rw [ha.len]; omega⟩⟩
  obtain ⟨y, hy, rfl⟩ := enum_get hd
  obtain ⟨v, hv, hdp⟩ := ha.get hy
  refine ⟨⟨vs, v, h1, hv⟩, fun x H2 ⟨T, x', e1, e2, e3, e4⟩ => ?_⟩
  subst e1 e3
  have := e4 vs h1
  rw [hv] at this; cases this
  rw [Nat.zero_add]
  exact new_pair e2 s2 (.int _) (Dp.mono s1 _ _ hdp)
theorem zip_get : ∀ {ds es : List PyData} {i : Nat} {d : PyData}, (zipD ds es)[i]? = some d → ∃ x y, ds[i]? = some x ∧ es[i]? = some y ∧ d = .tuple [x, y]
  | [], _, _, _, h => by simp [zipD] at h
  | _ :: _, [], _, _, h => by simp [zipD] at h
  | x :: ds, y :: es, 0, d, h => by simp [zipD] at h; exact ⟨x, y, rfl, rfl, h.symm⟩
  | x :: ds, y :: es, i + 1, d, h => by
    simp only [zipD, List.getElem?_cons_succ] at h ⊢
    exact zip_get h
theorem zip_len : ∀ (ds es : List PyData), (zipD ds es).length = min ds.length es.length
  | [], es => by simp [zipD]
  | _ :: _, [] => by simp [zipD]
  | _ :: ds, _ :: es => by simp only [zipD, List.length_cons, zip_len ds es]; omega
theorem zip_sz {ds es : List PyData} (h : szAll ds = true) (h' : szAll es = true) : szAll (zipD ds es) = true := by
  rw [szAll_iff] at *
  intro d hd
  obtain ⟨i, hi⟩ := List.mem_iff_getElem?.mp hd
  obtain ⟨x, y, h1, h2, rfl⟩ := zip_get hi
  exact sz_two (h x (List.mem_of_getElem? h1)) (h' y (List.mem_of_getElem? h2))
theorem SqK.mono {K : PySem.W.Frag} {k : Bool} {H H' : Hp} (s : Sub H H') {a : Addr} {xs : List V} (h : SqK K k H a xs) : SqK K k H' a xs := by
  cases k
  · exact SqT.mono s h
  · exact SqL.mono s h
theorem itOk_zipK {K : PySem.W.Frag} (k1 k2 : Bool) {Hf : Hp} {a b : Addr} {vs ws : List V} {ds es : List PyData} (h : SqK K k1 Hf a vs) (ha : DpAll K Hf vs ds) (h' : SqK K k2 Hf b ws) (hb : DpAll K Hf ws es) : ItOk K (ItzK K k1 k2 a b) Hf (zipD ds es) := by
  intro H1 Hf1 s1 s2 i
  have h1 : SqK K k1 H1 a vs := SqK.mono (s1.trans s2) h
  have h2 : SqK K k2 H1 b ws := SqK.mono (s1.trans s2) h'
  refine ⟨fun d hd => ?_, fun e => ⟨vs, ws, h1, h2, by rw [zip_len] at e; rw [ha.len, hb.len]; omega⟩⟩
  obtain ⟨x, y, hx, hy, rfl⟩ := zip_get hd
  obtain ⟨v, hv, hdp⟩ := ha.get hx
  obtain ⟨w, hw, hdp'⟩ := hb.get hy
  refine ⟨⟨vs, ws, v, w, h1, h2, hv, hw⟩, fun x H2 ⟨T, x', y', e1, e2, e3, e4, e5⟩ => ?_⟩
  subst e1 e3
  have := e4 vs h1
  rw [hv] at this; cases this
  have := e5 ws h2
  rw [hw] at this; cases this
  exact new_pair e2 s2 (Dp.mono s1 _ _ hdp) (Dp.mono s1 _ _ hdp')
/-- of data: a list's, a tuple's address in the part that stays -/
theorem RepU.list {K : PySem.W.Frag} {Hf : Hp} {ρ : List Addr} {v : V} {xs : List PyData} (r : RepU K Hf ρ v (.dat (.list xs))) : ∃ p vs, v = .ref p ∧ SqL K Hf p vs ∧ DpAll K Hf vs xs ∧ szAll xs = true := by
  obtain ⟨d, hz⟩ := r
  cases d with
  | lst hs ha => exact ⟨_, _, rfl, hs, ha, (sz_list.mp hz).2⟩
theorem RepU.tup {K : PySem.W.Frag} {Hf : Hp} {ρ : List Addr} {v : V} {xs : List PyData} (r : RepU K Hf ρ v (.dat (.tuple xs))) : ∃ p vs, v = .ref p ∧ SqT K Hf p vs ∧ DpAll K Hf vs xs ∧ szAll xs = true := by
  obtain ⟨d, hz⟩ := r
  cases d with
  | tup hs ha => exact ⟨_, _, rfl, hs, ha, (sz_tuple.mp hz).2⟩
theorem ri_seq (he : PE X e (tU X.K XR W f)) : PI X t e (tI X.K XR W fun σ m => (f σ m).bind seqU) :=
  PI.imp (PI.or (pi_list he) (pi_tup he)) fun σ H Q ⟨Hf, ρ, ω, env, m, a, o⟩ => by
    cases hf : f env m with
    | bad => dsimp only at o; rw [hf] at o; exact o.elim
    | exc cc xx mm =>
      obtain ⟨A, B, D, E, F', a1, o1⟩ := a.bindE (Rp' := RU X.K) o
      exact .inl ⟨A, B, D, E, F', a1, o1.mono fun x H1 ⟨u, Hf1, ρ1, m1, p, a1, r1, o1, eq⟩ => by rw [hf] at eq; cases eq⟩
    | ok u0 m0 =>
      obtain ⟨A, B, D, E, F', a1, o1⟩ := a.bindE (Rp' := RU X.K) o
      cases u0 with
      | ref i => dsimp only at o; rw [hf] at o; exact (o : False).elim
      | dat d =>
        cases d with
        | list xs =>
          refine .inl ⟨A, B, D, E, F', a1, o1.mono fun x H1 ⟨u, Hf1, ρ1, m1, p, a1, r1, o1, eq⟩ => ?_⟩
          rw [hf] at eq; cases eq
          obtain ⟨q, vs, rfl, h1, h2, h3⟩ := r1.list
          exact ⟨q, rfl, ⟨vs, SqL.mono a1.fine.sub h1⟩, a1.ok o1 ⟨itOk_list h1 h2, h3⟩⟩
        | tuple xs =>
          refine .inr ⟨A, B, D, E, F', a1, o1.mono fun x H1 ⟨u, Hf1, ρ1, m1, p, a1, r1, o1, eq⟩ => ?_⟩
          rw [hf] at eq; cases eq
          obtain ⟨q, vs, rfl, h1, h2, h3⟩ := r1.tup
          exact ⟨q, rfl, ⟨vs, SqT.mono a1.fine.sub h1⟩, a1.ok o1 ⟨itOk_tup h1 h2, h3⟩⟩
        | _ => dsimp only at o; rw [hf] at o; exact (o : False).elim
theorem ri_rng1 (g : GX G N C XR X W c) {p : Pos} (hg : glB c "range" = true) (he : PE X e (tU X.K XR W f)) (hp : pl e = true) : PI X t (.Call (.Name "range" p) [e] [] pos) (tI X.K XR W fun σ m => ((f σ m).bind asInt).bind rng1U) := by
  obtain ⟨q1, q2⟩ := g.glo hg
  refine PI.imp (pi_range1 q1 (g.bn _ (by decide)) (pa_cons he pa_nil (star_pl hp)) (star_pl hp)) fun σ H Q ⟨Hf, ρ, ω, env, m, a, o⟩ => ?_
  dsimp only at o
  rw [R.bind_bind] at o
  obtain ⟨A, B, D, E, F', a1, o1⟩ := a.bind (Rp' := RU X.K) o
  refine ⟨A, B, D, E, F', a1, o1.mono fun x H1 ⟨u, Hf1, ρ1, m1, p, a1, r1, o1⟩ => ?_⟩
  cases u with
  | ref i => exact o1.elim
  | dat d =>
    cases d with
    | int j =>
      cases r1.1
      rw [asInt_int, R.bind_ok] at o1
      unfold rng1U at o1
      split at o1
      · rename_i hj
        exact ⟨j, rfl, hj.1, hj.2, a1.ok o1 ⟨itOk_rng _ _, rng_sz _ _⟩⟩
      · exact o1.elim
    | _ => exact (o1 : False).elim
theorem ri_rng2 (g : GX G N C XR X W c) {p : Pos} (hg : glB c "range" = true) (he : PE X e (tU X.K XR W fa)) (hp : pl e = true) (he' : PE X e' (tU X.K XR W fb)) (hp' : pl e' = true) : PI X t (.Call (.Name "range" p) [e, e'] [] pos) (tI X.K XR W fun σ m => ((fa σ m).bind asInt).bind fun i m1 => ((fb σ m1).bind asInt).bind fun j m2 => rng2U i j m2) := by
  obtain ⟨q1, q2⟩ := g.glo hg
  refine PI.imp (pi_range2 q1 (g.bn _ (by decide)) (pa_cons he (pa_cons he' pa_nil (star_pl hp')) (star_pl hp)) (by rw [star_pl hp, star_pl hp']; rfl) (star_pl hp')) fun σ H Q ⟨Hf, ρ, ω, env, m, a, o⟩ => ?_
  dsimp only at o
  rw [R.bind_bind] at o
  obtain ⟨A, B, D, E, F', a1, o1⟩ := a.bind (Rp' := RU X.K) o
  refine ⟨A, B, D, E, F', a1, o1.mono fun x H1 ⟨u, Hf1, ρ1, m1, p, a1, r1, o1⟩ => ?_⟩
  cases u with
  | ref i => exact o1.elim
  | dat d =>
    cases d with
    | int j =>
      cases r1.1
      rw [asInt_int, R.bind_ok, R.bind_bind] at o1
      obtain ⟨A, B, D, E, F', a2, o2⟩ := a1.bind (Rp' := RU X.K) o1
      refine ⟨A, B, D, E, F', a2, o2.mono fun y H2 ⟨u2, Hf2, ρ2, m2, p2, a2, r2, o2⟩ => ?_⟩
      cases u2 with
      | ref i => exact o2.elim
      | dat d2 =>
        cases d2 with
        | int k =>
          cases r2.1
          rw [asInt_int, R.bind_ok] at o2
          unfold rng2U at o2
          split at o2
          · rename_i hj
            exact ⟨j, k, rfl, hj, a2.ok o2 ⟨itOk_rng _ _, rng_sz _ _⟩⟩
          · exact o2.elim
        | _ => exact (o2 : False).elim
    | _ => exact (o1 : False).elim
theorem ri_enum (g : GX G N C XR X W c) {p : Pos} (hg : glB c "enumerate" = true) (he : PE X e (tU X.K XR W f)) (hp : pl e = true) (ht : isTp t = true) : PI X t (.Call (.Name "enumerate" p) [e] [] pos) (tI X.K XR W fun σ m => ((f σ m).bind seqU).bind enumU) := by
  obtain ⟨q1, q2⟩ := g.glo hg
  have hm := g.bn "enumerate" (by decide)
  cases t <;> simp only [isTp, Bool.false_eq_true] at ht
  refine PI.imp (PI.or (pi_enum q1 hm (pa_cons he pa_nil (star_pl hp)) (star_pl hp)) (pi_enumT q1 hm (pa_cons he pa_nil (star_pl hp)) (star_pl hp))) fun σ H Q ⟨Hf, ρ, ω, env, m, a, o⟩ => ?_
  dsimp only at o
  rw [R.bind_bind] at o
  cases hf : f env m with
  | bad => rw [hf] at o; exact o.elim
  | exc cc xx mm =>
    obtain ⟨A, B, D, E, F', a1, o1⟩ := a.bindE (Rp' := RU X.K) o
    exact .inl ⟨A, B, D, E, F', a1, o1.mono fun x H1 ⟨u, Hf1, ρ1, m1, p, a1, r1, o1, eq⟩ => by rw [hf] at eq; cases eq⟩
  | ok u0 m0 =>
    obtain ⟨A, B, D, E, F', a1, o1⟩ := a.bindE (Rp' := RU X.K) o
    cases u0 with
    | ref i => rw [hf] at o; exact (o : False).elim
    | dat d =>
      cases d with
      | list xs =>
        refine .inl ⟨A, B, D, E, F', a1, o1.mono fun x H1 ⟨u, Hf1, ρ1, m1, p, a1, r1, o1, eq⟩ => ?_⟩
        rw [hf] at eq; cases eq
        obtain ⟨q, vs, rfl, h1, h2, h3⟩ := r1.list
        exact ⟨q, vs, rfl, SqL.mono a1.fine.sub h1, a1.ok o1 ⟨itOk_enumL h1 h2, enum_sz h3⟩⟩
      | tuple xs =>
        refine .inr ⟨A, B, D, E, F', a1, o1.mono fun x H1 ⟨u, Hf1, ρ1, m1, p, a1, r1, o1, eq⟩ => ?_⟩
        rw [hf] at eq; cases eq
        obtain ⟨q, vs, rfl, h1, h2, h3⟩ := r1.tup
        exact ⟨q, vs, rfl, SqT.mono a1.fine.sub h1, a1.ok o1 ⟨itOk_enumT h1 h2, enum_sz h3⟩⟩
      | _ => rw [hf] at o; exact (o : False).elim
theorem ri_zip (g : GX G N C XR X W c) {p : Pos} (hg : glB c "zip" = true) (he : PE X e (tU X.K XR W fa)) (hp : pl e = true) (he' : PE X e' (tU X.K XR W fb)) (hp' : pl e' = true) (ht : isTp t = true) :
    PI X t (.Call (.Name "zip" p) [e, e'] [] pos) (tI X.K XR W fun σ m => (fa σ m).bind fun x m1 => (fb σ m1).bind fun y m2 => zipU x y m2) := by
  obtain ⟨q1, q2⟩ := g.glo hg
  have hm := g.bn "zip" (by decide)
  cases t <;> simp only [isTp, Bool.false_eq_true] at ht
  refine PI.imp (pi_zipK q1 hm (pa_cons he (pa_cons he' pa_nil (star_pl hp')) (star_pl hp)) (star_pl hp) (by rw [star_pl hp']; rfl)) fun σ H Q ⟨Hf, ρ, ω, env, m, a, o⟩ => ?_
  obtain ⟨A, B, D, E, F', a1, o1⟩ := a.bind (Rp' := RU X.K) o
  refine ⟨A, B, D, E, F', a1, o1.mono fun x H1 ⟨u, Hf1, ρ1, m1, p, a1, r1, o1⟩ => ?_⟩
  obtain ⟨A, B, D, E, F', a2, o2⟩ := a1.bind (Rp' := RU X.K) o1
  refine ⟨A, B, D, E, F', a2, o2.mono fun y H2 ⟨u2, Hf2, ρ2, m2, p2, a2, r2, o2⟩ => ?_⟩
  have r1 := r1.pres p2
  cases u with
  | ref i => exact (o2 : False).elim
  | dat d =>
    cases u2 with
    | ref i => cases d <;> exact (o2 : False).elim
    | dat d2 =>
      cases d <;> cases d2 <;> first
        | exact (o2 : False).elim
        | (rw [zipU_list] at o2
           obtain ⟨q, vs, rfl, h1, h2, h3⟩ := r1.list
           obtain ⟨q', vs', rfl, h1', h2', h3'⟩ := r2.list
           exact ⟨true, true, q, q', vs, vs', rfl, SqL.mono a2.fine.sub h1, SqL.mono a2.fine.sub h1', a2.ok o2 ⟨itOk_zipK true true h1 h2 h1' h2', zip_sz h3 h3'⟩⟩)
        | (rw [zipU_tuple] at o2
           obtain ⟨q, vs, rfl, h1, h2, h3⟩ := r1.tup
           obtain ⟨q', vs', rfl, h1', h2', h3'⟩ := r2.tup
           exact ⟨false, false, q, q', vs, vs', rfl, SqT.mono a2.fine.sub h1, SqT.mono a2.fine.sub h1', a2.ok o2 ⟨itOk_zipK false false h1 h2 h1' h2', zip_sz h3 h3'⟩⟩)
        | (rw [zipU_lt] at o2
           obtain ⟨q, vs, rfl, h1, h2, h3⟩ := r1.list
           obtain ⟨q', vs', rfl, h1', h2', h3'⟩ := r2.tup
           exact ⟨true, false, q, q', vs, vs', rfl, SqL.mono a2.fine.sub h1, SqT.mono a2.fine.sub h1', a2.ok o2 ⟨itOk_zipK true false h1 h2 h1' h2', zip_sz h3 h3'⟩⟩)
        | (rw [zipU_tl] at o2
           obtain ⟨q, vs, rfl, h1, h2, h3⟩ := r1.tup
           obtain ⟨q', vs', rfl, h1', h2', h3'⟩ := r2.list
           exact ⟨false, true, q, q', vs, vs', rfl, SqT.mono a2.fine.sub h1, SqL.mono a2.fine.sub h1', a2.ok o2 ⟨itOk_zipK false true h1 h2 h1' h2', zip_sz h3 h3'⟩⟩)
end
end Eng

set_option Elab.async false
set_option linter.all false
set_option maxRecDepth 100000
set_option maxHeartbeats 1000000
/-! Targets; list comprehensions. -/
namespace Eng
open PySem PySem.Spec PyProof.Rows L2

def Off (vs : List Nat) (σ σ' : L2.St) : Prop := ∀ j, j ∉ vs → σ'[j]? = σ[j]?
section
variable {K : PySem.W.Frag} {H Hf : Hp} {ρ : List Addr} {ω : Nat → Addr} {σ : L2.St} {env : Env}
theorem Slots.setV (s : Slots K H Hf ρ ω σ env) {i : Nat} {v : V} {u : U} (hi : i < env.length) (r : RepU K Hf ρ v u) : Slots K H Hf ρ ω (σ.set i (some v)) (env.set i (.v u)) := by
  have hl : i < σ.length := by rw [s.len]; exact hi
  refine ⟨by rw [List.length_set, List.length_set]; exact s.len, fun j w e => ?_, fun j xs e => ?_, fun j k xs ys e e' => ?_⟩
  · rw [List.getElem?_set] at e ⊢
    by_cases hj : i = j
    · subst hj
      rw [if_pos rfl, if_pos hi] at e
      cases e
      rw [if_pos rfl, if_pos hl]
      exact ⟨v, rfl, r⟩
    · rw [if_neg hj] at e ⊢
      exact s.val j w e
  · rw [List.getElem?_set] at e ⊢
    by_cases hj : i = j
    · subst hj
      rw [if_pos rfl, if_pos hi] at e
      cases e
    · rw [if_neg hj] at e ⊢
      exact s.own j xs e
  · rw [List.getElem?_set] at e e'
    by_cases hj : i = j
    · subst hj; rw [if_pos rfl, if_pos hi] at e; cases e
    · by_cases hk : i = k
      · subst hk; rw [if_pos rfl, if_pos hi] at e'; cases e'
      · rw [if_neg hj] at e; rw [if_neg hk] at e'
        exact s.inj j k xs ys e e'
theorem Slots.setNo (s : Slots K H Hf ρ ω σ env) {i : Nat} {o : Option V} : Slots K H Hf ρ ω (σ.set i o) (env.set i .no) := by
  refine ⟨by rw [List.length_set, List.length_set]; exact s.len, fun j w e => ?_, fun j xs e => ?_, fun j k xs ys e e' => ?_⟩
  · rw [List.getElem?_set] at e ⊢
    by_cases hj : i = j
    · subst hj
      rw [if_pos rfl] at e
      split at e <;> cases e
    · rw [if_neg hj] at e ⊢
      exact s.val j w e
  · rw [List.getElem?_set] at e ⊢
    by_cases hj : i = j
    · subst hj
      rw [if_pos rfl] at e
      split at e <;> cases e
    · rw [if_neg hj] at e ⊢
      exact s.own j xs e
  · rw [List.getElem?_set] at e e'
    by_cases hj : i = j
    · subst hj; rw [if_pos rfl] at e; split at e <;> cases e
    · by_cases hk : i = k
      · subst hk; rw [if_pos rfl] at e'; split at e' <;> cases e'
      · rw [if_neg hj] at e; rw [if_neg hk] at e'
        exact s.inj j k xs ys e e'
theorem Slots.wipe (s : Slots K H Hf ρ ω σ env) : ∀ vs : List Nat, Slots K H Hf ρ ω (L2.wipe σ vs) (wipeE env vs)
  | [] => s
  | v :: vs => (s.wipe vs).setNo
theorem wipe_get (σ : L2.St) (i : Nat) : ∀ vs : List Nat, (L2.wipe σ vs)[i]? = if i ∈ vs then σ[i]?.map (fun _ => none) else σ[i]?
  | [] => by rw [if_neg (by simp)]; rfl
  | v :: vs => by
    unfold L2.wipe
    rw [List.getElem?_set, wipe_length, wipe_get σ i vs]
    by_cases h : v = i
    · subst h
      rw [if_pos rfl, if_pos (show v ∈ v :: vs by simp)]
      by_cases hl : v < σ.length
      · rw [if_pos hl, List.getElem?_eq_getElem hl]; rfl
      · rw [if_neg hl, List.getElem?_eq_none (by omega)]; rfl
    · rw [if_neg h]
      by_cases hi : i ∈ vs
      · rw [if_pos hi, if_pos (by simp [hi])]
      · rw [if_neg hi, if_neg (by simp [hi, Ne.symm h])]
theorem wipe_off {σ σ' : L2.St} {vs ws : List Nat} (h : Off ws σ σ') (hl : σ'.length = σ.length) (hs : ∀ i ∈ ws, i ∈ vs) : L2.wipe σ' vs = L2.wipe σ vs := by
  apply List.ext_getElem?
  intro i
  rw [wipe_get, wipe_get]
  by_cases hi : i ∈ vs
  · rw [if_pos hi, if_pos hi]
    by_cases hb : i < σ.length
    · rw [List.getElem?_eq_getElem hb, List.getElem?_eq_getElem (by omega)]; rfl
    · rw [List.getElem?_eq_none (by omega), List.getElem?_eq_none (by omega)]
  · rw [if_neg hi, if_neg hi]
    exact h i fun z => hi (hs i z)
theorem wipe_wipe (σ : L2.St) (vs : List Nat) : L2.wipe (L2.wipe σ vs) vs = L2.wipe σ vs := wipe_off (ws := vs) (fun j hj => by rw [wipe_get, if_neg hj]) (wipe_length _ _) fun _ h => h
end

def gT (K : PySem.W.Frag) (tg : Tg) : TG := fun v σ H Q => ∃ Hf ρ ω env m d env', At K H σ Hf ρ ω env m ∧ Dp K Hf v d ∧ szOk d = true ∧ asgTg tg d env = some env' ∧ ∀ σ', At K H σ' Hf ρ ω env' m → Off (slotsTg tg) σ σ' → Q σ' H
def gTs (K : PySem.W.Frag) (tgs : List Tg) : TGs := fun vs σ H Q => ∃ Hf ρ ω env m ds env', At K H σ Hf ρ ω env m ∧ DpAll K Hf vs ds ∧ szAll ds = true ∧ asgTgs tgs ds env = some env' ∧ ∀ σ', At K H σ' Hf ρ ω env' m → Off (slotsTgs tgs) σ σ' → Q σ' H
theorem okTgs_len {N : List Str} {c : Sc} : ∀ {ts : List Tg} {es : List Expr}, okTgs N c ts es = true → ts.length = es.length
  | [], [], _ => rfl
  | t :: ts, e :: es, h => by
    simp only [okTgs, Bool.and_eq_true] at h
    rw [List.length_cons, List.length_cons, okTgs_len h.2]
  | [], _ :: _, h => by simp [okTgs] at h
  | _ :: _, [], h => by simp [okTgs] at h
theorem asgTgs_len : ∀ {ts : List Tg} {ds : List PyData} {σ σ' : Env}, asgTgs ts ds σ = some σ' → ts.length = ds.length
  | [], [], _, _, _ => rfl
  | t :: ts, d :: ds, σ, σ', h => by
    simp only [asgTgs, Option.bind_eq_some_iff] at h
    obtain ⟨s, _, h⟩ := h
    rw [List.length_cons, List.length_cons, asgTgs_len h]
  | [], _ :: _, _, _, h => by simp [asgTgs] at h
  | _ :: _, [], _, _, h => by simp [asgTgs] at h
mutual
theorem asgTg_len : ∀ {t : Tg} {d : PyData} {σ σ' : Env}, asgTg t d σ = some σ' → σ'.length = σ.length
  | .nm i, d, σ, σ', h => by
    simp only [asgTg] at h
    split at h
    · cases h; rw [List.length_set]
    · cases h
  | .tp ts, d, σ, σ', h => by
    cases d <;> simp only [asgTg, reduceCtorEq] at h
    exact asgTgs_lenE h
theorem asgTgs_lenE : ∀ {ts : List Tg} {ds : List PyData} {σ σ' : Env}, asgTgs ts ds σ = some σ' → σ'.length = σ.length
  | [], [], _, _, h => by simp only [asgTgs, Option.some.injEq] at h; rw [h]
  | t :: ts, d :: ds, σ, σ', h => by
    simp only [asgTgs, Option.bind_eq_some_iff] at h
    obtain ⟨s, h1, h⟩ := h
    rw [asgTgs_lenE h, asgTg_len h1]
  | [], _ :: _, _, _, h => by simp [asgTgs] at h
  | _ :: _, [], _, _, h => by simp [asgTgs] at h
end
theorem plTg {N : List Str} {c : Sc} {t : Tg} {e : Expr} (h : okTg N c t e = true) : isTp e = true ∨ ∃ x p, e = .Name x p := by
  cases t <;> cases e <;> simp [okTg] at h
  · exact .inr ⟨_, _, rfl⟩
  · exact .inl rfl
theorem tgs_each {N : List Str} {c : Sc} {env : PySem.Env} : ∀ {ts : List Tg} {es : List Expr}, okTgs N c ts es = true → assignEach es env = es.map fun e => (false, assign e env)
  | [], [], _ => rfl
  | t :: ts, e :: es, h => by
    simp only [okTgs, Bool.and_eq_true] at h
    have := tgs_each (env := env) h.2
    rw [List.map_cons, ← this]
    rcases plTg h.1 with q | ⟨x, p, rfl⟩
    · cases e <;> simp [isTp] at q
      rfl
    · rfl
  | [], _ :: _, h => by simp [okTgs] at h
  | _ :: _, [], h => by simp [okTgs] at h
section
variable {G : Cfg} {N : List Str} {C : Calls} {XR : XRel} {X : Cx} {W : WX} {c : Sc}
mutual
theorem pg_T (g : GX G N C XR X W c) : ∀ {tg : Tg} {e : Expr}, okTg N c tg e = true → PG X e (gT X.K tg)
  | .nm i, e, h => by
    cases e <;> simp only [okTg, Bool.false_eq_true, Bool.and_eq_true, decide_eq_true_eq] at h
    rename_i x p
    obtain ⟨h1, h2⟩ := h
    have hl : Loc X.env.scope x ∧ (X.fn x = true ∨ X.env.scope.names.lookup x = some .local) := by
      unfold locB at h2
      simp only [Bool.or_eq_true, Bool.and_eq_true, decide_eq_true_eq] at h2
      rw [g.sc, g.fn]
      rcases h2 with h2 | ⟨h2, h3⟩
      · exact ⟨.inl h2, .inr h2⟩
      · exact ⟨.inr h2, .inl h3⟩
    refine PG.imp (pg_name (i := i) g.nd (by rw [g.hN]; exact h1) hl.1 hl.2) fun v σ H Q ⟨Hf, ρ, ω, env, m, d, env', a, hd, hz, he, q⟩ => ?_
    simp only [asgTg] at he
    split at he
    · rename_i hi
      cases he
      refine q _ ⟨a.fine, a.slots.setV hi ⟨hd, hz⟩⟩ fun j hj => ?_
      simp only [slotsTg, List.mem_singleton] at hj
      rw [List.getElem?_set_ne (Ne.symm hj)]
    · cases he
  | .tp ts, e, h => by
    cases e <;> simp only [okTg, Bool.false_eq_true] at h
    rename_i es k p
    have he := tgs_each (env := X.env) h
    refine PG.imp (pg_tup (n := es.length) g.calm (pgs_T g h) (by rw [he, List.length_map]) (by rw [he]; rw [List.findIdx?_eq_none_iff]; intro x hx; obtain ⟨y, _, rfl⟩ := List.mem_map.mp hx; rfl)) fun v σ H Q ⟨Hf, ρ, ω, env, m, d, env', a, hd, hz, he, q⟩ => ?_
    cases d <;> simp only [asgTg, reduceCtorEq] at he
    rename_i ds
    cases hd with
    | tup hs ha => exact ⟨_, _, rfl, SqT.mono a.fine.sub hs, by rw [ha.len, ← asgTgs_len he, okTgs_len h], Hf, ρ, ω, env, m, ds, env', a, ha, (sz_tuple.mp hz).2, he, q⟩
theorem pgs_T (g : GX G N C XR X W c) : ∀ {tgs : List Tg} {es : List Expr}, okTgs N c tgs es = true → PGs X es (gTs X.K tgs)
  | [], [], h => ⟨fun pins s σ H vs us Q I r ⟨Hf, ρ, ω, env, m, ds, env', a, ha, hz, he, q⟩ => by
      cases ds with
      | cons d ds => simp [asgTgs] at he
      | nil =>
        cases ha
        simp only [asgTgs, Option.some.injEq] at he
        subst he
        exact pgs_nil.run pins s σ H _ us Q I r ⟨rfl, q σ a fun _ _ => rfl⟩⟩
  | t :: ts, e :: es, h => by
    have hh := h
    simp only [okTgs, Bool.and_eq_true] at h
    have hea := tgs_each (env := X.env) hh
    have heb := tgs_each (env := X.env) h.2
    have key := pgs_cons (pg_T g h.1) (pgs_T g h.2) (by rw [hea, heb]; rfl)
    refine ⟨fun pins s σ H vs us Q I r ⟨Hf, ρ, ω, env, m, ds, env', a, ha, hz, he, q⟩ => key.run pins s σ H vs us Q I r ?_⟩
    cases ds with
    | nil => simp [asgTgs] at he
    | cons d ds =>
      cases ha with
      | cons h1 h2 =>
        simp only [asgTgs, Option.bind_eq_some_iff] at he
        obtain ⟨env1, e1, e2⟩ := he
        simp only [szAll, Bool.and_eq_true] at hz
        refine ⟨_, _, rfl, Hf, ρ, ω, env, m, d, env1, a, h1, hz.1, e1, fun σ1 a1 o1 => ⟨Hf, ρ, ω, env1, m, ds, env', a1, h2, hz.2, e2, fun σ2 a2 o2 => q σ2 a2 fun j hj => ?_⟩⟩
        simp only [slotsTgs, List.mem_append, not_or] at hj
        rw [o2 j hj.2, o1 j hj.1]
  | [], _ :: _, h => by simp [okTgs] at h
  | _ :: _, [], h => by simp [okTgs] at h
end
end

/-! ### a list comprehension -/
def WF : WX := fun _ _ _ _ => False
def tC (K : PySem.W.Frag) (XR : XRel) (o : Option (Env → Mem → R U)) : TT := match o with
  | none => tYes
  | some f => tT K XR WF f
def oQ (o : Option (Env → Mem → R U)) : Option (Env → Mem → R U) := o.map fun f σ m => (f σ m).quiet
theorem quiet_ok {α : Type} {r : R α} {a : α} {m : Mem} (h : r.quiet = .ok a m) : r = .ok a m := by
  cases r with
  | ok x y => exact h
  | exc _ _ _ => cases h
  | bad => cases h
theorem bind_ok' {α β : Type} {r : R α} {k : α → Mem → R β} {b : β} {m : Mem} (h : r.bind k = .ok b m) : ∃ a m1, r = .ok a m1 ∧ k a m1 = .ok b m := by
  cases r with
  | ok x y => exact ⟨x, y, rfl, h⟩
  | exc _ _ _ => cases h
  | bad => cases h
theorem asB_ok {u : U} {m m' : Mem} {b : Bool} (h : asB u m = .ok b m') : u = .dat (.bool b) ∧ m' = m := by
  cases u with
  | ref i => cases h
  | dat d => cases d <;> cases h; exact ⟨rfl, rfl⟩
theorem asD_ok {u : U} {m m' : Mem} {b : PyData} (h : asD u m = .ok b m') : u = .dat b ∧ m' = m := by
  cases u with
  | ref i => cases h
  | dat d => cases h; exact ⟨rfl, rfl⟩
theorem compGo_cons {elt : Env → Mem → R U} {cond : Option (Env → Mem → R U)} {tg : Tg} {σ : Env} {d : PyData} {ds : List PyData} {m mf : Mem} {xs : List PyData} (h : compGo elt cond tg σ (d :: ds) m = .ok xs mf) :
    ∃ σ' b m1, asgTg tg d σ = some σ' ∧ condGo cond σ' m = .ok b m1 ∧ (b = true → ∃ x m2 xs', elt σ' m1 = .ok (.dat x) m2 ∧ compGo elt cond tg σ ds m2 = .ok xs' mf ∧ xs = x :: xs') ∧ (b = false → compGo elt cond tg σ ds m1 = .ok xs mf) := by
  unfold compGo at h
  cases e : asgTg tg d σ with
  | none => rw [e] at h; cases h
  | some σ' =>
    rw [e] at h
    obtain ⟨b, m1, h1, h2⟩ := bind_ok' h
    refine ⟨σ', b, m1, rfl, h1, fun hb => ?_, fun hb => ?_⟩
    · subst hb
      rw [if_pos rfl] at h2
      obtain ⟨u, m2, h3, h4⟩ := bind_ok' h2
      obtain ⟨x, m3, h5, h6⟩ := bind_ok' h4
      obtain ⟨rfl, rfl⟩ := asD_ok h5
      obtain ⟨xs', m4, h7, h8⟩ := bind_ok' h6
      cases h8
      exact ⟨x, _, xs', h3, h7, rfl⟩
    · subst hb
      rw [if_neg (by simp)] at h2
      exact h2
/-- the list that grows -/
structure CIn (K : PySem.W.Frag) (H1 Hf1 : Hp) (ρ1 : List Addr) (D : Addr) (H Hf : Hp) (ρ : List Addr) (m : Mem) (acc : List PyData) : Prop where
  pres : Pres H1 Hf1 ρ1 H Hf ρ
  fine : Fine K H Hf ρ m
  at_ : ∃ vs, H D = some (.lst vs) ∧ DpAll K Hf vs acc
  fr : Hf D = none
  nt : D ∉ ρ
  sz : szAll acc = true
section
variable {K : PySem.W.Frag} {H1 Hf1 : Hp} {ρ1 : List Addr} {D : Addr} {H Hf : Hp} {ρ : List Addr} {m : Mem} {acc : List PyData}
theorem CIn.start {m1 : Mem} (f : Fine K H1 Hf1 ρ1 m1) (hD : H1 D = none) : CIn K H1 Hf1 ρ1 D (upd H1 D (.lst [])) Hf1 ρ1 m1 [] :=
  ⟨Pres.fresh hD, f.fresh hD, ⟨[], upd_same, .nil⟩, f.sub.none hD, (fun hm => by obtain ⟨o, e⟩ := f.tracked hm; rw [hD] at e; cases e), rfl⟩
theorem CIn.step (c : CIn K H1 Hf1 ρ1 D H Hf ρ m acc) {H' Hf' : Hp} {ρ' : List Addr} {m' : Mem} (p : Pres H Hf ρ H' Hf' ρ') (f : Fine K H' Hf' ρ' m') : CIn K H1 Hf1 ρ1 D H' Hf' ρ' m' acc := by
  obtain ⟨vs, e, ha⟩ := c.at_
  obtain ⟨q, q1, q2⟩ := p.kp _ _ e c.fr c.nt
  exact ⟨c.pres.trans p, f, ⟨vs, q, DpAll.mono p.fz _ _ ha⟩, q1, q2, c.sz⟩
theorem Fine.poke (f : Fine K H Hf ρ m) {p : Addr} {o : HO} (h1 : Hf p = none) (h2 : p ∉ ρ) : Fine K (upd H p o) Hf ρ m := by
  refine ⟨fun b x e => ?_, f.nd, f.un, f.len, fun i a ob e1 e2 => ?_⟩
  · have : b ≠ p := fun z => by subst z; rw [h1] at e; cases e
    rw [upd_ne this]; exact f.sub _ _ e
  · have : a ≠ p := fun z => h2 (by rw [← z]; exact List.mem_of_getElem? e1)
    have q := f.at_ i a ob e1 e2
    cases ob with
    | lst xs => obtain ⟨vs, e, ha, hz⟩ := q; exact ⟨vs, by rw [upd_ne this]; exact e, ha, hz⟩
    | dct xs => obtain ⟨vs, e, ha, hz⟩ := q; exact ⟨vs, by rw [upd_ne this]; exact e, ha, hz⟩
    | kd xs => obtain ⟨vs, e, ha, hz⟩ := q; exact ⟨vs, by rw [upd_ne this]; exact e, ha, hz⟩
    | refs xs => obtain ⟨vs, e, ha, hz⟩ := q; exact ⟨vs, by rw [upd_ne this]; exact e, ha, hz⟩
    | tab x => obtain ⟨k0, ps, k1, k2⟩ := q; exact ⟨k0, ps, by rw [upd_ne this]; exact k1, k2⟩
theorem CIn.push (c : CIn K H1 Hf1 ρ1 D H Hf ρ m acc) (hD : H1 D = none) {y : V} {x : PyData} (r : Dp K Hf y x) (hz : szOk x = true) : ∃ vs, H D = some (.lst vs) ∧ vs.length = acc.length ∧ CIn K H1 Hf1 ρ1 D (upd H D (.lst (vs ++ [y]))) Hf ρ m (acc ++ [x]) := by
  obtain ⟨vs, e, ha⟩ := c.at_
  refine ⟨vs, e, ha.len, ⟨c.pres.fz, c.pres.pre, fun a o h h1 h2 => ?_⟩, c.fine.poke c.fr c.nt, ⟨_, upd_same, ha.app (.cons r .nil)⟩, c.fr, c.nt, ?_⟩
  · obtain ⟨q, q1, q2⟩ := c.pres.kp a o h h1 h2
    have : a ≠ D := ne_of_none h hD
    exact ⟨by rw [upd_ne this]; exact q, q1, q2⟩
  · have := c.sz
    rw [szAll_iff] at this ⊢
    intro d hd
    rcases List.mem_append.mp hd with hd | hd
    · exact this d hd
    · simp only [List.mem_singleton] at hd; rw [hd]; exact hz
/-- a turn's value has come -/
theorem ItOk.turn {J : L2.It} {ds : List PyData} (hJ : ItOk K J Hf1 ds) (c : CIn K H1 Hf1 ρ1 D H Hf ρ m acc) {i : Nat} {d : PyData} (hd : ds[i]? = some d) :
    J.go i H ∧ ∀ x H', J.yld i H x H' → ∃ Hf', CIn K H1 Hf1 ρ1 D H' Hf' ρ m acc ∧ Dp K Hf' x d := by
  obtain ⟨h1, h2⟩ := (hJ H Hf c.pres.fz c.fine.sub i).1 d hd
  refine ⟨h1, fun x H' hy => ?_⟩
  obtain ⟨Hf2, s1, s2, s3, s4, s5⟩ := h2 x H' hy
  refine ⟨Hf2, c.step ⟨s1, ⟨[], by simp⟩, fun a o e e1 e2 => ⟨s2 _ _ e, s4 a (by rw [e]; simp) e1, e2⟩⟩ ⟨s3, c.fine.nd, fun a ha => ?_, c.fine.len, fun i a o e1 e2 => (c.fine.at_ i a o e1 e2).grow (fun x e => s2 _ _ e) s1⟩, s5⟩
  obtain ⟨o, e⟩ := c.fine.tracked ha
  exact s4 a (by rw [e]; simp) (c.fine.un a ha)
end
end Eng

set_option Elab.async false
set_option linter.all false
set_option maxRecDepth 100000
set_option maxHeartbeats 1000000
/-! List comprehensions: one loop, two loops. -/
namespace Eng
open PySem PySem.Spec PyProof.Rows L2

section
variable {K : PySem.W.Frag} {XR : XRel} {W : WX} {H Hf : Hp} {ρ : List Addr} {ω : Nat → Addr} {σ : L2.St} {env : Env} {m : Mem}
theorem tU_ok {f : Env → Mem → R U} {u : U} {m' : Mem} {P : VK} (a : At K H σ Hf ρ ω env m) (h : f env m = .ok u m') (k : ∀ v H' Hf' ρ', Pres H Hf ρ H' Hf' ρ' → Fine K H' Hf' ρ' m' → RepU K Hf' ρ' v u → P v H') : tU K XR W f σ H P :=
  ⟨Hf, ρ, ω, env, m, a, by rw [h]; exact k⟩
theorem tI_ok {f : Env → Mem → R (List PyData)} {u : List PyData} {m' : Mem} {P : L2.It → Hp → Prop} (a : At K H σ Hf ρ ω env m) (h : f env m = .ok u m') (k : ∀ v H' Hf' ρ', Pres H Hf ρ H' Hf' ρ' → Fine K H' Hf' ρ' m' → RI K H' Hf' ρ' v u → P v H') : tI K XR W f σ H P :=
  ⟨Hf, ρ, ω, env, m, a, by rw [h]; exact k⟩
theorem tC_ok {o : Option (Env → Mem → R U)} {b : Bool} {m' : Mem} {P : Bool → Hp → Prop} (a : At K H σ Hf ρ ω env m) (h : condGo (oQ o) env m = .ok b m') (k : ∀ H' Hf' ρ', Pres H Hf ρ H' Hf' ρ' → Fine K H' Hf' ρ' m' → P b H') : tC K XR o σ H P := by
  cases o with
  | none => cases h; exact k _ _ _ (Pres.refl _ _ _) a.fine
  | some f =>
    obtain ⟨u, m1, h1, h2⟩ := bind_ok' h
    obtain ⟨rfl, rfl⟩ := asB_ok h2
    refine ⟨Hf, ρ, ω, env, m, a, ?_⟩
    show OutE K XR WF σ H Hf ρ RBl ((f env m).bind asB) P
    rw [quiet_ok h1]
    show OutE K XR WF σ H Hf ρ RBl (.ok b m') P
    intro v H' Hf' ρ' p f' r
    cases r
    exact k _ _ _ p f'
theorem gT_ok {tg : Tg} {d : PyData} {env' : Env} {v : V} {P : L2.St → Hp → Prop} (a : At K H σ Hf ρ ω env m) (hd : Dp K Hf v d) (hz : szOk d = true) (he : asgTg tg d env = some env') (k : ∀ σ', At K H σ' Hf ρ ω env' m → Off (slotsTg tg) σ σ' → P σ' H) : gT K tg v σ H P :=
  ⟨Hf, ρ, ω, env, m, d, env', a, hd, hz, he, k⟩
end
theorem compGo_len {elt : Env → Mem → R U} {cond : Option (Env → Mem → R U)} {tg : Tg} {σ : Env} : ∀ {ds : List PyData} {m mf : Mem} {xs : List PyData}, compGo elt cond tg σ ds m = .ok xs mf → xs.length ≤ ds.length
  | [], m, mf, xs, h => by cases h; exact Nat.le_refl _
  | d :: ds, m, mf, xs, h => by
    obtain ⟨σ', b, m1, h1, h2, h3, h4⟩ := compGo_cons h
    cases b with
    | true =>
      obtain ⟨x, m2, xs', _, h5, rfl⟩ := h3 rfl
      have := compGo_len h5
      simp only [List.length_cons]; omega
    | false => have := compGo_len (h4 rfl); simp only [List.length_cons]; omega
theorem drop_cons {α : Type} {ds : List α} {i : Nat} (h : i < ds.length) : ds.drop i = ds[i] :: ds.drop (i + 1) := List.drop_eq_getElem_cons h
theorem wipe_At {K : PySem.W.Frag} {H Hf H' Hf' : Hp} {ρ ρ' : List Addr} {ω : Nat → Addr} {σ : L2.St} {env : Env} {m m' : Mem} (a : At K H σ Hf ρ ω env m) (p : Pres H Hf ρ H' Hf' ρ') (f : Fine K H' Hf' ρ' m') (vs : List Nat) : At K H' (L2.wipe σ vs) Hf' ρ' ω (wipeE env vs) m' := ⟨f, (a.slots.pres p).wipe vs⟩
theorem lc_imp {K : PySem.W.Frag} {XR : XRel} {W : WX} {fI : Env → Mem → R (List PyData)} {fe : Env → Mem → R U} {oc : Option (Env → Mem → R U)} {tg : Tg} {vs : List Nat} {σ : L2.St} {H : Hp} {Q : VK} (hs : ∀ i ∈ slotsTg tg, i ∈ vs)
    (h : tF K XR W (fun σ m => ((fI σ m).bind sizeU).bind fun ds m1 => (compGo (fun σ m => (fe σ m).quiet) (oQ oc) tg (wipeE σ vs) ds m1).quiet.bind fun xs m2 => .ok (.dat (.list xs)) m2) σ H Q) :
    tLc (tI K XR W fI) (gT K tg) (tC K XR oc) (tU K XR WF fe) vs σ H Q := by
  obtain ⟨Hf, ρ, ω, env, m, a, o⟩ := h
  dsimp only at o
  rw [R.bind_bind] at o
  refine ⟨Hf, ρ, ω, env, m, a, (OutE.bind (Rp' := RI K) o).mono fun J H1 ⟨ds, Hf1, ρ1, m1, p, f1, r, o1⟩ => ?_⟩
  obtain ⟨hJ, hz⟩ := r
  have a1 : At K H1 σ Hf1 ρ1 ω env m1 := a.pres p f1
  unfold sizeU at o1
  have hl : ds.length ≤ sizeLine := by
    by_cases hl : ds.length ≤ sizeLine
    · exact hl
    · rw [if_neg hl] at o1; exact (o1 : False).elim
  rw [if_pos hl, R.bind_ok] at o1
  obtain ⟨xs, mf, hc⟩ : ∃ xs mf, compGo (fun σ m => (fe σ m).quiet) (oQ oc) tg (wipeE env vs) ds m1 = .ok xs mf := by
    cases hc : compGo (fun σ m => (fe σ m).quiet) (oQ oc) tg (wipeE env vs) ds m1 with
    | bad => rw [hc] at o1; exact (o1 : False).elim
    | exc => rw [hc] at o1; exact (o1 : False).elim
    | ok xs mf => exact ⟨xs, mf, rfl⟩
  rw [hc, R.quiet_ok, R.bind_ok] at o1
  have hxl := compGo_len hc
  have hlen : ∀ {acc xs' : List PyData}, acc ++ xs' = xs → acc.length + xs'.length = xs.length := fun e => by rw [← e, List.length_append]
  intro D hD
  refine ⟨fun i k H' => ∃ Hf' ρ' m' acc xs', i ≤ ds.length ∧ k = ds.length - i ∧ CIn K H1 Hf1 ρ1 D H' Hf' ρ' m' acc ∧ compGo (fun σ m => (fe σ m).quiet) (oQ oc) tg (wipeE env vs) (ds.drop i) m' = .ok xs' mf ∧ acc ++ xs' = xs,
    ⟨_, Hf1, ρ1, m1, [], xs, Nat.zero_le _, rfl, CIn.start f1 hD, hc, rfl⟩, fun i k H' ⟨Hf', ρ', m', acc, xs', hi, hk, c, hg, hx⟩ => ?_⟩
  by_cases he : i = ds.length
  · subst he
    rw [List.drop_length] at hg
    cases hg
    rw [List.append_nil] at hx
    subst hx
    refine .inl ⟨(hJ H' Hf' c.pres.fz c.fine.sub _).2 rfl, ?_⟩
    obtain ⟨vs', e, ha⟩ := c.at_
    exact o1 _ H' Hf' ρ' c.pres c.fine ⟨D, vs', _, rfl, rfl, Pres.none p a.fine f1 hD, e, c.fr, c.nt, ha, sz_list.mpr ⟨by omega, c.sz⟩⟩
  · have hlt : i < ds.length := by omega
    rw [drop_cons hlt] at hg
    obtain ⟨env', b, m2, g1, g2, g3, g4⟩ := compGo_cons hg
    obtain ⟨hgo, hy⟩ := hJ.turn c (List.getElem?_eq_getElem hlt)
    have hzd : szOk ds[i] = true := szAll_iff.mp hz _ (List.getElem_mem hlt)
    refine .inr ⟨hgo, fun H' => ∃ Hf' ρ' m' acc xs', CIn K H1 Hf1 ρ1 D H' Hf' ρ' m' acc ∧ compGo (fun σ m => (fe σ m).quiet) (oQ oc) tg (wipeE env vs) (ds.drop (i + 1)) m' = .ok xs' mf ∧ acc ++ xs' = xs, fun H' ⟨Hf', ρ', m', acc, xs', c, q1, q2⟩ => ⟨_, (by omega : ds.length - (i + 1) < k), Hf', ρ', m', acc, xs', hlt, rfl, c, q1, q2⟩, fun x H2 hyl => ?_⟩
    obtain ⟨Hf2, c2, hdp⟩ := hy x H2 hyl
    have at2 := wipe_At a1 c2.pres c2.fine vs
    refine gT_ok at2 hdp hzd g1 fun σ2 a2 off => ⟨?_, ?_⟩
    · rw [wipe_off off (by rw [a2.slots.len, at2.slots.len]; exact asgTg_len g1) hs, wipe_wipe]
    refine tC_ok a2 g2 fun H3 Hf3 ρ3 p3 f3 => ?_
    have c3 := c2.step p3 f3
    cases b with
    | false => exact ⟨Hf3, ρ3, m2, acc, xs', c3, g4 rfl, hx⟩
    | true =>
      obtain ⟨xv, m4, xs2, g5, g6, g7⟩ := g3 rfl
      refine tU_ok (a2.pres p3 f3) (quiet_ok g5) fun y H4 Hf4 ρ4 p4 f4 r4 => ?_
      obtain ⟨vs', e, el, c4⟩ := (c3.step p4 f4).push hD r4.1 r4.2
      have := hlen hx
      rw [g7, List.length_cons] at this
      exact ⟨vs', e, by omega, Hf4, ρ4, m4, acc ++ [xv], xs2, c4, g6, by rw [← hx, g7, List.append_assoc]; rfl⟩
end Eng

set_option Elab.async false
set_option linter.all false
set_option maxRecDepth 100000
set_option maxHeartbeats 1000000
/-! List comprehensions: two loops. -/
namespace Eng
open PySem PySem.Spec PyProof.Rows L2

theorem set_own {σ : Env} {i j : Nat} {s : Sl} (hs : ∀ xs, s ≠ .own xs) {xs : List PyData} (h : (σ.set i s)[j]? = some (.own xs)) : σ[j]? = some (.own xs) := by
  rw [List.getElem?_set] at h
  by_cases hj : i = j
  · subst hj
    rw [if_pos rfl] at h
    split at h
    · cases h; exact absurd rfl (hs xs)
    · cases h
  · rw [if_neg hj] at h; exact h
mutual
theorem asgTg_own : ∀ {t : Tg} {d : PyData} {σ σ' : Env} {j : Nat} {xs : List PyData}, asgTg t d σ = some σ' → σ'[j]? = some (.own xs) → σ[j]? = some (.own xs)
  | .nm i, d, σ, σ', j, xs, h, h' => by
    simp only [asgTg] at h
    split at h
    · cases h; exact set_own (fun _ e => by cases e) h'
    · cases h
  | .tp ts, d, σ, σ', j, xs, h, h' => by
    cases d <;> simp only [asgTg, reduceCtorEq] at h
    exact asgTgs_own h h'
theorem asgTgs_own : ∀ {ts : List Tg} {ds : List PyData} {σ σ' : Env} {j : Nat} {xs : List PyData}, asgTgs ts ds σ = some σ' → σ'[j]? = some (.own xs) → σ[j]? = some (.own xs)
  | [], [], _, _, _, _, h, h' => by simp only [asgTgs, Option.some.injEq] at h; rw [h]; exact h'
  | t :: ts, d :: ds, σ, σ', j, xs, h, h' => by
    simp only [asgTgs, Option.bind_eq_some_iff] at h
    obtain ⟨s, h1, h⟩ := h
    exact asgTg_own h1 (asgTgs_own h h')
  | [], _ :: _, _, _, _, _, h, _ => by simp [asgTgs] at h
  | _ :: _, [], _, _, _, _, h, _ => by simp [asgTgs] at h
end
theorem wipeE_own {σ : Env} {j : Nat} {xs : List PyData} : ∀ {vs : List Nat}, (wipeE σ vs)[j]? = some (.own xs) → σ[j]? = some (.own xs)
  | [], h => h
  | v :: vs, h => wipeE_own (vs := vs) (set_own (fun _ e => by cases e) h)
theorem Slots.poke {K : PySem.W.Frag} {H Hf : Hp} {ρ : List Addr} {ω : Nat → Addr} {σ : L2.St} {env : Env} (s : Slots K H Hf ρ ω σ env) {p : Addr} {o : HO} (h : ∀ i xs, env[i]? = some (.own xs) → ω i ≠ p) : Slots K (upd H p o) Hf ρ ω σ env := by
  refine ⟨s.len, s.val, fun i xs e => ?_, s.inj⟩
  obtain ⟨h1, h2, h3, ⟨vs, h4, h5⟩, h6⟩ := s.own i xs e
  exact ⟨h1, h2, h3, ⟨vs, by rw [upd_ne (h i xs e)]; exact h4, h5⟩, h6⟩
theorem ItOk.mono {K : PySem.W.Frag} {J : L2.It} {Hf Hf' : Hp} {ds : List PyData} (h : ItOk K J Hf ds) (s : Sub Hf Hf') : ItOk K J Hf' ds := fun H1 Hf1 s1 s2 i => h H1 Hf1 (s.trans s1) s2 i
theorem Pres.turn {K : PySem.W.Frag} {H Hf : Hp} {ρ : List Addr} {m : Mem} {J : L2.It} {ds : List PyData} (hJ : ItOk K J Hf ds) (f : Fine K H Hf ρ m) {i : Nat} {d : PyData} (hd : ds[i]? = some d) :
    J.go i H ∧ ∀ x H', J.yld i H x H' → ∃ Hf', Pres H Hf ρ H' Hf' ρ ∧ Fine K H' Hf' ρ m ∧ Dp K Hf' x d := by
  obtain ⟨h1, h2⟩ := (hJ H Hf (Sub.refl _) f.sub i).1 d hd
  refine ⟨h1, fun x H' hy => ?_⟩
  obtain ⟨Hf2, s1, s2, s3, s4, s5⟩ := h2 x H' hy
  refine ⟨Hf2, ⟨s1, ⟨[], by simp⟩, fun a o e e1 e2 => ⟨s2 _ _ e, s4 a (by rw [e]; simp) e1, e2⟩⟩, ⟨s3, f.nd, fun a ha => ?_, f.len, fun i a o e1 e2 => (f.at_ i a o e1 e2).grow (fun x e => s2 _ _ e) s1⟩, s5⟩
  obtain ⟨o, e⟩ := f.tracked ha
  exact s4 a (by rw [e]; simp) (f.un a ha)
theorem comp2Go_cons {elt : Env → Mem → R U} {cond : Option (Env → Mem → R U)} {tg tg' : Tg} {it : Env → Mem → R (List PyData)} {σ : Env} {d : PyData} {ds : List PyData} {m mf : Mem} {xs : List PyData} (h : comp2Go elt cond tg it tg' σ (d :: ds) m = .ok xs mf) :
    ∃ σ' es m1 ys m2 zs, asgTg tg d σ = some σ' ∧ it σ' m = .ok es m1 ∧ compGo elt cond tg' (wipeE σ' (slotsTg tg')) es m1 = .ok ys m2 ∧ comp2Go elt cond tg it tg' σ ds m2 = .ok zs mf ∧ xs = ys ++ zs := by
  unfold comp2Go at h
  cases e : asgTg tg d σ with
  | none => rw [e] at h; cases h
  | some σ' =>
    rw [e] at h
    obtain ⟨es, m1, h1, h2⟩ := bind_ok' h
    obtain ⟨ys, m2, h3, h4⟩ := bind_ok' h2
    obtain ⟨zs, m3, h5, h6⟩ := bind_ok' h4
    cases h6
    exact ⟨σ', es, m1, ys, m2, zs, rfl, h1, h3, h5, rfl⟩
theorem lc2_imp {K : PySem.W.Frag} {XR : XRel} {W : WX} {fI fI2 : Env → Mem → R (List PyData)} {fe : Env → Mem → R U} {oc : Option (Env → Mem → R U)} {tg tg' : Tg} {vs : List Nat} {σ : L2.St} {H : Hp} {Q : VK} (hs : ∀ i ∈ slotsTg tg, i ∈ vs)
    (h : tF K XR W (fun σ m => ((fI σ m).bind sizeU).bind fun ds m1 => ((comp2Go (fun σ m => (fe σ m).quiet) (oQ oc) tg (fun σ m => (fI2 σ m).quiet) tg' (wipeE σ vs) ds m1).quiet.bind sizeU).bind fun xs m2 => .ok (.dat (.list xs)) m2) σ H Q) :
    tLc2 (tI K XR W fI) (gT K tg) tYes (tI K XR WF fI2) (gT K tg') (tC K XR oc) (tU K XR WF fe) vs (slotsTg tg') σ H Q := by
  obtain ⟨Hf, ρ, ω, env, m, a, o⟩ := h
  dsimp only at o
  rw [R.bind_bind] at o
  refine ⟨Hf, ρ, ω, env, m, a, (OutE.bind (Rp' := RI K) o).mono fun J H1 ⟨ds, Hf1, ρ1, m1, p, f1, r, o1⟩ => ?_⟩
  obtain ⟨hJ, hz⟩ := r
  have a1 : At K H1 σ Hf1 ρ1 ω env m1 := a.pres p f1
  unfold sizeU at o1
  have hl : ds.length ≤ sizeLine := by
    by_cases hl : ds.length ≤ sizeLine
    · exact hl
    · rw [if_neg hl] at o1; exact (o1 : False).elim
  rw [if_pos hl, R.bind_ok] at o1
  obtain ⟨xs, mf, hc⟩ : ∃ xs mf, comp2Go (fun σ m => (fe σ m).quiet) (oQ oc) tg (fun σ m => (fI2 σ m).quiet) tg' (wipeE env vs) ds m1 = .ok xs mf := by
    cases hc : comp2Go (fun σ m => (fe σ m).quiet) (oQ oc) tg (fun σ m => (fI2 σ m).quiet) tg' (wipeE env vs) ds m1 with
    | bad => rw [hc] at o1; exact (o1 : False).elim
    | exc => rw [hc] at o1; exact (o1 : False).elim
    | ok xs mf => exact ⟨xs, mf, rfl⟩
  rw [hc, R.quiet_ok, R.bind_ok] at o1
  have hxl : xs.length ≤ sizeLine := by
    by_cases hl : xs.length ≤ sizeLine
    · exact hl
    · rw [if_neg hl] at o1; exact (o1 : False).elim
  rw [if_pos hxl, R.bind_ok] at o1
  intro D hD
  refine ⟨fun i k H' => ∃ Hf' ρ' m' acc xs', i ≤ ds.length ∧ k = ds.length - i ∧ CIn K H1 Hf1 ρ1 D H' Hf' ρ' m' acc ∧ comp2Go (fun σ m => (fe σ m).quiet) (oQ oc) tg (fun σ m => (fI2 σ m).quiet) tg' (wipeE env vs) (ds.drop i) m' = .ok xs' mf ∧ acc ++ xs' = xs,
    ⟨_, Hf1, ρ1, m1, [], xs, Nat.zero_le _, rfl, CIn.start f1 hD, hc, rfl⟩, fun i k H' ⟨Hf', ρ', m', acc, xs', hi, hk, c, hg, hx⟩ => ?_⟩
  by_cases he : i = ds.length
  · subst he
    rw [List.drop_length] at hg
    cases hg
    rw [List.append_nil] at hx
    subst hx
    refine .inl ⟨(hJ H' Hf' c.pres.fz c.fine.sub _).2 rfl, ?_⟩
    obtain ⟨vs', e, ha⟩ := c.at_
    exact o1 _ H' Hf' ρ' c.pres c.fine ⟨D, vs', _, rfl, rfl, Pres.none p a.fine f1 hD, e, c.fr, c.nt, ha, sz_list.mpr ⟨hxl, c.sz⟩⟩
  · have hlt : i < ds.length := by omega
    rw [drop_cons hlt] at hg
    obtain ⟨env', es, m2, ys, m3, zs, g1, g2, g3, g4, g5⟩ := comp2Go_cons hg
    obtain ⟨hgo, hy⟩ := Pres.turn (hJ.mono c.pres.fz) c.fine (List.getElem?_eq_getElem hlt)
    have hzd : szOk ds[i] = true := szAll_iff.mp hz _ (List.getElem_mem hlt)
    refine .inr ⟨hgo, fun H' => ∃ Hf' ρ' m' acc xs', CIn K H1 Hf1 ρ1 D H' Hf' ρ' m' acc ∧ comp2Go (fun σ m => (fe σ m).quiet) (oQ oc) tg (fun σ m => (fI2 σ m).quiet) tg' (wipeE env vs) (ds.drop (i + 1)) m' = .ok xs' mf ∧ acc ++ xs' = xs, fun H' ⟨Hf', ρ', m', acc, xs', c, q1, q2⟩ => ⟨_, (by omega : ds.length - (i + 1) < k), Hf', ρ', m', acc, xs', hlt, rfl, c, q1, q2⟩, fun x H2 hyl => ?_⟩
    obtain ⟨Hf2, p2, f2, hdp⟩ := hy x H2 hyl
    have c2 := c.step p2 f2
    have at2 := wipe_At a1 c2.pres c2.fine vs
    refine gT_ok at2 hdp hzd g1 fun σ2 a2 off => ⟨?_, ?_⟩
    · rw [wipe_off off (by rw [a2.slots.len, at2.slots.len]; exact asgTg_len g1) hs, wipe_wipe]
    show tI K XR WF fI2 σ2 H2 _
    refine tI_ok a2 (quiet_ok g2) fun J1 H4 Hf4 ρ4 p4 f4 r4 => ?_
    obtain ⟨hJ1, hz1⟩ := r4
    have c4 := c2.step p4 f4
    have hω : ∀ i xs, env'[i]? = some (.own xs) → ω i ≠ D := fun i xs e => by
      obtain ⟨_, _, _, ⟨vs', e2, _⟩, _⟩ := a1.slots.own i xs (wipeE_own (asgTg_own g1 e))
      exact ne_of_none e2 hD
    refine ⟨fun j k H' => ∃ Hf' ρ' m' acc' ys', j ≤ es.length ∧ k = es.length - j ∧ CIn K H1 Hf1 ρ1 D H' Hf' ρ' m' acc' ∧ compGo (fun σ m => (fe σ m).quiet) (oQ oc) tg' (wipeE env' (slotsTg tg')) (es.drop j) m' = .ok ys' m3 ∧ acc' ++ ys' ++ zs = xs ∧ Sub Hf4 Hf' ∧ Slots K H' Hf' ρ' ω σ2 env',
      ⟨_, Hf4, ρ4, m2, acc, ys, Nat.zero_le _, rfl, c4, g3, by rw [List.append_assoc, ← g5]; exact hx, Sub.refl _, a2.slots.pres p4⟩, fun j k1 H5 ⟨Hf5, ρ5, m5, acc5, ys5, hj, hk1, c5, hg5, hx5, s5, sl5⟩ => ?_⟩
    by_cases hje : j = es.length
    · subst hje
      rw [List.drop_length] at hg5
      cases hg5
      rw [List.append_nil] at hx5
      exact .inl ⟨(hJ1 H5 Hf5 s5 c5.fine.sub _).2 rfl, Hf5, ρ5, _, _, zs, c5, g4, hx5⟩
    · have hjt : j < es.length := by omega
      rw [drop_cons hjt] at hg5
      obtain ⟨env6, b, m6, q1, q2, q3, q4⟩ := compGo_cons hg5
      obtain ⟨hgo1, hy1⟩ := Pres.turn (hJ1.mono s5) c5.fine (List.getElem?_eq_getElem hjt)
      have hzd1 : szOk es[j] = true := szAll_iff.mp hz1 _ (List.getElem_mem hjt)
      refine .inr ⟨hgo1, fun H' => ∃ Hf' ρ' m' acc' ys', CIn K H1 Hf1 ρ1 D H' Hf' ρ' m' acc' ∧ compGo (fun σ m => (fe σ m).quiet) (oQ oc) tg' (wipeE env' (slotsTg tg')) (es.drop (j + 1)) m' = .ok ys' m3 ∧ acc' ++ ys' ++ zs = xs ∧ Sub Hf4 Hf' ∧ Slots K H' Hf' ρ' ω σ2 env',
        fun H' ⟨Hf', ρ', m', acc, xs', c, q1, q2, q3, q4⟩ => ⟨_, (by omega : es.length - (j + 1) < k1), Hf', ρ', m', acc, xs', hjt, rfl, c, q1, q2, q3, q4⟩, fun x6 H6 hyl6 => ?_⟩
      obtain ⟨Hf6, p6, f6, hdp6⟩ := hy1 x6 H6 hyl6
      have c6 := c5.step p6 f6
      have at6 := wipe_At ⟨c5.fine, sl5⟩ p6 f6 (slotsTg tg')
      refine gT_ok at6 hdp6 hzd1 q1 fun σ7 a7 off7 => ⟨?_, ?_⟩
      · rw [wipe_off off7 (by rw [a7.slots.len, at6.slots.len]; exact asgTg_len q1) (fun _ h => h), wipe_wipe]
      refine tC_ok a7 q2 fun H8 Hf8 ρ8 p8 f8 => ?_
      have c8 := c6.step p8 f8
      have sl8 := (sl5.pres p6).pres p8
      cases b with
      | false => exact ⟨Hf8, ρ8, m6, acc5, ys5, c8, q4 rfl, hx5, s5.trans (p6.fz.trans p8.fz), sl8⟩
      | true =>
        obtain ⟨xv, m9, ys9, q5, q6, q7⟩ := q3 rfl
        refine tU_ok (a7.pres p8 f8) (quiet_ok q5) fun y H9 Hf9 ρ9 p9 f9 r9 => ?_
        obtain ⟨vs', e, el, c9⟩ := (c8.step p9 f9).push hD r9.1 r9.2
        have := congrArg List.length hx5
        rw [q7, List.length_append, List.length_append, List.length_cons] at this
        exact ⟨vs', e, by omega, Hf9, ρ9, m9, acc5 ++ [xv], ys9, c9, q6, by rw [← hx5, q7, List.append_assoc acc5]; rfl, s5.trans (p6.fz.trans (p8.fz.trans p9.fz)), (sl8.pres p9).poke hω⟩
end Eng

set_option Elab.async false
set_option linter.all false
set_option maxRecDepth 100000
set_option maxHeartbeats 4000000
/-! Expressions: a checked text reads as the evaluator says. -/
namespace Eng
open PySem PySem.Spec PyProof.Rows L2
section
variable {G : Cfg} {N : List Str} {C : Calls} {XR : XRel} {X : Cx} {W : WX} {c : Sc} {e e' l r s : Expr} {es : List Expr} {pos : Pos} {f fa fb fc : Env → Mem → R U}
theorem rt_ite {t : Expr} (ht : PT X t (tT X.K XR W f)) (ha : PT X l (tT X.K XR W fa)) (hb : PT X r (tT X.K XR W fb)) : PT X (.IfExp t l r pos) (tT X.K XR W fun σ m => ((f σ m).bind asB).bind fun c m1 => if c = true then fa σ m1 else fb σ m1) := by
  refine ⟨fun pins s σ H Q I ⟨Hf, ρ, ω, env, m, a, o⟩ => ?_⟩
  dsimp only at o
  rw [R.bind_bind] at o
  show wpAny (model X.prog X.w) X.A (do if ← isTrue t X.env (eval t X.env) then isTrue l X.env (eval l X.env) else isTrue r X.env (eval r X.env)) (TP X pins σ Q) X.xe s
  refine wpAny_bind (wpAny_mono (ht.run pins s σ H _ I (a.bind (f := fun σ m => (f σ m).bind asB) (Rp' := RBl) o)) (fun b s1 ⟨H1, I1, u, Hf1, ρ1, m1, p, a1, r1, o1⟩ => ?_) fun _ _ z => z)
  cases r1
  cases b with
  | true => exact ha.run pins s1 σ H1 Q I1 ⟨_, _, _, _, _, a1, o1⟩
  | false => exact hb.run pins s1 σ H1 Q I1 ⟨_, _, _, _, _, a1, o1⟩
theorem pw_any {o : BoolOp} {t : TT} (h : PT X (.BoolOp o es pos) t) : PW X (.BoolOp o es pos) t := ⟨fun wh pins s σ H Q I q => h.run pins s σ H Q I q⟩
abbrev Both (X : Cx) (XR : XRel) (W : WX) (s : Expr) (f : Env → Mem → R U) : Prop := PE X s (tU X.K XR W f) ∧ PT X s (tT X.K XR W f)
theorem both (h : PE X s (tU X.K XR W f)) (he : ∀ whole, isTrue s X.env whole = (do let v ← whole; standAt s.pos; holding [v] (truthy v))) : Both X XR W s f := ⟨h, pt_of h he⟩
theorem pe_never {t : TE} (h : ∀ σ H Q, ¬ t σ H Q) : PE X s t := ⟨fun pins s σ H Q I q => (h _ _ _ q).elim⟩
theorem bad_never (h : ∀ σ m, f σ m = .bad) : ∀ σ H Q, ¬ tU X.K XR W f σ H Q := fun σ H Q ⟨Hf, ρ, ω, env, m, a, o⟩ => by rw [h] at o; exact o
/-- where an object is only read -/
theorem sndB (g : GX G N C XR X W c) {a : E} (h : okE G N a c s = true) (hE : PE X s (tU X.K XR W (evE C a))) : PE X s (tB X.K XR W (bA a (evE C a))) := by
  cases a
  case bv i =>
    simp only [okE] at h
    split at h
    · simp only [Bool.and_eq_true, decide_eq_true_eq] at h
      exact pe_nameB g h.1 h.2 _ fun _ _ => rfl
    · cases h
  all_goals exact PE.bor hE
theorem pt_bad {t : TT} (h : ∀ σ H Q, ¬ t σ H Q) : PT X s t := ⟨fun pins s σ H Q I q => (h _ _ _ q).elim⟩
theorem plAll {es : Es} {xs : List Expr} (h : okEs G N es c xs = true) : xs.all pl = true := by
  induction xs generalizing es with
  | nil => rfl
  | cons x xs ih =>
    cases es with
    | nil => simp [okEs] at h
    | cons e es =>
      simp only [okEs, Bool.and_eq_true] at h
      rw [List.all_cons, h.1.2, ih h.2]; rfl
theorem kws_some : ∀ {kws : List Keyword}, kws.all (·.arg.isSome) = true → kws.map (·.arg) = (kws.filterMap (·.arg)).map some
  | [], _ => rfl
  | ⟨none, _, _⟩ :: kws, h => by simp at h
  | ⟨some a, _, _⟩ :: kws, h => by
    rw [List.all_cons, Bool.and_eq_true] at h
    show some a :: kws.map (·.arg) = (a :: kws.filterMap (·.arg)).map some
    rw [List.map_cons, kws_some h.2]
theorem evEs_len' {es : Es} {xs : List Expr} (h : okEs G N es c xs = true) {σ : Env} {m m' : Mem} {us : List U} (hu : evEs C es σ m = .ok us m') : us.length = xs.length := by
  rw [evEs_len es hu, okEs_len es h]
theorem condOk {cond : E} {ifs : List Expr} (hb : match ifs with | [] => isNo cond = true | [k] => isNo cond = false ∧ PT X k (tT X.K XR WF (evE C cond)) | _ => False) : PTs X ifs (tC X.K XR (if isNo cond = true then none else some (evE C cond))) := by
  cases ifs with
  | nil => simp only at hb; rw [if_pos hb]; exact pts_nil
  | cons k ks =>
    cases ks with
    | nil => simp only at hb; rw [if_neg (by rw [hb.1]; simp)]; exact pts_one hb.2
    | cons _ _ => exact hb.elim
theorem cA_oQ (cond : E) (f : Env → Mem → R U) : cA cond f = oQ (if isNo cond = true then none else some f) := by
  cases cond <;> rfl
theorem rl_comp (g : GX G N C XR X W c) {t i : Expr} {ifs : List Expr} {scope : Scope} {own : List (Str × Nat)} {tg : Tg} {cond elt : E} {fI : Env → Mem → R (List PyData)} (hI : PI X t i (tI X.K XR W fI)) (ok : blkC N c.sc scope own = true) (hp : pl i = true) (ht : okTg N (c.blk scope) tg t = true)
    (hs : (slotsTg tg).all (fun j => (own.map (·.2)).contains j) = true) (he : ∀ X', GX G N C XR X' WF (c.blk scope) → X'.K = X.K → PE X' e (tU X.K XR WF (evE C elt)))
    (hc : ∀ X', GX G N C XR X' WF (c.blk scope) → X'.K = X.K → PTs X' ifs (tC X.K XR (if isNo cond = true then none else some (evE C cond)))) :
    PE X (.ListComp e [⟨t, i, ifs, 0⟩] scope pos) (tF X.K XR W fun σ m => ((fI σ m).bind sizeU).bind fun ds m1 =>
      (compGo (fun σ m => (evE C elt σ m).quiet) (cA cond (evE C cond)) tg (wipeE σ (own.map (·.2))) ds m1).quiet.bind fun xs m2 => .ok (.dat (.list xs)) m2) := by
  rw [cA_oQ]
  have hs' : ∀ i ∈ slotsTg tg, i ∈ own.map (·.2) := fun i hi => by
    have := List.all_eq_true.mp hs i hi
    simpa using this
  refine PE.imp (pe_lc (own := own) g.calm g.nd hI (blkOk_by (by rw [g.hN, g.sc]; exact ok)) (fun s H D cl fp => ?_) (fun s H D cl fp => hc _ (g.blk s H scope cl D fp) rfl) (fun s H D cl fp => he _ (g.blk s H scope cl D fp) rfl) (folded_pl hp)) fun σ H Q h => lc_imp hs' h
  exact pg_T (g.blk s H scope cl D fp) ht
theorem rl_comp2 (g : GX G N C XR X W c) {t i t' i' : Expr} {ifs : List Expr} {scope : Scope} {own : List (Str × Nat)} {tg tg' : Tg} {cond elt : E} {fI fI2 : Env → Mem → R (List PyData)} (hI : PI X t i (tI X.K XR W fI)) (ok : blkC N c.sc scope own = true) (hp : pl i = true) (ht : okTg N (c.blk scope) tg t = true)
    (hs : (slotsTg tg).all (fun j => (own.map (·.2)).contains j) = true) (hI' : ∀ X', GX G N C XR X' WF (c.blk scope) → X'.K = X.K → PI X' t' i' (tI X.K XR WF fI2)) (hp' : pl i' = true) (ht' : okTg N (c.blk scope) tg' t' = true) (hs2 : (slotsTg tg').all (fun j => (own.map (·.2)).contains j) = true)
    (he : ∀ X', GX G N C XR X' WF (c.blk scope) → X'.K = X.K → PE X' e (tU X.K XR WF (evE C elt)))
    (hc : ∀ X', GX G N C XR X' WF (c.blk scope) → X'.K = X.K → PTs X' ifs (tC X.K XR (if isNo cond = true then none else some (evE C cond)))) :
    PE X (.ListComp e [⟨t, i, [], 0⟩, ⟨t', i', ifs, 0⟩] scope pos) (tF X.K XR W fun σ m => ((fI σ m).bind sizeU).bind fun ds m1 =>
      ((comp2Go (fun σ m => (evE C elt σ m).quiet) (cA cond (evE C cond)) tg (fun σ m => (fI2 σ m).quiet) tg' (wipeE σ (own.map (·.2))) ds m1).quiet.bind sizeU).bind fun xs m2 => .ok (.dat (.list xs)) m2) := by
  rw [cA_oQ]
  have hs' : ∀ i ∈ slotsTg tg, i ∈ own.map (·.2) := fun i hi => by
    have := List.all_eq_true.mp hs i hi
    simpa using this
  have hs2' : ∀ i ∈ slotsTg tg', i ∈ own.map (·.2) := fun i hi => by
    have := List.all_eq_true.mp hs2 i hi
    simpa using this
  refine PE.imp (pe_lc2 (own := own) (vs1 := slotsTg tg') g.calm g.nd hI (blkOk_by (by rw [g.hN, g.sc]; exact ok)) hs2' (fun s H D cl fp => ?_) (fun s H D cl fp => pts_nil) (fun s H D cl fp => hI' _ (g.blk s H scope cl D fp) rfl) (fun s H D cl fp => ?_) (fun s H D cl fp => hc _ (g.blk s H scope cl D fp) rfl) (fun s H D cl fp => he _ (g.blk s H scope cl D fp) rfl) (folded_pl hp) (fun env => folded_pl hp')) fun σ H Q h => lc2_imp hs' h
  · exact pg_T (g.blk s H scope cl D fp) ht
  · exact pg_T (g.blk s H scope cl D fp) ht'
end
end Eng

set_option Elab.async false
set_option linter.all false
set_option maxRecDepth 100000
set_option maxHeartbeats 2000000
/-! sorted({elt for target in it if ..}), the elements whole numbers, or tuples of them. -/
namespace Eng
open PySem PySem.Spec PyProof.Rows L2
/-- what the set holds, by the values that came -/
def StOk (K : PySem.W.Frag) (Hf : Hp) : StV → List PyData → Prop
  | .e, acc => acc = []
  | .i S n, acc => ∃ ns : List Int, ns ≠ [] ∧ acc = ns.map .int ∧ (∀ j, S j = decide (j ∈ ns)) ∧ ∀ T : List Int, (∀ j ∈ ns, j ∈ T) → n ≤ T.length
  | .t L, acc => ∃ ks : List (List Int), ks ≠ [] ∧ acc = ks.map (fun k => .tuple (k.map .int)) ∧ (∀ p ∈ L, SqT K Hf p.1 (p.2.map V.int) ∧ p.2 ∈ ks) ∧ (∀ k ∈ ks, k ∈ L.map (·.2)) ∧ (L.map (·.2)).Nodup
theorem StOk.mono {K : PySem.W.Frag} {Hf Hf' : Hp} (s : Sub Hf Hf') {st : StV} {acc : List PyData} (h : StOk K Hf st acc) : StOk K Hf' st acc := by
  cases st with
  | e => exact h
  | i S n => exact h
  | t L =>
    obtain ⟨ks, h1, h2, h3, h4⟩ := h
    exact ⟨ks, h1, h2, fun p hp => ⟨SqT.mono s (h3 p hp).1, (h3 p hp).2⟩, h4⟩
theorem sset_cases {xs : List PyData} {z : PyData} (h : ssetV (.list xs) = some z) : (∃ ns : List Int, xs = ns.map .int ∧ ns.length ≤ 1000 ∧ (sortD ns).length < 64 ∧ z = .list ((sortD ns).map .int)) ∨
    ∃ ks : List (List Int), xs = ks.map (fun k => .tuple (k.map .int)) ∧ flatT ks = true ∧ ks.eraseDups.length < 63 ∧ z = .list ((sortT ks).map fun k => .tuple (k.map .int)) := by
  simp only [ssetV] at h
  split at h
  · rename_i ns e
    split at h
    · rename_i hc
      cases h
      exact .inl ⟨ns, asInts_eq e, hc.1, hc.2, rfl⟩
    · cases h
  · obtain ⟨ks, ek, h⟩ := Option.bind_eq_some_iff.mp h
    split at h
    · rename_i hc
      cases h
      exact .inr ⟨ks, asTupI_map ek, hc.1, hc.2, rfl⟩
    · cases h
theorem AdV.imp {K : PySem.W.Frag} {y : V} {H : Hp} {k k' : StV → Prop} (h : ∀ st, k st → k' st) {st : StV} (a : AdV K y H k st) : AdV K y H k' st := by
  cases st with
  | e =>
    rcases a with ⟨i, e, q⟩ | ⟨x, q, e, f, g⟩
    · exact .inl ⟨i, e, h _ q⟩
    · exact .inr ⟨x, q, e, f, h _ g⟩
  | i S n => obtain ⟨i, e, f, g⟩ := a; exact ⟨i, e, f, h _ g⟩
  | t L => obtain ⟨x, q, e, f, g, l, m, n⟩ := a; exact ⟨x, q, e, f, g, l, fun c => h _ (m c), fun c L' p => h _ (n c L' p)⟩
/-- the set that grows -/
structure SIn (P : Program) (w : World) (K : PySem.W.Frag) (H1 Hf1 : Hp) (ρ1 : List Addr) (D : Addr) (H Hf : Hp) (ρ : List Addr) (m : Mem) (acc : List PyData) : Prop where
  pres : Pres H1 Hf1 ρ1 H Hf ρ
  fine : Fine K H Hf ρ m
  at_ : ∃ st, H D = some (SOV P w D st) ∧ StOk K Hf st acc
  fr : Hf D = none
  nt : D ∉ ρ
  sz : szAll acc = true
section
variable {P : Program} {w : World} {K : PySem.W.Frag} {H1 Hf1 : Hp} {ρ1 : List Addr} {D : Addr} {H Hf : Hp} {ρ : List Addr} {m : Mem} {acc : List PyData}
theorem SIn.start {m1 : Mem} (f : Fine K H1 Hf1 ρ1 m1) (hD : H1 D = none) : SIn P w K H1 Hf1 ρ1 D (upd H1 D (SOV P w D .e)) Hf1 ρ1 m1 [] :=
  ⟨Pres.fresh hD, f.fresh hD, ⟨.e, upd_same, rfl⟩, f.sub.none hD, (fun hm => by obtain ⟨o, e⟩ := f.tracked hm; rw [hD] at e; cases e), rfl⟩
theorem SIn.step (c : SIn P w K H1 Hf1 ρ1 D H Hf ρ m acc) {H' Hf' : Hp} {ρ' : List Addr} {m' : Mem} (p : Pres H Hf ρ H' Hf' ρ') (f : Fine K H' Hf' ρ' m') : SIn P w K H1 Hf1 ρ1 D H' Hf' ρ' m' acc := by
  obtain ⟨st, e, ha⟩ := c.at_
  obtain ⟨q, q1, q2⟩ := p.kp _ _ e c.fr c.nt
  exact ⟨c.pres.trans p, f, ⟨st, q, ha.mono p.fz⟩, q1, q2, c.sz⟩
theorem SIn.put (c : SIn P w K H1 Hf1 ρ1 D H Hf ρ m acc) (hD : H1 D = none) {st' : StV} {acc' : List PyData} (h : StOk K Hf st' acc') (hz' : szAll acc' = true) : SIn P w K H1 Hf1 ρ1 D (upd H D (SOV P w D st')) Hf ρ m acc' := by
  refine ⟨⟨c.pres.fz, c.pres.pre, fun a o h h1 h2 => ?_⟩, c.fine.poke c.fr c.nt, ⟨st', upd_same, h⟩, c.fr, c.nt, hz'⟩
  obtain ⟨q, q1, q2⟩ := c.pres.kp a o h h1 h2
  have : a ≠ D := ne_of_none h hD
  exact ⟨by rw [upd_ne this]; exact q, q1, q2⟩
theorem SIn.push (c : SIn P w K H1 Hf1 ρ1 D H Hf ρ m acc) (hD : H1 D = none) {y : V} {x z : PyData} {xs rest : List PyData} (r : Dp K Hf y x) (hzx : szOk x = true) (hx : acc ++ x :: rest = xs) (hz : ssetV (.list xs) = some z) :
    ∃ st, H D = some (SOV P w D st) ∧ AdV K y H (fun st' => SIn P w K H1 Hf1 ρ1 D (upd H D (SOV P w D st')) Hf ρ m (acc ++ [x])) st := by
  obtain ⟨st, e, ha⟩ := c.at_
  refine ⟨st, e, ?_⟩
  have hsz : szAll (acc ++ [x]) = true := by
    have := c.sz
    rw [szAll_iff] at this ⊢
    intro d hd
    rcases List.mem_append.mp hd with hd | hd
    · exact this d hd
    · rw [List.mem_singleton.mp hd]; exact hzx
  rcases sset_cases hz with ⟨ns, e1, e2, e3, _⟩ | ⟨ks, e1, e2, e3, _⟩
  · rw [e1] at hx
    obtain ⟨n1, n2, rfl, h1, h2⟩ := List.map_eq_append_iff.mp hx.symm
    obtain ⟨i, n3, rfl, rfl, h3⟩ := List.map_eq_cons_iff.mp h2
    cases r
    have hlen : n1.length ≤ 1000 := by rw [List.length_append] at e2; omega
    cases st with
    | e =>
      refine .inl ⟨i, rfl, c.put hD ⟨[i], by simp, ?_, fun j => by simp, fun T hT => ?_⟩ hsz⟩
      · rw [show acc = [] from ha]; rfl
      · exact List.length_pos_of_mem (hT i List.mem_cons_self)
    | i S n =>
      obtain ⟨n0, q0, q1, q2, q3⟩ := ha
      have hn0 : n ≤ n0.length := q3 n0 fun j hj => hj
      have e0 : n0 = n1 := by
        have : n0.map PyData.int = n1.map PyData.int := by rw [← q1, h1]
        exact List.map_inj_right (fun a b h => by injection h) |>.mp this
      subst e0
      refine ⟨i, rfl, by unfold scanBound; omega, c.put hD ⟨n0 ++ [i], by simp, by rw [q1, List.map_append]; rfl, fun j => ?_, fun T hT => ?_⟩ hsz⟩
      · show (S j || decide (j = i)) = _
        rw [q2 j, Bool.eq_iff_iff]; simp
      · have hs : ∀ j ∈ n0, j ∈ T := fun j hj => hT j (List.mem_append_left _ hj)
        by_cases hi : S i = true
        · rw [if_pos hi]; exact q3 T hs
        · rw [if_neg hi]
          have hni : i ∉ n0 := fun hm => hi (by rw [q2]; simpa using hm)
          have hiT : i ∈ T := hT i (List.mem_append_right _ List.mem_cons_self)
          have := q3 (T.erase i) fun j hj => (List.mem_erase_of_ne fun z => hni (by rw [← z]; exact hj)).mpr (hs j hj)
          rw [List.length_erase_of_mem hiT] at this
          have := List.length_pos_of_mem hiT
          omega
    | t L =>
      obtain ⟨k0, q0, q1, _⟩ := ha
      rw [q1] at h1
      cases k0 with
      | nil => exact absurd rfl q0
      | cons k k0 => cases n1 <;> simp at h1
  · rw [e1] at hx
    obtain ⟨k1, k2, rfl, h1, h2⟩ := List.map_eq_append_iff.mp hx.symm
    obtain ⟨k, k3, rfl, rfl, h3⟩ := List.map_eq_cons_iff.mp h2
    cases r with
    | tup hq hda =>
    have := DpAll.ints hda (asInts_map k)
    subst this
    cases st with
    | e =>
      refine .inr ⟨_, k, rfl, SqT.mono c.fine.sub hq, c.put hD ⟨[k], by simp, ?_, fun p hp => ?_, fun j hj => ?_, by simp⟩ hsz⟩
      · rw [show acc = [] from ha]; rfl
      · rw [List.mem_singleton.mp hp]; exact ⟨hq, List.mem_cons_self⟩
      · simpa using hj
    | i S n =>
      obtain ⟨n0, q0, q1, _⟩ := ha
      rw [q1] at h1
      cases n0 with
      | nil => exact absurd rfl q0
      | cons k n0 => cases k1 <;> simp at h1
    | t L =>
      obtain ⟨k0, q0, q1, q2, q3, q4⟩ := ha
      have e0 : ∀ {a b : List (List Int)}, (a.map fun k => PyData.tuple (k.map .int)) = (b.map fun k => PyData.tuple (k.map .int)) → a = b := fun {a b} h => by
        refine (List.map_inj_right (fun u v h => ?_)).mp h
        injection h with h
        exact (List.map_inj_right (fun a b h => by injection h)).mp h
      have e0 : k0 = k1 := e0 (by rw [← q1, h1])
      subst e0
      have hsub : ∀ j ∈ L.map (·.2), j ∈ (k0 ++ k :: k3).eraseDups := fun j hj => by
        obtain ⟨p, hp, rfl⟩ := List.mem_map.mp hj
        exact List.mem_eraseDups.mpr (List.mem_append_left _ (q2 p hp).2)
      have hlen := EngU.cap_len _ _ q4 hsub
      rw [List.length_map] at hlen
      have eacc : acc ++ [PyData.tuple (k.map .int)] = (k0 ++ [k]).map fun k => .tuple (k.map .int) := by rw [q1, List.map_append]; rfl
      refine ⟨_, k, rfl, SqT.mono c.fine.sub hq, fun p hp => SqT.mono c.fine.sub (q2 p hp).1, by omega, fun hm => c.put hD ⟨k0 ++ [k], by simp, eacc, fun p hp => ⟨(q2 p hp).1, List.mem_append_left _ (q2 p hp).2⟩, fun j hj => ?_, q4⟩ hsz, fun hm L' pm => c.put hD ⟨k0 ++ [k], by simp, eacc, fun p hp => ?_, fun j hj => ?_, ?_⟩ hsz⟩
      · rcases List.mem_append.mp hj with hj | hj
        · exact q3 j hj
        · rw [List.mem_singleton.mp hj]; exact hm
      · rcases List.mem_cons.mp (pm.mem_iff.mp hp) with rfl | hp
        · exact ⟨hq, List.mem_append_right _ List.mem_cons_self⟩
        · exact ⟨(q2 p hp).1, List.mem_append_left _ (q2 p hp).2⟩
      · rw [(pm.map (·.2)).mem_iff]
        rcases List.mem_append.mp hj with hj | hj
        · exact List.mem_cons_of_mem _ (q3 j hj)
        · rw [List.mem_singleton.mp hj]; exact List.mem_cons_self
      · rw [(pm.map (·.2)).nodup_iff]
        exact List.nodup_cons.mpr ⟨hm, q4⟩
end
section
variable {G : Cfg} {N : List Str} {C : Calls} {XR : XRel} {X : Cx} {W : WX} {c : Sc} {e : Expr} {pos : Pos}
theorem rl_iteN {a b l r : Expr} {op : Operator} {p : Pos} {f fa fb : Env → Mem → R U} (ht : PE X (.BinOp a op b p) (tU X.K XR W f)) (ha : PE X l (tU X.K XR W fa)) (hb : PE X r (tU X.K XR W fb)) : PE X (.IfExp (.BinOp a op b p) l r pos) (tU X.K XR W fun σ m => ((f σ m).bind asNz).bind fun c m1 => if c = true then fa σ m1 else fb σ m1) :=
  PE.imp (pe_ifExp (pt_truth ht (by intro _; rfl)) ha hb) fun σ H Q ⟨Hf, ρ, ω, env, m, a, o⟩ => by
    dsimp only at o
    rw [R.bind_bind] at o
    obtain ⟨A, B, D, E, F', a1, o1⟩ := a.bind (Rp' := RU X.K) o
    refine ⟨A, B, D, E, F', a1, o1.mono fun x H1 ⟨u, Hf1, ρ1, m1, p, a1, r1, o1⟩ => ?_⟩
    cases u with
    | ref i => exact (o1 : False).elim
    | dat d =>
      cases d with
      | int i =>
        cases r1.1
        simp only [asNz, R.bind_ok] at o1
        refine ⟨i != 0, rfl, ?_⟩
        cases hz : (i != 0) with
        | true => rw [hz] at o1; exact ⟨_, _, _, _, _, a1, o1⟩
        | false => rw [hz] at o1; exact ⟨_, _, _, _, _, a1, o1⟩
      | _ => exact (o1 : False).elim
theorem rt_iteN {a b l r : Expr} {op : Operator} {p : Pos} {f fa fb : Env → Mem → R U} (ht : PE X (.BinOp a op b p) (tU X.K XR W f)) (ha : PT X l (tT X.K XR W fa)) (hb : PT X r (tT X.K XR W fb)) : PT X (.IfExp (.BinOp a op b p) l r pos) (tT X.K XR W fun σ m => ((f σ m).bind asNz).bind fun c m1 => if c = true then fa σ m1 else fb σ m1) := by
  refine ⟨fun pins s σ H Q I ⟨Hf, ρ, ω, env, m, aa, o⟩ => ?_⟩
  dsimp only at o
  rw [R.bind_bind, R.bind_bind] at o
  show wpAny (model X.prog X.w) X.A (do if ← isTrue (.BinOp a op b p) X.env (eval (.BinOp a op b p) X.env) then isTrue l X.env (eval l X.env) else isTrue r X.env (eval r X.env)) (TP X pins σ Q) X.xe s
  refine wpAny_bind (wpAny_mono ((pt_truth ht (by intro _; rfl)).run pins s σ H (fun b H1 => if b = true then tT X.K XR W fa σ H1 Q else tT X.K XR W fb σ H1 Q) I ?_) (fun b s1 ⟨H1, I1, q⟩ => ?_) fun _ _ z => z)
  · obtain ⟨A, B, D, E, F', a1, o1⟩ := aa.bind (Rp' := RU X.K) o
    refine ⟨A, B, D, E, F', a1, o1.mono fun x H1 ⟨u, Hf1, ρ1, m1, p, a1, r1, o1⟩ => ?_⟩
    cases u with
    | ref i => exact (o1 : False).elim
    | dat d =>
      cases d with
      | int i =>
        cases r1.1
        simp only [asNz, R.bind_ok] at o1
        refine ⟨i != 0, rfl, ?_⟩
        cases hz : (i != 0) with
        | true => rw [hz] at o1; exact ⟨_, _, _, _, _, a1, o1⟩
        | false => rw [hz] at o1; exact ⟨_, _, _, _, _, a1, o1⟩
      | _ => exact (o1 : False).elim
  · cases b with
    | true => exact ha.run pins s1 σ H1 Q I1 q
    | false => exact hb.run pins s1 σ H1 Q I1 q
end
end Eng

set_option Elab.async false
set_option linter.all false
set_option maxRecDepth 100000
set_option maxHeartbeats 2000000
/-! Lists that may change, held by a list: made in a comprehension, popped. -/
namespace Eng
open PySem PySem.Spec PyProof.Rows L2
theorem DpAll.dropLastQ {K : PySem.W.Frag} {H : Hp} {ds : List PyData} {vs : List V} (h : DpAll K H vs ds) : DpAll K H vs.dropLast ds.dropLast := by
  rw [List.dropLast_eq_take, List.dropLast_eq_take, h.len]
  exact h.take _
section
variable {K : PySem.W.Frag} {H Hf : Hp} {ρ : List Addr} {m : Mem}
theorem pres_set (f : Fine K H Hf ρ m) {q : Nat} {a : Addr} {w : HO} (e : ρ[q]? = some a) : Pres H Hf ρ (upd H a w) Hf ρ :=
  ⟨Sub.refl _, ⟨[], by simp⟩, fun b o h h1 h2 => ⟨by rw [upd_ne fun z => h2 (by rw [z]; exact List.mem_of_getElem? e)]; exact h, h1, h2⟩⟩
/-- a free object is tracked from now on -/
theorem Fine.track (f : Fine K H Hf ρ m) {D : Addr} {ob : MObj} (fr : Hf D = none) (nt : D ∉ ρ) (hM : MAt K H Hf (ρ ++ [D]) D ob) : Fine K H Hf (ρ ++ [D]) (m ++ [ob]) := by
  refine ⟨f.sub, ?_, fun q hq => ?_, by rw [List.length_append, List.length_append, f.len]; rfl, fun i q ob2 e1 e2 => ?_⟩
  · rw [List.nodup_append]
    refine ⟨f.nd, by simp, fun q hq q' hq' e => nt ?_⟩
    have : q' = D := by simpa using hq'
    rw [← this, ← e]; exact hq
  · rcases List.mem_append.mp hq with z | z
    · exact f.un q z
    · rw [show q = D by simpa using z]; exact fr
  · by_cases hi : i < ρ.length
    · rw [List.getElem?_append_left hi] at e1
      rw [List.getElem?_append_left (by rw [← f.len]; exact hi)] at e2
      exact (f.at_ i q ob2 e1 e2).grow (fun _ e => e) (Sub.refl _) ⟨[D], rfl⟩
    · have hl := (List.getElem?_eq_some_iff.mp e1).1
      rw [List.length_append, List.length_singleton] at hl
      have : i = ρ.length := by omega
      subst this
      rw [List.getElem?_append_right (Nat.le_refl _), Nat.sub_self] at e1
      rw [f.len, List.getElem?_append_right (Nat.le_refl _), Nat.sub_self] at e2
      cases e1; cases e2
      exact hM
/-- the rows so far -/
structure RIn (K : PySem.W.Frag) (H1 Hf1 : Hp) (ρ1 : List Addr) (m1 : Mem) (D : Addr) (H Hf : Hp) (as : List Addr) (i : Nat) : Prop where
  pres : Pres H1 Hf1 ρ1 H Hf (ρ1 ++ as)
  fine : Fine K H Hf (ρ1 ++ as) (m1 ++ List.replicate i (.lst []))
  len : as.length = i
  at_ : H D = some (.lst (as.map V.ref))
  fr : Hf D = none
  nt : D ∉ ρ1 ++ as
theorem range'_get {s n j k : Nat} (h : (List.range' s n)[j]? = some k) : j < n ∧ k = s + j := by
  have hl := (List.getElem?_eq_some_iff.mp h).1
  rw [List.length_range'] at hl
  rw [List.getElem?_range' hl] at h
  cases h
  exact ⟨hl, by omega⟩
theorem rs_imp {XR : XRel} {W : WX} {fI : Env → Mem → R (List PyData)} {tg : Tg} {vs : List Nat} {σ : L2.St} {H : Hp} {Q : VK} (hs : ∀ i ∈ slotsTg tg, i ∈ vs)
    (h : tU K XR W (fun σ m => ((fI σ m).bind sizeU).bind fun ds m1 => rsGo tg (wipeE σ vs) ds m1) σ H Q) :
    tLc (tI K XR W fI) (gT K tg) (tC K XR none) (tLst tNil) vs σ H Q := by
  obtain ⟨Hf, ρ, ω, env, m, a, o⟩ := h
  dsimp only at o
  rw [R.bind_bind] at o
  refine ⟨Hf, ρ, ω, env, m, a, (OutE.bind (Rp' := RI K) o).mono fun J H1 ⟨ds, Hf1, ρ1, m1, p, f1, r, o1⟩ => ?_⟩
  obtain ⟨hJ, hz⟩ := r
  have a1 : At K H1 σ Hf1 ρ1 ω env m1 := a.pres p f1
  unfold sizeU at o1
  have hl : ds.length ≤ sizeLine := by
    by_cases hl : ds.length ≤ sizeLine
    · exact hl
    · rw [if_neg hl] at o1; exact (o1 : False).elim
  rw [if_pos hl, R.bind_ok] at o1
  unfold rsGo at o1
  split at o1
  case isFalse => exact (o1 : False).elim
  rename_i hall
  intro D hD
  refine ⟨fun i k H' => ∃ Hf' as, i ≤ ds.length ∧ k = ds.length - i ∧ RIn K H1 Hf1 ρ1 m1 D H' Hf' as i,
    ⟨_, Hf1, [], Nat.zero_le _, rfl, ⟨?_, ?_, rfl, upd_same, f1.sub.none hD, ?_⟩⟩, fun i k H' ⟨Hf', as, hi, hk, c⟩ => ?_⟩
  · rw [List.append_nil]; exact Pres.fresh hD
  · rw [List.append_nil, List.replicate_zero, List.append_nil]; exact f1.fresh hD
  · rw [List.append_nil]
    intro hm
    obtain ⟨o, e⟩ := f1.tracked hm
    rw [hD] at e; cases e
  by_cases he : i = ds.length
  · subst he
    refine .inl ⟨(hJ H' Hf' c.pres.fz c.fine.sub _).2 rfl, ?_⟩
    refine o1 _ H' Hf' ((ρ1 ++ as) ++ [D]) ⟨c.pres.fz, ⟨as ++ [D], by rw [List.append_assoc]⟩, fun b o hb h1 h2 => ?_⟩ (c.fine.track c.fr c.nt ⟨as, c.at_, fun j k q => ?_, by rw [List.length_range']; exact c.len⟩) ⟨D, ?_, rfl⟩
    · obtain ⟨q1, q2, q3⟩ := c.pres.kp b o hb h1 h2
      refine ⟨q1, q2, fun z => ?_⟩
      rcases List.mem_append.mp z with z | z
      · exact q3 z
      · have : b = D := by simpa using z
        rw [this, hD] at hb; cases hb
    · obtain ⟨hj, rfl⟩ := range'_get q
      have hja : j < as.length := by rw [c.len]; exact hj
      refine ⟨as[j], List.getElem?_eq_getElem hja, ?_⟩
      rw [List.append_assoc, ← f1.len, List.getElem?_append_right (by omega), show ρ1.length + j - ρ1.length = j by omega, List.getElem?_append_left hja]
      exact List.getElem?_eq_getElem hja
    · rw [List.getElem?_append_right (by rw [List.length_append, f1.len, c.len]; exact Nat.le_refl _), List.length_append, f1.len, c.len, Nat.sub_self]; rfl
  · have hlt : i < ds.length := by omega
    obtain ⟨hgo, hy⟩ := Pres.turn (hJ.mono c.pres.fz) c.fine (List.getElem?_eq_getElem hlt)
    have hzd : szOk ds[i] = true := szAll_iff.mp hz _ (List.getElem_mem hlt)
    refine .inr ⟨hgo, fun H' => ∃ Hf' as, RIn K H1 Hf1 ρ1 m1 D H' Hf' as (i + 1), fun H' ⟨Hf', as, c⟩ => ⟨_, (by omega : ds.length - (i + 1) < k), Hf', as, hlt, rfl, c⟩, fun x H2 hyl => ?_⟩
    obtain ⟨Hf2, p2, f2, hdp⟩ := hy x H2 hyl
    obtain ⟨env', g1⟩ := hall _ (List.getElem_mem hlt)
    have at2 := wipe_At a1 (c.pres.trans p2) f2 vs
    refine gT_ok at2 hdp hzd g1 fun σ2 a2 off => ⟨?_, ?_⟩
    · rw [wipe_off off (by rw [a2.slots.len, at2.slots.len]; exact asgTg_len g1) hs, wipe_wipe]
    have g2 : condGo (oQ (none : Option (Env → Mem → R U))) env' (m1 ++ List.replicate i (MObj.lst [])) = .ok true (m1 ++ List.replicate i (MObj.lst [])) := rfl
    refine tC_ok a2 g2 fun H3 Hf3 ρ3 p3 f3 => ?_
    obtain ⟨t, et⟩ := p3.pre
    have ht : t = [] := by
      have h1 := f3.len
      have h2 := f2.len
      rw [et, List.length_append, h2] at h1
      exact List.length_eq_zero_iff.mp (by omega)
    rw [ht, List.append_nil] at et
    subst et
    obtain ⟨d1, d2, d3⟩ := (p2.trans p3).kp _ _ c.at_ c.fr c.nt
    refine ⟨Nat.zero_le _, fun P hP => ?_⟩
    have hPD : P ≠ D := fun z => by rw [z, d1] at hP; cases hP
    obtain ⟨P0, F0⟩ := new_mem (a2.pres p3 f3) (w := .lst []) (ob' := .lst []) hP ⟨[], upd_same, .nil, rfl⟩
    have nt' : D ∉ (ρ1 ++ as) ++ [P] := fun z => by
      rcases List.mem_append.mp z with z | z
      · exact d3 z
      · exact hPD (by simpa using (show D = P by simpa using z).symm)
    refine ⟨as.map V.ref, by rw [upd_ne (Ne.symm hPD)]; exact d1, by rw [List.length_map, c.len]; omega, Hf3, as ++ [P], ⟨?_, ?_, ?_, ?_, d2, ?_⟩⟩
    · rw [← List.append_assoc]
      have PP := ((c.pres.trans p2).trans p3).trans P0
      refine ⟨PP.fz, ⟨as ++ [P], by rw [List.append_assoc]⟩, fun b o hb h1 h2 => ?_⟩
      obtain ⟨q1, q2, q3⟩ := PP.kp b o hb h1 h2
      exact ⟨by rw [upd_ne (ne_of_none hb hD)]; exact q1, q2, q3⟩
    · rw [← List.append_assoc, List.replicate_succ', ← List.append_assoc]
      exact F0.poke d2 nt'
    · rw [List.length_append, c.len]; rfl
    · rw [upd_same, List.map_append]; rfl
    · rw [← List.append_assoc]; exact nt'
end
section
variable {G : Cfg} {N : List Str} {C : Calls} {XR : XRel} {X : Cx} {W : WX} {c : Sc} {pos : Pos}
theorem rl_newRs (g : GX G N C XR X W c) {t i : Expr} {scope : Scope} {own : List (Str × Nat)} {tg : Tg} {lp : Pos} {fI : Env → Mem → R (List PyData)} (hI : PI X t i (tI X.K XR W fI)) (ok : blkC N c.sc scope own = true) (hp : pl i = true) (ht : okTg N (c.blk scope) tg t = true)
    (hs : (slotsTg tg).all (fun j => (own.map (·.2)).contains j) = true) :
    PE X (.ListComp (.List [] lp) [⟨t, i, [], 0⟩] scope pos) (tU X.K XR W fun σ m => ((fI σ m).bind sizeU).bind fun ds m1 => rsGo tg (wipeE σ (own.map (·.2))) ds m1) := by
  have hs' : ∀ i ∈ slotsTg tg, i ∈ own.map (·.2) := fun i hi => by
    have := List.all_eq_true.mp hs i hi
    simpa using this
  refine PE.imp (pe_lc (own := own) g.calm g.nd hI (blkOk_by (by rw [g.hN, g.sc]; exact ok)) (fun s H D cl fp => ?_) (fun s H D cl fp => pts_nil) (fun s H D cl fp => pe_lst pa_nil) (folded_pl hp)) fun σ H Q h => rs_imp hs' h
  exact pg_T (g.blk s H scope cl D fp) ht
theorem rl_popM (g : GX G N C XR X W c) {i : Nat} {x : Str} {p ap cp : Pos} (h1 : N[i]? = some x) (h2 : visB c x = true) (hl : (ap.endLine == cp.line) = true) :
    PE X (.Call (.Attribute (.Name x p) "pop" ap) [] [] cp) (tU X.K XR W fun σ m => popMGo σ i m) := by
  obtain ⟨v1, v2, v3⟩ := g.vis h2
  refine PE.imp (pe_bm0 PySem.F.plainAttrs_list PySem.F.slot_list_pop PySem.F.type_list_pop mt_pop (pe_var (i := i) (by rw [g.hN]; exact h1) v1 v2 v3) rfl hl) fun σ H Q ⟨Hf, ρ, ω, env, m, a, o⟩ => ?_
  simp only [popMGo] at o
  split at o
  case h_2 => exact (o : False).elim
  rename_i k ek
  split at o
  case h_2 => exact (o : False).elim
  rename_i xs em
  cases hd : xs.getLast? with
  | none => rw [hd] at o; exact (o : False).elim
  | some d =>
    rw [hd] at o
    simp only at o
    obtain ⟨v, q1, q, eq, rfl⟩ := a.slots.val i (.ref k) ek
    obtain ⟨vs, q4, q6, q5⟩ := a.fine.at_ k q _ eq em
    refine ⟨_, q1, .inl ⟨rfl, vs, .inl (.inl q4)⟩, ?_⟩
    have hd' : xs[xs.length - 1]? = some d := by rw [← List.getLast?_eq_getElem?]; exact hd
    obtain ⟨w, w1, w2⟩ := q6.get hd'
    refine ⟨q, vs, w, rfl, rfl, q4, by rw [q6.len]; exact w1, ?_⟩
    have hz : szOk (.list xs.dropLast) = true := by
      rw [sz_list] at q5 ⊢
      refine ⟨by rw [List.length_dropLast]; omega, szAll_iff.mpr fun d hd => szAll_iff.mp q5.2 d (List.dropLast_subset _ hd)⟩
    have hzd : szOk d = true := (szAll_iff.mp (sz_list.mp q5).2) d (List.mem_of_getElem? hd')
    exact o _ _ Hf ρ (pres_set a.fine eq) (fine_set a.fine eq ⟨_, upd_same, DpAll.dropLastQ q6, hz⟩) ⟨w2, hzd⟩
end
end Eng

set_option Elab.async false
set_option linter.all false
set_option maxRecDepth 100000
/-! Several except clauses that name what they caught. -/
namespace L2
open PySem PySem.Spec PyProof.Rows
/-- what the clauses wish of an exception of the body, one after the other; slot i is the name's -/
def wManyAs (K : PySem.W.Frag) (i : Nat) (Wout : WX) (D : Ends) : List (Value × (Addr → Value → Option Addr → TS)) → WX
  | [] => Wout
  | (c, ts) :: r => fun cls d σ H => ∃ b, PySem.W.exmOne K cls c = some b ∧ (b = true → ∀ a, H a = none → ts a cls d { nx := fun σ' H' => D.nx (σ'.set i none) H', rt := D.rt, bk := fun σ' H' => D.bk (σ'.set i none) H', ct := fun σ' H' => D.ct (σ'.set i none) H' } (σ.set i (some (.ref a))) H) ∧ (b = false → wManyAs K i Wout D r cls d σ H)
inductive HdsAs (X : Cx) (n : Str) : List ExceptHandler → List (Value × (Addr → Value → Option Addr → TS)) → Prop
  | nil : HdsAs X n [] []
  | cons {x : Str} {c : Value} {ts : Addr → Value → Option Addr → TS} {b₀ : Stmt} {suite : List Stmt} {np pos' : Pos} {hds : List ExceptHandler} {l : List (Value × (Addr → Value → Option Addr → TS))} (hc : Names X x c)
      (hsu : ∀ (a : Addr) (oe : Obj) (cls : Value) (d : Option Addr) (pn : List (Addr × Obj)), Zc cls d oe → (∃ vs, oe.data = .fields vs) → PSs (X.suite a ((a, oe) :: pn)) (b₀ :: suite) (ts a cls d)) (r : HdsAs X n hds l) :
      HdsAs X n (.ExceptHandler (some (.Name x np)) (some n) (b₀ :: suite) pos' :: hds) ((c, ts) :: l)
section
variable {X : Cx} {n : Str} {i : Nat} {body : List Stmt} {h₀ : ExceptHandler} {hds : List ExceptHandler} {l : List (Value × (Addr → Value → Option Addr → TS))} {pos : Pos} {tb : WX → TS} {Wout : WX}
end
end L2

set_option Elab.async false
set_option linter.all false
set_option maxRecDepth 100000
set_option maxHeartbeats 1000000
/-! An except suite. -/
namespace Eng
open PySem PySem.Spec PyProof.Rows L2
def endF (D : Ends) (K : PySem.W.Frag) (σ : L2.St) (H Hf : Hp) (ρ : List Addr) : F → Prop
  | .nx => D.nx σ H
  | .brk => D.bk σ H
  | .cnt => D.ct σ H
  | .ret u => ∀ v, RepU K Hf ρ v u → D.rt v H
/-- where an own error is held: at a, of the class at Ca, its dict d -/
structure AtX (K : PySem.W.Frag) (H : Hp) (σ : L2.St) (Hf : Hp) (ρ : List Addr) (ω : Nat → Addr) (env : Env) (m : Mem) (i : Nat) (a : Addr) (cls : Value) (d : Option Addr) (Ca : Addr) (fld : Str) (x : PyData) : Prop where
  at_ : At K H σ Hf ρ ω env m
  slot : σ[i]? = some (some (.ref a))
  cls : cls = .ref Ca
  xd : ∃ dd v, d = some dd ∧ Hf dd = some (.xd [(fld, v)]) ∧ RepU K Hf ρ v (.dat x)
section
variable {K : PySem.W.Frag} {H : Hp} {σ : L2.St} {Hf : Hp} {ρ : List Addr} {ω : Nat → Addr} {env : Env} {m : Mem} {i : Nat} {a : Addr} {cls : Value} {d : Option Addr} {Ca : Addr} {fld : Str} {x : PyData}
theorem AtX.pres (A : AtX K H σ Hf ρ ω env m i a cls d Ca fld x) {H1 Hf1 : Hp} {ρ1 : List Addr} (p : Pres H Hf ρ H1 Hf1 ρ1) (f : Fine K H1 Hf1 ρ1 m) : AtX K H1 σ Hf1 ρ1 ω env m i a cls d Ca fld x := by
  obtain ⟨dd, v, h1, h2, h3⟩ := A.xd
  exact ⟨A.at_.pres p f, A.slot, A.cls, dd, v, h1, p.fz _ _ h2, h3.pres p⟩
def OutX (K : PySem.W.Frag) (H Hf : Hp) (ρ : List Addr) (m : Mem) (r : Option PyData) (Q : VK) : Prop := ∃ z, r = some z ∧ ∀ v H' Hf' ρ', Pres H Hf ρ H' Hf' ρ' → Fine K H' Hf' ρ' m → RepU K Hf' ρ' v (.dat z) → Q v H'
def OutXs (K : PySem.W.Frag) (H Hf : Hp) (ρ : List Addr) (m : Mem) (r : Option (List PyData)) (Q : List V → Hp → Prop) : Prop := ∃ zs, r = some zs ∧ ∀ vs H' Hf' ρ', Pres H Hf ρ H' Hf' ρ' → Fine K H' Hf' ρ' m → RUs K Hf' ρ' vs (zs.map U.dat) → Q vs H'
def OutXB (K : PySem.W.Frag) (H Hf : Hp) (ρ : List Addr) (m : Mem) (r : Option Bool) (Q : Bool → Hp → Prop) : Prop := ∃ b, r = some b ∧ ∀ H' Hf' ρ', Pres H Hf ρ H' Hf' ρ' → Fine K H' Hf' ρ' m → Q b H'
def tX (K : PySem.W.Frag) (i : Nat) (a : Addr) (cls : Value) (d : Option Addr) (Ca : Addr) (fld : Str) (f : PyData → Env → Option PyData) : TE := fun σ H Q => ∃ Hf ρ ω env m x, AtX K H σ Hf ρ ω env m i a cls d Ca fld x ∧ OutX K H Hf ρ m (f x env) Q
def tXs (K : PySem.W.Frag) (i : Nat) (a : Addr) (cls : Value) (d : Option Addr) (Ca : Addr) (fld : Str) (f : PyData → Env → Option (List PyData)) : TA := fun σ H Q => ∃ Hf ρ ω env m x, AtX K H σ Hf ρ ω env m i a cls d Ca fld x ∧ OutXs K H Hf ρ m (f x env) Q
def tXB (K : PySem.W.Frag) (i : Nat) (a : Addr) (cls : Value) (d : Option Addr) (Ca : Addr) (fld : Str) (f : PyData → Env → Option Bool) : TT := fun σ H Q => ∃ Hf ρ ω env m x, AtX K H σ Hf ρ ω env m i a cls d Ca fld x ∧ OutXB K H Hf ρ m (f x env) Q
theorem OutX.bind {f : PyData → Option PyData} {r : Option PyData} {Q : VK} (h : OutX K H Hf ρ m (r.bind f) Q) : OutX K H Hf ρ m r fun v H1 => ∃ z Hf1 ρ1, Pres H Hf ρ H1 Hf1 ρ1 ∧ Fine K H1 Hf1 ρ1 m ∧ RepU K Hf1 ρ1 v (.dat z) ∧ OutX K H1 Hf1 ρ1 m (f z) Q ∧ r = some z := by
  obtain ⟨y, e, q⟩ := h
  rw [Option.bind_eq_some_iff] at e
  obtain ⟨z, e1, e2⟩ := e
  exact ⟨z, e1, fun v H' Hf' ρ' p f' r' => ⟨z, Hf', ρ', p, f', r', ⟨y, e2, fun v H2 Hf2 ρ2 p2 f2 r2 => q v H2 Hf2 ρ2 (p.trans p2) f2 r2⟩, e1⟩⟩
end
section
variable {G : Cfg} {N : List Str} {C : Calls} {XR : XRel} {X : Cx} {W : WX} {c : Sc} {i k : Nat} {a Ca : Addr} {cls : Value} {d : Option Addr} {oe : Obj} {pn : List (Addr × Obj)} {n fld : Str} {nm : Str}
theorem datL_map : ∀ zs : List PyData, datL (zs.map U.dat) = some zs
  | [] => rfl
  | z :: zs => by
    have ih := datL_map zs
    rw [List.map_cons]
    simp only [datL, ih, Option.map_some]
theorem hEs_len {x : PyData} {σ : Env} : ∀ {es : HEs} {l : List Expr} {zs : List PyData}, okHEs G N c n fld k es l = true → hEs es x σ = some zs → zs.length = l.length
  | .nil, l, zs, h, e => by
    cases l with
    | nil => cases e; rfl
    | cons _ _ => simp [okHEs] at h
  | .cons e0 es, l, zs, h, e => by
    cases l with
    | nil => simp [okHEs] at h
    | cons y r =>
      simp only [okHEs, Bool.and_eq_true] at h
      simp only [hEs, Option.bind_eq_some_iff, Option.map_eq_some_iff] at e
      obtain ⟨z, e2, zr, e3, rfl⟩ := e
      rw [List.length_cons, List.length_cons, hEs_len h.2 e3]
variable (g : GX G N C XR X W c) (hn : N[i]? = some n) (hln : c.sc.names.lookup n = some .local) (hv : visB c n = true) (T : EngX.OwnTxt X.prog X.K X.mg nm fld Ca fI) (hk : G.cl[k]? = some (nm, fld)) (hz : Zc cls d oe) (hf : ∃ vs, oe.data = .fields vs)
include g hn hv T hk hz hf
mutual
theorem sndHE : ∀ (e : HE) {s : Expr}, okHE G N c n fld k e s = true → PE (X.suite a ((a, oe) :: pn)) s (tX X.K i a cls d Ca fld (hE e))
  | .cst z, s, h => by
    simp only [okHE] at h; split at h
    · obtain ⟨v, h1, h2, h3⟩ := cst_pe h
      exact PE.imp h1 fun σ H Q ⟨Hf, ρ, ω, env, m, x, A, z', e, q⟩ => by
        cases e
        exact q v H Hf ρ (Pres.refl _ _ _) A.at_.fine ⟨h2 _, h3⟩
    · cases h
  | .fld, s, h => by
    simp only [okHE] at h; split at h
    · simp only [Bool.and_eq_true, decide_eq_true_eq] at h
      obtain ⟨rfl, rfl⟩ := h
      obtain ⟨v1, v2, v3⟩ := g.vis hv
      refine PE.imp (pe_xf T.xf T.noN hz hf (pe_var (i := i) (by rw [g.hN]; exact hn) v1 v2 v3) (by rfl)) fun σ H Q ⟨Hf, ρ, ω, env, m, x, A, z', e, q⟩ => ?_
      cases e
      obtain ⟨dd, v, h1, h2, h3⟩ := A.xd
      refine ⟨.ref a, A.slot, rfl, A.cls, dd, _, v, h1, A.at_.fine.sub _ _ h2, by simp [List.lookup], q v H Hf ρ (Pres.refl _ _ _) A.at_.fine h3⟩
    · cases h
  | .var j, s, h => by
    simp only [okHE] at h; split at h
    · simp only [Bool.and_eq_true, decide_eq_true_eq] at h
      obtain ⟨h1, h2⟩ := h
      obtain ⟨v1, v2, v3⟩ := g.vis h2
      refine PE.imp (pe_var (i := j) (by rw [g.hN]; exact h1) v1 v2 v3) fun σ H Q ⟨Hf, ρ, ω, env, m, x, A, z', e, q⟩ => ?_
      simp only [hE] at e
      split at e
      · rename_i y ey
        cases e
        obtain ⟨v, e1, r⟩ := A.at_.slots.val j _ ey
        exact ⟨v, e1, q v H Hf ρ (Pres.refl _ _ _) A.at_.fine r⟩
      · cases e
    · cases h
  | .rep e, s, h => by
    simp only [okHE] at h; split at h
    · simp only [Bool.and_eq_true, decide_eq_true_eq] at h
      obtain ⟨⟨⟨rfl, h2⟩, h3⟩, h4⟩ := h
      obtain ⟨q1, q2⟩ := g.glo h2
      have hm : X.mg "repr" = none := g.bn _ (by decide)
      have ih := sndHE e h3
      refine PE.imp (pe_callB (X := X.suite a ((a, oe) :: pn)) (cr_repr g.gd (by have := g.un; show X.A.units + 64 < cLine; omega)) q1 hm (by decide +kernel) (pa_cons ih pa_nil (star_pl h4)) (by decide) q2 (star_pl h4)) fun σ H Q ⟨Hf, ρ, ω, env, m, x, A, o⟩ => ?_
      simp only [hE] at o
      refine ⟨Hf, ρ, ω, env, m, x, A, ?_⟩
      obtain ⟨z, e1, q⟩ := OutX.bind o
      refine ⟨z, e1, fun v H' Hf' ρ' p f r => ?_⟩
      obtain ⟨z2, Hf1, ρ1, p1, f1, r1, ⟨y, hy, qq⟩, e2⟩ := q v H' Hf' ρ' p f r
      have hy' : (if z2.showable && decide (z2.shown.length ≤ sizeLine) && decide (z2.depth ≤ 60) then some (.str z2.shown) else none) = some y := by
        rw [← hy]; cases z2 <;> rfl
      split at hy'
      · rename_i hh
        simp only [Bool.and_eq_true, decide_eq_true_eq] at hh
        cases hy'
        refine ⟨v, z2, rfl, r1.1.mono f1.sub, r1.2, hh.1.1, hh.1.2, hh.2, qq _ H' Hf1 ρ1 (Pres.refl _ _ _) f1 ⟨.str _, ?_⟩⟩
        simp only [szOk, decide_eq_true_eq]
        exact hh.1.2
      · cases hy'
    · cases h
  | .isx D b, s, h => by
    simp only [okHE] at h; split at h
    · simp only [Bool.and_eq_true, decide_eq_true_eq, List.any_eq_true] at h
      obtain ⟨⟨⟨⟨⟨rfl, h2⟩, rfl⟩, rfl⟩, h5⟩, p, h6, rfl⟩ := h
      obtain ⟨q1, q2⟩ := g.glo h2
      obtain ⟨q3, q4⟩ := g.glo h5
      obtain ⟨v1, v2, v3⟩ := g.vis hv
      have hm : X.mg "isinstance" = none := g.bn _ (by decide)
      obtain ⟨Cd, m1, m2, m3⟩ := g.xt.isx _ _ _ _ _ h6 hk T.gC
      by_cases hcl : cls = .ref Ca
      · subst hcl
        refine PE.imp (pe_callB (X := X.suite a ((a, oe) :: pn)) (call_isX m3 hz hf) q1 hm (by decide +kernel) (pa_cons (pe_var (i := i) (by rw [show (X.suite a ((a, oe) :: pn)).N = N from g.hN]; exact hn) v1 v2 v3) (pa_cons (pe_glob (v := .ref Cd) q3 m1 rfl q4) pa_nil (by rfl)) (by rfl)) (by decide) q2 (by rfl) (by rfl)) fun σ H Q ⟨Hf, ρ, ω, env, m, x, A, z', e, q⟩ => ?_
        cases e
        obtain ⟨dd, v, h1, h2, h3⟩ := A.xd
        exact ⟨.ref a, A.slot, .ref Cd, .ref Cd, b, dd, _, rfl, h1, A.at_.fine.sub _ _ h2, fun u r => r, m2, q (.bl b) H Hf ρ (Pres.refl _ _ _) A.at_.fine ⟨.bl _, rfl⟩⟩
      · exact pe_never fun σ H Q ⟨Hf, ρ, ω, env, m, x, A, _⟩ => hcl A.cls
    · cases h
  | .tup es, s, h => by
    simp only [okHE] at h; split at h
    · simp only [Bool.and_eq_true, decide_eq_true_eq] at h
      have ih := sndHEs es h.1
      refine PE.imp (pe_tup ih) fun σ H Q ⟨Hf, ρ, ω, env, m, x, A, y, e, q⟩ => ?_
      simp only [hE, Option.map_eq_some_iff] at e
      obtain ⟨zs, e1, rfl⟩ := e
      refine ⟨Hf, ρ, ω, env, m, x, A, zs, e1, fun vs H' Hf' ρ' p f r => ?_⟩
      have hlen := hEs_len h.1 e1
      have hl1 := r.len
      rw [List.length_map] at hl1
      have hsm := small1001 h.2
      obtain ⟨h1, h2⟩ := r.dats (datL_map zs)
      refine ⟨by omega, fun b hb => ?_⟩
      have hfb := f.sub.none hb
      exact q (.ref b) _ _ _ (p.trans (Pres.new hb f.sub)) (f.new hb) ⟨.tup (.inl (.inl upd_same)) (DpAll.mono (Sub.new hfb) _ _ h1), sz_tuple.mpr ⟨by omega, h2⟩⟩
    · cases h
  | .lst es, s, h => by
    simp only [okHE] at h; split at h
    · simp only [Bool.and_eq_true, decide_eq_true_eq] at h
      have ih := sndHEs es h.1
      refine PE.imp (pe_lst ih) fun σ H Q ⟨Hf, ρ, ω, env, m, x, A, y, e, q⟩ => ?_
      simp only [hE, Option.map_eq_some_iff] at e
      obtain ⟨zs, e1, rfl⟩ := e
      refine ⟨Hf, ρ, ω, env, m, x, A, zs, e1, fun vs H' Hf' ρ' p f r => ?_⟩
      have hlen := hEs_len h.1 e1
      have hl1 := r.len
      rw [List.length_map] at hl1
      have hsm := small1001 h.2
      obtain ⟨h1, h2⟩ := r.dats (datL_map zs)
      refine ⟨by omega, fun b hb => ?_⟩
      have hfb := f.sub.none hb
      exact q (.ref b) _ _ _ (p.trans (Pres.new hb f.sub)) (f.new hb) ⟨.lst (.inl (.inl upd_same)) (DpAll.mono (Sub.new hfb) _ _ h1), sz_list.mpr ⟨by omega, h2⟩⟩
    · cases h
  | .cmp o p q, s, h => by
    simp only [okHE] at h; split at h
    · simp only [Bool.and_eq_true] at h
      obtain ⟨⟨⟨h0, h1⟩, h2⟩, h3⟩ := h
      refine PE.imp (pe_cmpR (op_cmp (X := X.suite a ((a, oe) :: pn)) (by have := g.un; show X.A.units + 64 < cLine; omega) o _ h0) (sndHE p h1) (sndHE q h2) (mark_pl h3)) fun σ H Q ⟨Hf, ρ, ω, env, m, x, A, y, e, k0⟩ => ?_
      simp only [hE, Option.bind_eq_some_iff] at e
      obtain ⟨z1, e1, z2, e2, e3⟩ := e
      refine ⟨Hf, ρ, ω, env, m, x, A, z1, e1, fun v H1 Hf1 ρ1 p1 f1 r1 => ?_⟩
      have A1 := A.pres p1 f1
      refine ⟨Hf1, ρ1, ω, env, m, x, A1, z2, e2, fun w H2 Hf2 ρ2 p2 f2 r2 => ?_⟩
      have A2 := A1.pres p2 f2
      exact ⟨Hf2, ρ2, ω, σ, env, m, z1, z2, y, A2.at_, .inl (r1.pres p2), .inl r2, e3, fun v3 H3 Hf3 ρ3 p3 f3 r3 => k0 v3 H3 Hf3 ρ3 ((p1.trans p2).trans p3) f3 r3⟩
    · cases h
  | .and p q, s, h => by
    have fin : PE (X.suite a ((a, oe) :: pn)) s (tAndV (tX X.K i a cls d Ca fld (hE p)) (tX X.K i a cls d Ca fld (hE q))) → PE (X.suite a ((a, oe) :: pn)) s (tX X.K i a cls d Ca fld (hE (.and p q))) := fun l => by
      refine PE.imp l fun σ H Q ⟨Hf, ρ, ω, env, m, x, A, y, e, k0⟩ => ?_
      simp only [hE, Option.bind_eq_some_iff] at e
      obtain ⟨z, e1, e2⟩ := e
      refine ⟨Hf, ρ, ω, env, m, x, A, z, e1, fun v H1 Hf1 ρ1 p1 f1 r1 => ?_⟩
      cases z with
      | bool b =>
        cases r1.1
        refine ⟨b, rfl, ?_⟩
        cases b with
        | true =>
          rw [if_pos rfl]
          exact ⟨Hf1, ρ1, ω, env, m, x, A.pres p1 f1, y, e2, fun v H2 Hf2 ρ2 p2 f2 r2 => k0 v H2 Hf2 ρ2 (p1.trans p2) f2 r2⟩
        | false =>
          rw [if_neg (by simp)]
          cases e2
          exact k0 _ H1 Hf1 ρ1 p1 f1 ⟨.bl _, rfl⟩
      | _ => cases e2
    simp only [okHE] at h; split at h
    · simp only [Bool.and_eq_true] at h
      exact fin (pe_and (sndHE p h.1) (pe_one (op := .And) (sndHE q h.2)))
    · simp only [Bool.and_eq_true] at h
      exact fin (pe_and (sndHE p h.1) (sndHE q h.2))
    · cases h
  | .nt p, s, h => by
    simp only [okHE] at h; split at h
    · refine PE.imp (pe_not (sndHE p h)) fun σ H Q ⟨Hf, ρ, ω, env, m, x, A, y, e, k0⟩ => ?_
      simp only [hE, Option.bind_eq_some_iff] at e
      obtain ⟨z, e1, e2⟩ := e
      refine ⟨Hf, ρ, ω, env, m, x, A, z, e1, fun v H1 Hf1 ρ1 p1 f1 r1 => ?_⟩
      cases z with
      | bool b =>
        cases r1.1
        cases e2
        exact ⟨b, rfl, k0 _ H1 Hf1 ρ1 p1 f1 ⟨.bl _, rfl⟩⟩
      | _ => cases e2
    · cases h
theorem sndHEs : ∀ (es : HEs) {l : List Expr}, okHEs G N c n fld k es l = true → PA (X.suite a ((a, oe) :: pn)) l (tXs X.K i a cls d Ca fld (hEs es))
  | .nil, l, h => by
    cases l with
    | nil =>
      refine PA.imp pa_nil fun σ H Q ⟨Hf, ρ, ω, env, m, x, A, zs, e, q⟩ => ?_
      cases e
      exact q [] H Hf ρ (Pres.refl _ _ _) A.at_.fine trivial
    | cons _ _ => simp [okHEs] at h
  | .cons e es, l, h => by
    cases l with
    | nil => simp [okHEs] at h
    | cons y r =>
      simp only [okHEs, Bool.and_eq_true] at h
      obtain ⟨⟨h1, h2⟩, h3⟩ := h
      refine PA.imp (pa_cons (sndHE e h1) (sndHEs es h3) (star_pl h2)) fun σ H Q ⟨Hf, ρ, ω, env, m, x, A, zs, e1, q⟩ => ?_
      simp only [hEs, Option.bind_eq_some_iff, Option.map_eq_some_iff] at e1
      obtain ⟨z, e2, zr, e3, rfl⟩ := e1
      refine ⟨Hf, ρ, ω, env, m, x, A, z, e2, fun v H' Hf' ρ' p f r1 => ?_⟩
      refine ⟨Hf', ρ', ω, env, m, x, A.pres p f, zr, e3, fun vs H2 Hf2 ρ2 p2 f2 r2 => ?_⟩
      exact q (v :: vs) H2 Hf2 ρ2 (p.trans p2) f2 ⟨r1.pres p2, r2⟩
end
/-- where a suite goes -/
def tHS (K : PySem.W.Frag) (i : Nat) (a : Addr) (cls : Value) (d : Option Addr) (Ca : Addr) (fld : Str) (hs : List HS) : TS := fun D σ H => ∃ Hf ρ ω env m x, AtX K H σ Hf ρ ω env m i a cls d Ca fld x ∧ ∃ fl, hSs hs x env = some fl ∧
  ∀ H' Hf' ρ', Pres H Hf ρ H' Hf' ρ' → Fine K H' Hf' ρ' m → endF D K σ H' Hf' ρ' fl
end
end Eng

set_option Elab.async false
set_option linter.all false
set_option maxRecDepth 100000
set_option maxHeartbeats 2000000
/-! A lambda handed to a def that calls it within a try. -/
namespace LamX
open PySem PySem.Spec PyProof.Rows L2
/-- what the making of a lambda does to the abstract heap -/
def LamStep (P : Addr) (q : Str) (H H1 : Hp) : Prop := H1 = H ∨ ∃ (ps more : Array Value) (c' : Addr), H P = some (.tbl ps) ∧ H c' = none ∧ H1 = upd (upd H P (.tbl (ps ++ more))) c' (CodeO c' q) ∧ TriplesOk (ps ++ more).toList ∧
  ∀ (pos : Pos) (cv : Value), codeAmong pos (ps ++ more).toList = some cv → codeAmong pos ps.toList = some cv ∨ cv = .ref c'
section
variable {X : Cx} {pins : List (Addr × Obj)} {σ : L2.St} {H HZ : Hp} {s s1 : Shared}
end
end LamX
namespace Eng
open PySem PySem.Spec PyProof.Rows L2 LamX
section
variable {G : Cfg} {N : List Str} {C : Calls} {XR : XRel} {X : Cx} {W : WX} {c : Sc}
mutual
theorem hE_rep {x d : PyData} {n : Nat} : ∀ {e : HE}, hE e x [] = some d → hE e x (List.replicate n .no) = some d
  | .cst _, h => h
  | .fld, h => h
  | .var j, h => by simp [hE] at h
  | .rep e, h => by
    simp only [hE, Option.bind_eq_some_iff] at h ⊢
    obtain ⟨z, h1, h2⟩ := h
    exact ⟨z, hE_rep h1, h2⟩
  | .isx _ _, h => h
  | .tup es, h => by
    simp only [hE, Option.map_eq_some_iff] at h ⊢
    obtain ⟨z, h1, h2⟩ := h
    exact ⟨z, hEs_rep h1, h2⟩
  | .lst es, h => by
    simp only [hE, Option.map_eq_some_iff] at h ⊢
    obtain ⟨z, h1, h2⟩ := h
    exact ⟨z, hEs_rep h1, h2⟩
  | .cmp o a b, h => by
    simp only [hE, Option.bind_eq_some_iff] at h ⊢
    obtain ⟨z, h1, z2, h2, h3⟩ := h
    exact ⟨z, hE_rep h1, z2, hE_rep h2, h3⟩
  | .and a b, h => by
    simp only [hE, Option.bind_eq_some_iff] at h ⊢
    obtain ⟨z, h1, h2⟩ := h
    refine ⟨z, hE_rep h1, ?_⟩
    split at h2
    · exact hE_rep h2
    · exact h2
    · cases h2
  | .nt a, h => by
    simp only [hE, Option.bind_eq_some_iff] at h ⊢
    obtain ⟨z, h1, h2⟩ := h
    exact ⟨z, hE_rep h1, h2⟩
theorem hEs_rep {x : PyData} {ds : List PyData} {n : Nat} : ∀ {es : HEs}, hEs es x [] = some ds → hEs es x (List.replicate n .no) = some ds
  | .nil, h => h
  | .cons e es, h => by
    simp only [hEs, Option.bind_eq_some_iff, Option.map_eq_some_iff] at h ⊢
    obtain ⟨z, h1, z2, h2, h3⟩ := h
    exact ⟨z, hE_rep h1, z2, hEs_rep h2, h3⟩
end
/-- what becomes of the value that was got -/
def endM (K : PySem.W.Frag) (md : HM) (D : Ends) (σ : L2.St) (v : V) (H : Hp) : Prop := match md with
  | .ret => D.rt v H
  | .exp => D.nx σ H
  | .exr d => ∀ w, (∀ H, Dp K H w d) → szOk d = true → D.rt w H
  | .tup z => ∀ w, (∀ H, Dp K H w (.str z)) → szOk (.str z) = true → ∀ p, H p = none → D.rt (.ref p) (upd H p (.tup [w, v]))
  | .lst z => ∀ w, (∀ H, Dp K H w (.str z)) → szOk (.str z) = true → ∀ p, H p = none → D.rt (.ref p) (upd H p (.lst [w, v]))
def tMd (K : PySem.W.Frag) (md : HM) (f c' : Addr) (q : Str) (tl : XK → Hp → VK → Prop) (W : WX) : TS := fun D σ H => ∃ Ech : XK, (∀ cls d σ' H', Ech cls d H' → σ'.length = 2 → W cls d σ' H') ∧ σ[0]? = some (some (.ref f)) ∧ H c' = some (CodeO c' q) ∧ tl Ech H (endM K md D σ)
/-- what is asked of the lambda's reading -/
def TTh (K : PySem.W.Frag) (XR : XRel) (fe : Env → Mem → R U) (hd : HD) : (XK → Hp → VK → Prop) → Hp → VK → Prop := fun tl H Q => ∃ (σ : L2.St) (Hf : Hp) (ρ : List Addr) (ω : Nat → Addr) (env : Env) (m : Mem) (u : U) (m' : Mem), At K H σ Hf ρ ω env m ∧
  tl = (fun E H' Q' => tU K XR (fun cls d _ H => E cls d H) fe σ H' Q') ∧ hearGo hd (fe env m) = .ok u m' ∧ ∀ v H' Hf' ρ', Pres H Hf ρ H' Hf' ρ' → Fine K H' Hf' ρ' m' → RepU K Hf' ρ' v u → Q v H'
end
end Eng

set_option Elab.async false
set_option linter.all false
set_option maxRecDepth 100000
set_option maxHeartbeats 1000000
/-! xs.index(d) -/
namespace Eng
open PySem PySem.Spec PyProof.Rows L2
variable {G : Cfg} {N : List Str} {C : Calls} {XR : XRel} {X : Cx} {W : WX} {c : Sc}
end Eng

set_option Elab.async false
set_option linter.all false
set_option maxRecDepth 100000
set_option maxHeartbeats 4000000
/-! Expressions: THE LAW. -/
namespace Eng
open PySem PySem.Spec PyProof.Rows L2
section
variable {G : Cfg} {N : List Str} {C : Calls} {XR : XRel}
mutual
theorem snd : ∀ (e : E) {X : Cx} {W : WX} {c : Sc} {s : Expr}, GX G N C XR X W c → okE G N e c s = true → Both X XR W s (evE C e)
  | .cst d, X, W, c, s, g, h => by
    simp only [okE] at h; split at h
    · obtain ⟨v, h1, h2, h3⟩ := cst_pe h
      exact both (pe_sc h1 h2 h3 fun _ _ => rfl) fun _ => rfl
    · cases h
  | .glb x d, X, W, c, s, g, h => by
    simp only [okE] at h; split at h
    · rename_i y p
      simp only [Bool.and_eq_true, decide_eq_true_eq, List.any_eq_true] at h
      obtain ⟨⟨rfl, h2⟩, q, h3, h4, h5⟩ := h
      obtain ⟨q1, q2⟩ := g.glo h2
      obtain ⟨x', d'⟩ := q
      simp only at h4 h5
      subst h4
      obtain ⟨u, e1, e2⟩ := g.gl _ _ h3
      obtain ⟨z, z1, z2, z3⟩ := e2 d h5
      exact both (pe_sc (pe_glob q1 e1 z1 q2) z2 z3 fun _ _ => rfl) fun _ => rfl
    · cases h
  | .var i, X, W, c, s, g, h => by
    simp only [okE] at h; split at h
    · simp only [Bool.and_eq_true, decide_eq_true_eq] at h
      exact both (pe_nameU g h.1 h.2) fun _ => rfl
    · cases h
  | .bv i, X, W, c, s, g, h => ⟨pe_never (bad_never fun _ _ => rfl), pt_bad fun σ H Q ⟨Hf, ρ, ω, env, m, a, o⟩ => o⟩
  | .tup es, X, W, c, s, g, h => by
    simp only [okE] at h; split at h
    · simp only [Bool.and_eq_true, decide_eq_true_eq] at h
      exact both (rl_tup (sndA es g h.1) fun σ m us m' hu => by rw [evEs_len' h.1 hu]; exact h.2) fun _ => rfl
    · cases h
  | .lst es, X, W, c, s, g, h => by
    simp only [okE] at h; split at h
    · simp only [Bool.and_eq_true, decide_eq_true_eq] at h
      exact both (PE.frz (rl_lst (sndA es g h.1) fun σ m us m' hu => by rw [evEs_len' h.1 hu]; exact h.2)) fun _ => rfl
    · cases h
  | .newl es, X, W, c, s, g, h => by
    simp only [okE] at h; split at h
    · simp only [Bool.and_eq_true, decide_eq_true_eq] at h
      exact both (rl_newl (sndA es g h.1) fun σ m us m' hu => by rw [evEs_len' h.1 hu]; exact h.2) fun _ => rfl
    · cases h
  | .lmul es k, X, W, c, s, g, h => by
    simp only [okE] at h; split at h
    · simp only [Bool.and_eq_true, decide_eq_true_eq] at h
      obtain ⟨⟨h1, h2⟩, h3⟩ := h
      exact both (PE.frz (rl_lmul (rl_lst (sndA es g h1) fun σ m us m' hu => by rw [evEs_len' h1 hu]; exact h2) (snd k g h3).1)) fun _ => rfl
    · cases h
  | .sortk a, X, W, c, s, g, h => by simp [okE] at h
  | .sset a, X, W, c, s, g, h => by simp [okE] at h
  | .dget i es, X, W, c, s, g, h => by simp [okE] at h
  | .newD1 k v, X, W, c, s, g, h => by simp [okE] at h
  | .keysl a, X, W, c, s, g, h => by simp [okE] at h
  | .hear xs x y hd e, X, W, c, s, g, h => by simp [okE] at h
  | .idx a b, X, W, c, s, g, h => by simp [okE] at h
  | .dictP a, X, W, c, s, g, h => by simp [okE] at h
  | .lrng a, X, W, c, s, g, h => by simp [okE] at h
  | .dlen a, X, W, c, s, g, h => by simp [okE] at h
  | .newD, X, W, c, s, g, h => by simp [okE] at h
  | .din n a b, X, W, c, s, g, h => by simp [okE] at h
  | .bin o a b, X, W, c, s, g, h => by
    simp only [okE] at h; split at h
    · simp only [Bool.and_eq_true] at h
      obtain ⟨⟨h1, h2⟩, h3⟩ := h
      exact both (rl_op (sndB g h2 (snd a g h2).1) (sndB g h3 (snd b g h3).1) (op_bin o _ h1)) fun _ => rfl
    · cases h
  | .ladd a b, X, W, c, s, g, h => by
    simp only [okE] at h; split at h
    · simp only [Bool.and_eq_true] at h
      exact both (PE.frz (rl_ladd (sndB g h.1 (snd a g h.1).1) (sndB g h.2 (snd b g h.2).1))) fun _ => rfl
    · cases h
  | .neg a, X, W, c, s, g, h => by
    simp only [okE] at h; split at h
    · exact both (rl_neg (snd a g h).1) fun _ => rfl
    · cases h
  | .not a, X, W, c, s, g, h => by
    simp only [okE] at h; split at h
    · exact ⟨rl_not (snd a g h).2 (snd a g h).1, rt_not (snd a g h).2⟩
    · cases h
  | .and a b, X, W, c, s, g, h => by
    simp only [okE] at h; split at h
    · simp only [Bool.and_eq_true] at h
      exact ⟨rl_and (snd a g h.1).1 (pe_one (snd b g h.2).1), (rt_and (snd a g h.1).2 (pw_and1 (snd b g h.2).2)).pt⟩
    · simp only [Bool.and_eq_true] at h
      exact ⟨rl_and (snd a g h.1).1 (snd b g h.2).1, (rt_and (snd a g h.1).2 (pw_any (snd b g h.2).2)).pt⟩
    · cases h
  | .or a b, X, W, c, s, g, h => by
    simp only [okE] at h; split at h
    · simp only [Bool.and_eq_true] at h
      exact ⟨rl_or (snd a g h.1).1 (pe_one (snd b g h.2).1), (rt_or (snd a g h.1).2 (pw_or1 (snd b g h.2).2)).pt⟩
    · simp only [Bool.and_eq_true] at h
      exact ⟨rl_or (snd a g h.1).1 (snd b g h.2).1, (rt_or (snd a g h.1).2 (pw_any (snd b g h.2).2)).pt⟩
    · cases h
  | .cmp o a b, X, W, c, s, g, h => by
    simp only [okE] at h; split at h
    · simp only [Bool.and_eq_true] at h
      obtain ⟨⟨⟨h1, h2⟩, h3⟩, h4⟩ := h
      have hu : X.A.units + 64 < cLine := by have := g.un; omega
      exact ⟨rl_cmp (sndB g h2 (snd a g h2).1) (sndB g h3 (snd b g h3).1) (op_cmp hu o _ h1) h4, rt_cmp (sndB g h2 (snd a g h2).1) (sndB g h3 (snd b g h3).1) (op_cmp hu o _ h1) h4⟩
    · cases h
  | .chain o o' a b d, X, W, c, s, g, h => by
    simp only [okE] at h; split at h
    · simp only [Bool.and_eq_true] at h
      obtain ⟨⟨⟨⟨⟨⟨h1, h2⟩, h3⟩, h4⟩, h5⟩, h6⟩, h7⟩ := h
      have hu : X.A.units + 64 < cLine := by have := g.un; omega
      exact ⟨rl_chain (sndB g h3 (snd a g h3).1) (sndB g h4 (snd b g h4).1) (sndB g h5 (snd d g h5).1) (op_cmp hu o _ h1) (op_cmp hu o' _ h2) h7, rt_chain (sndB g h3 (snd a g h3).1) (sndB g h4 (snd b g h4).1) (sndB g h5 (snd d g h5).1) (op_cmp hu o _ h1) (op_cmp hu o' _ h2) h7⟩
    · cases h
  | .iteN t a b, X, W, c, s, g, h => by
    simp only [okE] at h; split at h
    · rename_i l o r p y z pos
      simp only [Bool.and_eq_true] at h
      obtain ⟨⟨h1, h2⟩, h3⟩ := h
      exact ⟨rl_iteN (pos := pos) (snd t g h1).1 (snd a g h2).1 (snd b g h3).1, rt_iteN (pos := pos) (snd t g h1).1 (snd a g h2).2 (snd b g h3).2⟩
    · cases h
  | .ite t a b, X, W, c, s, g, h => by
    simp only [okE] at h; split at h
    · simp only [Bool.and_eq_true] at h
      obtain ⟨⟨h1, h2⟩, h3⟩ := h
      exact ⟨rl_ite (snd t g h1).2 (snd a g h2).1 (snd b g h3).1, rt_ite (snd t g h1).2 (snd a g h2).2 (snd b g h3).2⟩
    · cases h
  | .call f es, X, W, c, s, g, h => by
    simp only [okE] at h; split at h
    · simp only [Bool.and_eq_true, decide_eq_true_eq] at h
      obtain ⟨⟨⟨h1, h1b⟩, h2⟩, h3⟩ := h
      refine both (rl_call g h1 (by simpa using h1b) h2 (sndA es g h3) (fun e0 σ m => ?_) (plAll h3)) fun _ => rfl
      subst e0
      cases es with
      | nil => rfl
      | cons _ _ => simp [okEs] at h3
    · cases h
  | .callk f es ks perm, X, W, c, s, g, h => by
    simp only [okE] at h; split at h
    · simp only [Bool.and_eq_true, decide_eq_true_eq, List.any_eq_true] at h
      obtain ⟨⟨⟨⟨⟨h1, h2⟩, h3⟩, h4⟩, h5⟩, q, h6, h7⟩ := h
      subst h7
      refine both (rl_callk g h1 h2 (sndA es g h3) (fun e0 σ m => ?_) (plAll h3) (sndK ks g h4) (kws_some h5) h6 (fun σ m us m' hu => evEs_len' h3 hu) (fun σ m us m' hu => ?_)) fun _ => rfl
      · subst e0
        cases es with
        | nil => rfl
        | cons _ _ => simp [okEs] at h3
      · rw [evEs_len' h4 hu, List.length_map]
        have := congrArg List.length (kws_some h5)
        rw [List.length_map, List.length_map] at this
        exact this
    · cases h
  | .b1 f a, X, W, c, s, g, h => by
    simp only [okE] at h; split at h
    · simp only [Bool.and_eq_true, decide_eq_true_eq] at h
      obtain ⟨⟨⟨h1, h2⟩, h3⟩, h4⟩ := h
      exact both (rl_b1 g h1 h2 (sndB g h3 (snd a g h3).1) h4) fun _ => rfl
    · cases h
  | .b2 f a b, X, W, c, s, g, h => by simp [okE] at h
  | .isi a k, X, W, c, s, g, h => by
    simp only [okE] at h; split at h
    · simp only [Bool.and_eq_true, decide_eq_true_eq] at h
      obtain ⟨⟨⟨⟨rfl, h2⟩, h3⟩, h4⟩, h5⟩ := h
      exact both (rl_isi g h2 (snd a g h3).1 h4 h5) fun _ => rfl
    · cases h
  | .isi2 a k k', X, W, c, s, g, h => by
    simp only [okE] at h; split at h
    · simp only [Bool.and_eq_true, decide_eq_true_eq] at h
      obtain ⟨⟨⟨⟨⟨rfl, h2⟩, h3⟩, h4⟩, h5⟩, h6⟩ := h
      exact both (rl_isi2 g h2 (snd a g h3).1 h4 h5 h6) fun _ => rfl
    · cases h
  | .ix a i, X, W, c, s, g, h => by
    simp only [okE] at h; split at h
    · simp only [Bool.and_eq_true] at h
      obtain ⟨⟨h1, h2⟩, h3⟩ := h
      exact both (rl_ix (by have := g.un; omega) (sndB g h1 (snd a g h1).1) (snd i g h2).1 h3) fun _ => rfl
    · cases h
  | .rev a, X, W, c, s, g, h => by simp [okE] at h
  | .gd o x kvs nks a, X, W, c, s, g, h => by
    simp only [okE] at h; split at h
    · simp only [Bool.and_eq_true, decide_eq_true_eq, List.any_eq_true] at h
      obtain ⟨⟨⟨⟨h1, rfl⟩, h3⟩, q, h4, rfl⟩, h5⟩ := h
      split at h1
      · exact ⟨rl_gdin g h3 h4 (snd a g h5).1, rt_gdin g h3 h4 (snd a g h5).1⟩
      · exact ⟨rl_gdnin g h3 h4 (snd a g h5).1, rt_gdnin g h3 h4 (snd a g h5).1⟩
      · cases h1
    · simp only [Bool.and_eq_true, decide_eq_true_eq, List.any_eq_true] at h
      obtain ⟨⟨⟨⟨⟨h1, rfl⟩, h3⟩, q, h4, rfl⟩, h5⟩, h6⟩ := h
      split at h1
      · exact both (rl_gdix g h3 h4 (snd a g h5).1 h6) fun _ => rfl
      · cases h1
    · cases h
  | .sl a lo hi, X, W, c, s, g, h => by
    simp only [okE] at h; split at h
    · rename_i v l u p1 p2
      simp only [Bool.and_eq_true] at h
      obtain ⟨⟨h1, h2⟩, h3⟩ := h
      refine both (rl_sl (sndB g h1 (snd a g h1).1) ?_ ?_) fun _ => rfl
      · cases l with
        | none =>
          cases lo <;> simp only [okO, Bool.false_eq_true] at h2
          exact ro_no
        | some x =>
          have hx : okE G N lo c x = true := h2
          have e : oA lo (evE C lo) = fun σ m => ((evE C lo σ m).bind asInt).bind fun i m1 => .ok (some i) m1 := by
            cases lo <;> first | rfl | (simp only [okE, Bool.false_eq_true] at hx)
          show PO X (some x) (tO X.K XR W (oA lo (evE C lo)))
          rw [e]
          exact ro_some (snd lo g hx).1
      · cases u with
        | none =>
          cases hi <;> simp only [okO, Bool.false_eq_true] at h3
          exact ro_no
        | some x =>
          have hx : okE G N hi c x = true := h3
          have e : oA hi (evE C hi) = fun σ m => ((evE C hi σ m).bind asInt).bind fun i m1 => .ok (some i) m1 := by
            cases hi <;> first | rfl | (simp only [okE, Bool.false_eq_true] at hx)
          show PO X (some x) (tO X.K XR W (oA hi (evE C hi)))
          rw [e]
          exact ro_some (snd hi g hx).1
    · cases h
  | .comp elt tg it cond own, X, W, c, s, g, h => by
    simp only [okE] at h; split at h
    · simp only [Bool.and_eq_true] at h
      obtain ⟨⟨⟨⟨⟨⟨h1, h2⟩, h3⟩, h4⟩, h5⟩, h6⟩, h7⟩ := h
      refine both (PE.frz (rl_comp g (sndI it g h2) h1 h3 h4 h5 (fun X' g' e => by rw [← e]; exact (snd elt g' h6).1) fun X' g' e => by
        rw [← e]
        refine condOk ?_
        split at h7
        · exact h7
        · simp only [Bool.and_eq_true, Bool.not_eq_true'] at h7
          exact ⟨h7.1, (snd cond g' h7.2).2⟩
        · cases h7)) fun _ => rfl
    · cases h
  | .newRs tg it own, X, W, c, s, g, h => by
    simp only [okE] at h; split at h
    · simp only [Bool.and_eq_true] at h
      obtain ⟨⟨⟨⟨h1, h2⟩, h3⟩, h4⟩, h5⟩ := h
      exact both (rl_newRs g (sndI it g h2) h1 h3 h4 h5) fun _ => rfl
    · cases h
  | .popM i, X, W, c, s, g, h => by
    simp only [okE] at h; split at h
    · simp only [Bool.and_eq_true, decide_eq_true_eq] at h
      obtain ⟨⟨⟨rfl, h1⟩, h2⟩, h3⟩ := h
      exact both (rl_popM g h1 h2 h3) fun _ => rfl
    · cases h
  | .ssc elt tg it cond own, X, W, c, s, g, h => by simp [okE] at h
  | .comp2 elt tg it tg' it' cond own, X, W, c, s, g, h => by
    simp only [okE] at h; split at h
    · simp only [Bool.and_eq_true] at h
      obtain ⟨⟨⟨⟨⟨⟨⟨⟨⟨⟨h1, h2⟩, h3⟩, h4⟩, h5⟩, h6⟩, h7⟩, h8⟩, h9⟩, h10⟩, h11⟩ := h
      refine both (PE.frz (rl_comp2 g (sndI it g h2) h1 h3 h4 h5 (fun X' g' e => by rw [← e]; exact sndI it' g' h6) h7 h8 h9 (fun X' g' e => by rw [← e]; exact (snd elt g' h10).1) fun X' g' e => by
        rw [← e]
        refine condOk ?_
        split at h11
        · exact h11
        · simp only [Bool.and_eq_true, Bool.not_eq_true'] at h11
          exact ⟨h11.1, (snd cond g' h11.2).2⟩
        · cases h11)) fun _ => rfl
    · cases h
  | .no, X, W, c, s, g, h => by simp [okE] at h
theorem sndA : ∀ (es : Es) {X : Cx} {W : WX} {c : Sc} {ss : List Expr}, GX G N C XR X W c → okEs G N es c ss = true → PA X ss (tL X.K XR W (evEs C es))
  | .nil, X, W, c, ss, g, h => by
    cases ss with
    | nil => exact ra_nil
    | cons _ _ => simp [okEs] at h
  | .cons e es, X, W, c, ss, g, h => by
    cases ss with
    | nil => simp [okEs] at h
    | cons x xs =>
      simp only [okEs, Bool.and_eq_true] at h
      exact ra_cons (snd e g h.1.1).1 (sndA es g h.2) h.1.2
theorem sndK : ∀ (es : Es) {X : Cx} {W : WX} {c : Sc} {kws : List Keyword}, GX G N C XR X W c → okEs G N es c (kws.map (·.value)) = true → PK X kws (tL X.K XR W (evEs C es))
  | .nil, X, W, c, kws, g, h => by
    cases kws with
    | nil => exact rk_nil
    | cons _ _ => simp [okEs] at h
  | .cons e es, X, W, c, kws, g, h => by
    cases kws with
    | nil => simp [okEs] at h
    | cons x xs =>
      obtain ⟨nm, v, kp⟩ := x
      simp only [List.map_cons, okEs, Bool.and_eq_true] at h
      exact rk_cons (snd e g h.1.1).1 (sndK es g h.2)
theorem sndI : ∀ (it : It) {X : Cx} {W : WX} {c : Sc} {t i : Expr}, GX G N C XR X W c → okI G N it c t i = true → PI X t i (tI X.K XR W (evI C it))
  | .seq e, X, W, c, t, i, g, h => by
    simp only [okI] at h
    exact ri_seq (snd e g h).1
  | .rng1 a, X, W, c, t, i, g, h => by
    simp only [okI] at h; split at h
    · simp only [Bool.and_eq_true, decide_eq_true_eq] at h
      obtain ⟨⟨⟨rfl, h2⟩, h3⟩, h4⟩ := h
      exact ri_rng1 g h2 (snd a g h3).1 h4
    · cases h
  | .rng2 a b, X, W, c, t, i, g, h => by
    simp only [okI] at h; split at h
    · simp only [Bool.and_eq_true, decide_eq_true_eq] at h
      obtain ⟨⟨⟨⟨⟨rfl, h2⟩, h3⟩, h4⟩, h5⟩, h6⟩ := h
      exact ri_rng2 g h2 (snd a g h3).1 h4 (snd b g h5).1 h6
    · cases h
  | .enum a, X, W, c, t, i, g, h => by
    simp only [okI] at h; split at h
    · simp only [Bool.and_eq_true, decide_eq_true_eq] at h
      obtain ⟨⟨⟨⟨rfl, h2⟩, h3⟩, h4⟩, h5⟩ := h
      exact ri_enum g h2 (snd a g h3).1 h4 h5
    · cases h
  | .zip2 a b, X, W, c, t, i, g, h => by
    simp only [okI] at h; split at h
    · simp only [Bool.and_eq_true, decide_eq_true_eq] at h
      obtain ⟨⟨⟨⟨⟨⟨rfl, h2⟩, h3⟩, h4⟩, h5⟩, h6⟩, h7⟩ := h
      exact ri_zip g h2 (snd a g h3).1 h4 (snd b g h5).1 h6 h7
    · cases h
end
end
end Eng

set_option Elab.async false
set_option linter.all false
set_option maxRecDepth 100000
set_option maxHeartbeats 1000000
/-! Statements: the state, outcomes. -/
namespace Eng
open PySem PySem.Spec PyProof.Rows L2

/-- where a def's run began -/
structure Bs where
  H : Hp
  Hf : Hp
  ρ : List Addr
  Hb : Hp
structure StAt (K : PySem.W.Frag) (B : Bs) (σ : L2.St) (H Hf : Hp) (ρ : List Addr) (ω : Nat → Addr) (env : Env) (m : Mem) : Prop where
  fine0 : ∃ m0, Fine K B.H B.Hf B.ρ m0
  pres : Pres B.H B.Hf B.ρ H Hf ρ
  low : Sub B.Hb Hf
  at_ : At K H σ Hf ρ ω env m
  new : ∀ i xs, env[i]? = some (.own xs) → B.H (ω i) = none
def OutS (K : PySem.W.Frag) (XR : XRel) (W : WX) (B : Bs) (D : Ends) (r : R (F × Env)) : Prop :=
  match r with
  | .ok x m' => ∀ σ' H' Hf' ρ' ω', StAt K B σ' H' Hf' ρ' ω' x.2 m' → endF D K σ' H' Hf' ρ' x.1
  | .exc c x m' => ∀ cls d σ' H' Hf' ρ', Pres B.H B.Hf B.ρ H' Hf' ρ' → Fine K H' Hf' ρ' m' → XR H' Hf' ρ' c x cls d → W cls d σ' H'
  | .bad => False
def tS (K : PySem.W.Frag) (XR : XRel) (W : WX) (f : Env → Mem → R (F × Env)) : TS := fun D σ H => ∃ B Hf ρ ω env m, StAt K B σ H Hf ρ ω env m ∧ OutS K XR W B D (f env m)
section
variable {α β : Type} {K : PySem.W.Frag} {XR : XRel} {W : WX} {B : Bs} {D : Ends} {σ : L2.St} {H Hf : Hp} {ρ : List Addr} {ω : Nat → Addr} {env : Env} {m : Mem} {Rp : Hp → Hp → List Addr → β → α → Prop}
theorem StAt.step (s : StAt K B σ H Hf ρ ω env m) {H' Hf' : Hp} {ρ' : List Addr} {m' : Mem} (p : Pres H Hf ρ H' Hf' ρ') (f : Fine K H' Hf' ρ' m') : StAt K B σ H' Hf' ρ' ω env m' :=
  ⟨s.fine0, s.pres.trans p, s.low.trans p.fz, s.at_.pres p f, s.new⟩
theorem OutS.bindE {r : R α} {k : α → Mem → R (F × Env)} (s : StAt K B σ H Hf ρ ω env m) (h : OutS K XR W B D (r.bind k)) :
    OutE K XR W σ H Hf ρ Rp r fun v H1 => ∃ u Hf1 ρ1 m1, Pres H Hf ρ H1 Hf1 ρ1 ∧ StAt K B σ H1 Hf1 ρ1 ω env m1 ∧ Rp H1 Hf1 ρ1 v u ∧ OutS K XR W B D (k u m1) := by
  cases r with
  | ok u m' => exact fun v H' Hf' ρ' p f r => ⟨u, Hf', ρ', m', p, s.step p f, r, h⟩
  | exc c x m' => exact fun cls d H' Hf' ρ' p f x => h cls d σ H' Hf' ρ' (s.pres.trans p) f x
  | bad => exact h
/-- an expression first -/
theorem StAt.bindE {f : Env → Mem → R α} {k : α → Mem → R (F × Env)} (s : StAt K B σ H Hf ρ ω env m) (h : OutS K XR W B D ((f env m).bind k)) :
    tR K XR W Rp f σ H fun v H1 => ∃ u Hf1 ρ1 m1, Pres H Hf ρ H1 Hf1 ρ1 ∧ StAt K B σ H1 Hf1 ρ1 ω env m1 ∧ Rp H1 Hf1 ρ1 v u ∧ OutS K XR W B D (k u m1) :=
  ⟨Hf, ρ, ω, env, m, s.at_, OutS.bindE s h⟩
theorem StAt.bindF {f : Env → Mem → R U} {k : U → Mem → R (F × Env)} (s : StAt K B σ H Hf ρ ω env m) (h : OutS K XR W B D ((f env m).bind k)) :
    tF K XR W f σ H fun v H1 => ∃ u Hf1 ρ1 m1, Pres H Hf ρ H1 Hf1 ρ1 ∧ StAt K B σ H1 Hf1 ρ1 ω env m1 ∧ RF K H H1 Hf1 ρ1 v u ∧ OutS K XR W B D (k u m1) :=
  ⟨Hf, ρ, ω, env, m, s.at_, OutS.bindE s h⟩
theorem OutS.bindS {r : R (F × Env)} {k : F × Env → Mem → R (F × Env)} (h : OutS K XR W B D (r.bind k)) {D' : Ends}
    (hk : ∀ x m' σ' H' Hf' ρ' ω', r = .ok x m' → StAt K B σ' H' Hf' ρ' ω' x.2 m' → OutS K XR W B D (k x m') → endF D' K σ' H' Hf' ρ' x.1) : OutS K XR W B D' r := by
  cases r with
  | ok x m' => exact fun σ' H' Hf' ρ' ω' s => hk x m' σ' H' Hf' ρ' ω' rfl s h
  | exc c x m' => exact h
  | bad => exact h
theorem StAt.ok {x : F × Env} (s : StAt K B σ H Hf ρ ω x.2 m) (h : OutS K XR W B D (.ok x m)) : endF D K σ H Hf ρ x.1 := h σ H Hf ρ ω s
theorem setE_some {env env' : Env} {i : Nat} {sl : Sl} (h : setE env i sl = some env') : i < env.length ∧ env' = env.set i sl := by
  unfold setE at h
  split at h
  · cases h; exact ⟨by assumption, rfl⟩
  · cases h
theorem StAt.setV (s : StAt K B σ H Hf ρ ω env m) {i : Nat} {v : V} {u : U} (hi : i < env.length) (r : RepU K Hf ρ v u) : StAt K B (σ.set i (some v)) H Hf ρ ω (env.set i (.v u)) m :=
  ⟨s.fine0, s.pres, s.low, ⟨s.at_.fine, s.at_.slots.setV hi r⟩, fun j xs e => s.new j xs (set_own (fun _ e => by cases e) e)⟩
theorem set_get_own {env : Env} {i j : Nat} {xs ys : List PyData} (h : (env.set i (.own xs))[j]? = some (.own ys)) : (j = i ∧ ys = xs ∧ i < env.length) ∨ (j ≠ i ∧ env[j]? = some (.own ys)) := by
  rw [List.getElem?_set] at h
  by_cases hj : i = j
  · subst hj
    rw [if_pos rfl] at h
    split at h
    · cases h; exact .inl ⟨rfl, rfl, by assumption⟩
    · cases h
  · rw [if_neg hj] at h; exact .inr ⟨Ne.symm hj, h⟩
/-- a name gets a list of its own -/
theorem StAt.setOwn (s : StAt K B σ H Hf ρ ω env m) {i : Nat} {p : Addr} {vs : List V} {xs : List PyData} (hi : i < env.length) (h1 : H p = some (.lst vs)) (h2 : Hf p = none) (h3 : p ∉ ρ) (h4 : DpAll K Hf vs xs) (h5 : szOk (.list xs) = true)
    (h6 : ∀ j ys, env[j]? = some (.own ys) → ω j ≠ p) (h7 : B.H p = none) : StAt K B (σ.set i (some (.ref p))) H Hf ρ (fun j => if j = i then p else ω j) (env.set i (.own xs)) m := by
  have hl : i < σ.length := by rw [s.at_.slots.len]; exact hi
  refine ⟨s.fine0, s.pres, s.low, ⟨s.at_.fine, ⟨by rw [List.length_set, List.length_set]; exact s.at_.slots.len, fun j w e => ?_, fun j ys e => ?_, fun j k ys zs e e' he => ?_⟩⟩, fun j ys e => ?_⟩
  · rw [List.getElem?_set] at e ⊢
    by_cases hj : i = j
    · subst hj; rw [if_pos rfl, if_pos hi] at e; cases e
    · rw [if_neg hj] at e ⊢; exact s.at_.slots.val j w e
  · rcases set_get_own e with ⟨rfl, rfl, _⟩ | ⟨hj, e⟩
    · rw [List.getElem?_set, if_pos rfl, if_pos hl, if_pos rfl]
      exact ⟨rfl, h2, h3, ⟨vs, h1, h4⟩, h5⟩
    · rw [List.getElem?_set, if_neg (Ne.symm hj), if_neg hj]
      exact s.at_.slots.own j ys e
  · rcases set_get_own e with ⟨rfl, rfl, _⟩ | ⟨hj, ea⟩ <;> rcases set_get_own e' with ⟨rfl, rfl, _⟩ | ⟨hk, eb⟩
    · rfl
    · rw [if_pos rfl, if_neg hk] at he; exact absurd he.symm (h6 k zs eb)
    · rw [if_pos rfl, if_neg hj] at he; exact absurd he (h6 j ys ea)
    · rw [if_neg hj, if_neg hk] at he; exact s.at_.slots.inj j k ys zs ea eb he
  · rcases set_get_own e with ⟨rfl, rfl, _⟩ | ⟨hj, e⟩
    · rw [if_pos rfl]; exact h7
    · rw [if_neg hj]; exact s.new j ys e
theorem StAt.own_ne (s : StAt K B σ H Hf ρ ω env m) {p : Addr} (h : H p = none) {j : Nat} {ys : List PyData} (e : env[j]? = some (.own ys)) : ω j ≠ p := by
  obtain ⟨_, _, _, ⟨vs, e2, _⟩, _⟩ := s.at_.slots.own j ys e
  exact ne_of_none e2 h
theorem StAt.base_none (s : StAt K B σ H Hf ρ ω env m) {p : Addr} (h : H p = none) : B.H p = none := by
  obtain ⟨m0, f0⟩ := s.fine0
  exact Pres.none s.pres f0 s.at_.fine h
/-- a list of a name's own is written -/
theorem StAt.write (s : StAt K B σ H Hf ρ ω env m) {i : Nat} {vs : List V} {xs ys : List PyData} (e : env[i]? = some (.own xs)) (h4 : DpAll K Hf vs ys) (h5 : szOk (.list ys) = true) : StAt K B σ (upd H (ω i) (.lst vs)) Hf ρ ω (env.set i (.own ys)) m := by
  obtain ⟨q1, q2, q3, q4, q5⟩ := s.at_.slots.own i xs e
  have hn := s.new i xs e
  have hi : i < env.length := (List.getElem?_eq_some_iff.mp e).1
  refine ⟨s.fine0, ⟨s.pres.fz, s.pres.pre, fun a o h h1 h2 => ?_⟩, s.low, ⟨s.at_.fine.poke q2 q3, ⟨by rw [List.length_set]; exact s.at_.slots.len, fun j w e' => ?_, fun j zs e' => ?_, fun j k us zs e1 e2 he => ?_⟩⟩, fun j zs e' => ?_⟩
  · obtain ⟨a1, a2, a3⟩ := s.pres.kp a o h h1 h2
    exact ⟨by rw [upd_ne (ne_of_none h hn)]; exact a1, a2, a3⟩
  · rw [List.getElem?_set] at e'
    by_cases hj : i = j
    · subst hj; rw [if_pos rfl, if_pos hi] at e'; cases e'
    · rw [if_neg hj] at e'; exact s.at_.slots.val j w e'
  · rcases set_get_own e' with ⟨rfl, rfl, _⟩ | ⟨hj, e'⟩
    · exact ⟨q1, q2, q3, ⟨vs, upd_same, h4⟩, h5⟩
    · obtain ⟨a1, a2, a3, ⟨ws, a4, a5⟩, a6⟩ := s.at_.slots.own j zs e'
      exact ⟨a1, a2, a3, ⟨ws, by rw [upd_ne fun z => hj (s.at_.slots.inj j i zs xs e' e z)]; exact a4, a5⟩, a6⟩
  · rcases set_get_own e1 with ⟨rfl, rfl, _⟩ | ⟨hj, ea⟩ <;> rcases set_get_own e2 with ⟨rfl, rfl, _⟩ | ⟨hk, eb⟩
    · rfl
    · exact s.at_.slots.inj _ _ _ _ e eb he
    · exact s.at_.slots.inj _ _ _ _ ea e he
    · exact s.at_.slots.inj _ _ _ _ ea eb he
  · rcases set_get_own e' with ⟨rfl, rfl, _⟩ | ⟨hj, e'⟩
    · exact hn
    · exact s.new j zs e'
/-- .. is frozen -/
theorem StAt.frz (s : StAt K B σ H Hf ρ ω env m) {i : Nat} {xs : List PyData} (e : env[i]? = some (.own xs)) : ∃ Hf', StAt K B σ H Hf' ρ ω (env.set i (.v (.dat (.list xs)))) m := by
  obtain ⟨q1, q2, q3, ⟨vs, q4, q5⟩, q6⟩ := s.at_.slots.own i xs e
  have hn := s.new i xs e
  have hi : i < env.length := (List.getElem?_eq_some_iff.mp e).1
  have sb : Sub Hf (upd Hf (ω i) (.lst vs)) := Sub.new q2
  refine ⟨upd Hf (ω i) (.lst vs), s.fine0, ⟨s.pres.fz.trans sb, s.pres.pre, fun a o h h1 h2 => ?_⟩, s.low.trans sb, ⟨s.at_.fine.freeze q4 q2 q3, ⟨by rw [List.length_set]; exact s.at_.slots.len, fun j w e' => ?_, fun j zs e' => ?_, fun j k us zs e1 e2 he => ?_⟩⟩, fun j zs e' => ?_⟩
  · obtain ⟨a1, a2, a3⟩ := s.pres.kp a o h h1 h2
    exact ⟨a1, by rw [upd_ne (ne_of_none h hn)]; exact a2, a3⟩
  · rw [List.getElem?_set] at e'
    by_cases hj : i = j
    · subst hj; rw [if_pos rfl, if_pos hi] at e'; cases e'
      exact ⟨_, q1, .lst (.inl (.inl upd_same)) (DpAll.mono sb _ _ q5), q6⟩
    · rw [if_neg hj] at e'
      obtain ⟨v, a1, a2⟩ := s.at_.slots.val j w e'
      refine ⟨v, a1, ?_⟩
      cases w with
      | dat d => exact ⟨Dp.mono sb _ _ a2.1, a2.2⟩
      | ref k => exact a2
  · have hj : i ≠ j := fun z => by subst z; rw [List.getElem?_set, if_pos rfl, if_pos hi] at e'; cases e'
    have e'' := set_own (fun _ e => by cases e) e'
    obtain ⟨a1, a2, a3, ⟨ws, a4, a5⟩, a6⟩ := s.at_.slots.own j zs e''
    exact ⟨a1, by rw [upd_ne fun z => hj (s.at_.slots.inj j i zs xs e'' e z).symm]; exact a2, a3, ⟨ws, a4, DpAll.mono sb _ _ a5⟩, a6⟩
  · exact s.at_.slots.inj j k us zs (set_own (fun _ e => by cases e) e1) (set_own (fun _ e => by cases e) e2) he
  · exact s.new j zs (set_own (fun _ e => by cases e) e')
/-- an object that is shared is written -/
theorem StAt.setN (s : StAt K B σ H Hf ρ ω env m) {q : Nat} {a : Addr} {w : HO} {ob' : MObj} (e : ρ[q]? = some a) (hob : MAt K (upd H a w) Hf ρ a ob') : StAt K B σ (upd H a w) Hf ρ ω env (m.set q ob') := by
  have hm : a ∈ ρ := List.mem_of_getElem? e
  have hf : Hf a = none := s.at_.fine.un a hm
  have hq : q < ρ.length := (List.getElem?_eq_some_iff.mp e).1
  refine ⟨s.fine0, ⟨s.pres.fz, s.pres.pre, fun b o h h1 h2 => ?_⟩, s.low, ⟨⟨fun b x eb => ?_, s.at_.fine.nd, s.at_.fine.un, by rw [List.length_set]; exact s.at_.fine.len, fun i b ob e1 e2 => ?_⟩, ⟨s.at_.slots.len, s.at_.slots.val, fun j zs e' => ?_, s.at_.slots.inj⟩⟩, s.new⟩
  · obtain ⟨a1, a2, a3⟩ := s.pres.kp b o h h1 h2
    exact ⟨by rw [upd_ne fun z => a3 (by rw [z]; exact hm)]; exact a1, a2, a3⟩
  · have : b ≠ a := fun z => by rw [z, hf] at eb; cases eb
    rw [upd_ne this]; exact s.at_.fine.sub _ _ eb
  · by_cases hi : q = i
    · subst hi
      rw [e] at e1; cases e1
      rw [List.getElem?_set, if_pos rfl, if_pos (by rw [← s.at_.fine.len]; exact hq)] at e2
      cases e2
      exact hob
    · rw [List.getElem?_set, if_neg hi] at e2
      have hb : b ≠ a := fun z => by
        subst z
        have hil : i < ρ.length := (List.getElem?_eq_some_iff.mp e1).1
        have h1 := (List.getElem?_eq_some_iff.mp e).2
        have h2 := (List.getElem?_eq_some_iff.mp e1).2
        exact hi ((List.getElem_inj s.at_.fine.nd).mp (h1.trans h2.symm))
      have k := s.at_.fine.at_ i b ob e1 e2
      cases ob with
      | lst xs => obtain ⟨ws, k1, k2, k3⟩ := k; exact ⟨ws, by rw [upd_ne hb]; exact k1, k2, k3⟩
      | dct xs => obtain ⟨ws, k1, k2, k3⟩ := k; exact ⟨ws, by rw [upd_ne hb]; exact k1, k2, k3⟩
      | kd xs => obtain ⟨ws, k1, k2, k3⟩ := k; exact ⟨ws, by rw [upd_ne hb]; exact k1, k2, k3⟩
      | refs xs => obtain ⟨ws, k1, k2, k3⟩ := k; exact ⟨ws, by rw [upd_ne hb]; exact k1, k2, k3⟩
      | tab x => obtain ⟨k0, ps, k1, k2⟩ := k; exact ⟨k0, ps, by rw [upd_ne hb]; exact k1, k2⟩
  · obtain ⟨a1, a2, a3, ⟨ws, a4, a5⟩, a6⟩ := s.at_.slots.own j zs e'
    exact ⟨a1, a2, a3, ⟨ws, by rw [upd_ne fun z => a3 (by rw [z]; exact hm)]; exact a4, a5⟩, a6⟩
theorem StAt.setM (s : StAt K B σ H Hf ρ ω env m) {q : Nat} {a : Addr} {vs : List V} {ys : List PyData} (e : ρ[q]? = some a) (h4 : DpAll K Hf vs ys) (h5 : szOk (.list ys) = true) : StAt K B σ (upd H a (.lst vs)) Hf ρ ω env (m.set q (.lst ys)) :=
  s.setN e ⟨vs, upd_same, h4, h5⟩
end
end Eng

set_option Elab.async false
set_option linter.all false
set_option maxRecDepth 100000
set_option maxHeartbeats 1000000
/-! Statements: the check, the rules. -/
namespace Eng
open PySem PySem.Spec PyProof.Rows L2

def noLc : Expr → Bool
  | .ListComp .. => false
  | .SetComp .. => false
  | .DictComp .. => false
  | _ => true
def isF : E → Bool
  | .lst _ => true
  | .lmul _ _ => true
  | .ladd _ _ => true
  | .comp .. => true
  | .comp2 .. => true
  | .b1 .list _ => true
  | _ => false
def kindB (c : Sc) : Bool := match c.sc.kind with
  | .function => true
  | _ => false
def isRs : E → Bool
  | .newRs .. => true
  | _ => false
def swC (c : Sc) (x : Str) (px : Pos) : Expr → Bool
  | .ListComp _ _ scope vp => decide (c.sc.names.lookup x = some .cell) || ((px.line == vp.line) && decide (c.sc.names.lookup x = some .local) && !(scope.names.any fun (n, k) => n == x && (k == .local || k == .cell)) && kindB c)
  | v => noLc v
def parB (N : List Str) (c : Sc) (i j : Nat) (x y : Str) (px py : Pos) (l r : Expr) : Bool :=
  decide (N[i]? = some x) && decide (N[j]? = some y) && decide (i ≠ j) && decide (c.sc.names.lookup x = some .local) && decide (c.sc.names.lookup y = some .local) && (py.line == px.line) && !(y == x) && kindB c &&
    !(foldedForSure 8 l && foldedForSure 8 r) && !(constantsAlone 8 l && constantsAlone 8 r) && pl l && pl r
def par3B (N : List Str) (c : Sc) (i j k : Nat) (x y z : Str) (px py pz : Pos) (l r t : Expr) : Bool :=
  decide (N[i]? = some x) && decide (N[j]? = some y) && decide (N[k]? = some z) && decide (i ≠ j) && decide (i ≠ k) && decide (j ≠ k) && decide (c.sc.names.lookup x = some .local) && decide (c.sc.names.lookup y = some .local) && decide (c.sc.names.lookup z = some .local) &&
    (py.line == px.line) && (pz.line == px.line) && !(y == x) && !(z == x) && !(z == y) && kindB c && !([l, r, t].all (foldedForSure 8)) && !([l, r, t].all (constantsAlone 8)) && pl l && pl r && pl t
def anyCell (c : Sc) (es : List Expr) : Bool := es.any fun
  | .Name x _ => decide (c.sc.names.lookup x = some .cell)
  | _ => false
def par3C (N : List Str) (c : Sc) (i j k : Nat) (x y z : Str) (px py pz : Pos) (l r t : Expr) : Bool :=
  decide (N[i]? = some x) && decide (N[j]? = some y) && decide (N[k]? = some z) && locB c x && locB c y && locB c z && anyCell c [.Name x px, .Name y py, .Name z pz] && pl l && pl r && pl t
theorem filterMap_lt {α β : Type} {f : α → Option β} : ∀ {l : List α}, (∃ x ∈ l, f x = none) → (l.filterMap f).length < l.length
  | [], h => by obtain ⟨x, hx, _⟩ := h; exact absurd hx (by simp)
  | y :: l, h => by
    have le : (l.filterMap f).length ≤ l.length := List.length_filterMap_le _ _
    rw [List.filterMap_cons]
    cases hy : f y with
    | none => simp only [List.length_cons]; omega
    | some z =>
      obtain ⟨x, hx, hn⟩ := h
      have : (l.filterMap f).length < l.length := filterMap_lt ⟨x, by
        rcases List.mem_cons.mp hx with e | hx
        · rw [e, hy] at hn; cases hn
        · exact hx, hn⟩
      simp only [List.length_cons]; omega
theorem sw_cell {c : Sc} {env : PySem.Env} {es : List Expr} {k : Nat} {tp : Pos} {v : Expr} (hs : env.scope = c.sc) (h : anyCell c es = true) : swappedStores [.Tuple es k tp] v env = pure none := by
  unfold swappedStores
  cases v <;> try rfl
  rename_i vs _ _
  dsimp only
  split
  · rfl
  · split
    · rfl
    · have key : ∀ line : Nat, (es.filterMap fun | .Name id pos => if env.kindOf id == some .local && pos.line == line then some id else none | _ => none).length < es.length := fun line => by
        refine filterMap_lt ?_
        obtain ⟨e, he, hc⟩ := List.any_eq_true.mp h
        refine ⟨e, he, ?_⟩
        cases e <;> try (simp at hc; done)
        rename_i x p
        have hc' : c.sc.names.lookup x = some .cell := of_decide_eq_true hc
        have kk : env.kindOf x = some .cell := by show env.scope.names.lookup x = _; rw [hs]; exact hc'
        simp [kk]
      have := key ((es.head?.map (·.pos.line)).getD 0)
      rw [if_pos (by
        rw [Bool.or_eq_true]
        exact .inl (by rw [bne_iff_ne]; exact Nat.ne_of_lt this))]
mutual
def okS (G : Cfg) (N : List Str) (c : Sc) : S → Stmt → Bool
  | .asg i e, s => match s with | .Assign [.Name x p] v _ => decide (N[i]? = some x) && locB c x && okE G N e c v && (noLc v || (isRs e && swC c x p v)) | _ => false
  | .own i e, s => match s with | .Assign [.Name x p] v _ => decide (N[i]? = some x) && locB c x && okE G N e c v && isF e && swC c x p v | _ => false
  | .frz _, _ => false
  | .asgT ts e, s => match s with | .Assign [.Tuple es _ _] v _ => okTgs N c ts es && okE G N e c v && (!isTp v || anyCell c es) | _ => false
  | .par2 i j a b, s => false
  | .par2o i j a b, s => match s with | .Assign [.Tuple [.Name x px, .Name y py] _ _] (.Tuple [l, r] _ _) _ => parB N c i j x y px py l r && okE G N a c l && okE G N b c r && isF b | _ => false
  | .par1o i j a b, s => false
  | .asgTo i j a b, s => false
  | .par2oo i j a b, s => match s with | .Assign [.Tuple [.Name x px, .Name y py] _ _] (.Tuple [l, r] _ _) _ => parB N c i j x y px py l r && okE G N a c l && okE G N b c r && isF a && isF b | _ => false
  | .par3o i j k a b d, s => false
  | .par3z i j k a b d, s => false
  | .par3m i j k a b d, s => false
  | .augO i ix o e, s => false
  | .setOP i ix j e, s => false
  | .setO i ix e, s => match s with | .Assign [.Subscript (.Name x _) k _] v _ => decide (N[i]? = some x) && visB c x && okE G N ix c k && pl k && okE G N e c v | _ => false
  | .setM r ix e, s => match s with | .Assign [.Subscript o k _] v _ => okE G N r c o && okE G N ix c k && pl k && okE G N e c v | _ => false
  | .app i e, s => match s with | .Expr (.Call (.Attribute (.Name x _) nm ap) [v] [] cp) _ => decide (nm = "append") && decide (N[i]? = some x) && visB c x && okE G N e c v && pl v && (ap.endLine == cp.line) | _ => false
  | .ext i e, s => false
  | .setO2 i ix ix2 e, s => false
  | .appM i e, s => match s with | .Expr (.Call (.Attribute (.Name x _) nm ap) [v] [] cp) _ => decide (nm = "append") && decide (N[i]? = some x) && visB c x && okE G N e c v && pl v && (ap.endLine == cp.line) | _ => false
  | .popO i j, s => false
  | .aug i o e, s => false
  | .expr e, s => match s with | .Expr v _ => okE G N e c v && noLc v | _ => false
  | .ife k t f, s => match s with | .If x a b _ => okE G N k c x && okSs G N c t a && okSs G N c f b | _ => false
  | .for_ tg it body, s => match s with | .For t i b [] _ => okTg N c tg t && okI G N it c t i && pl i && okSs G N c body b | _ => false
  | .whl k body, s => false
  | .ret e, s => match s with | .Return (some v) _ => okE G N e c v | _ => false
  | .retN, s => match s with | .Return none _ => true | _ => false
  | .brk, s => match s with | .Break _ => true | _ => false
  | .cnt, s => match s with | .Continue _ => true | _ => false
  | .pass, s => match s with | .Pass _ => true | .Expr (.Constant (.str _) _ _) _ => true | _ => false
  | .raise k e, s => isNo e || (match s with
    | .Raise (some (.Call (.Name x _) [a] [] _)) none _ => (match G.cl[k]? with | some p => decide (p.1 = x) | none => false) && glB c x && okE G N e c a && pl a
    | _ => false)
  | .tryO md e k d, s => false
  | .tryX md e i k hs, s => false
def okSs (G : Cfg) (N : List Str) (c : Sc) : Ss → List Stmt → Bool
  | .nil, l => match l with | [] => true | _ => false
  | .cons s ss, l => match s with
    | .frz _ => okSs G N c ss l
    | _ => match l with
      | st :: r => okS G N c s st && okSs G N c ss r
      | [] => false
end
section
variable {G : Cfg} {N : List Str} {C : Calls} {XR : XRel} {X : Cx} {W : WX} {c : Sc} {L : Nat} {s e v : Expr} {pos : Pos}
/-- a fresh list -/
theorem sndF (g : GX G N C XR X W c) {a : E} (hf : isF a = true) (h : okE G N a c s = true) : PE X s (tF X.K XR W (evE C a)) := by
  cases a <;> simp only [isF, Bool.false_eq_true] at hf
  case lst es =>
    simp only [okE] at h; split at h
    · simp only [Bool.and_eq_true, decide_eq_true_eq] at h
      exact rl_lst (sndA es g h.1) fun σ m us m' hu => by rw [evEs_len' h.1 hu]; exact h.2
    · cases h
  case lmul es k =>
    simp only [okE] at h; split at h
    · simp only [Bool.and_eq_true, decide_eq_true_eq] at h
      obtain ⟨⟨h1, h2⟩, h3⟩ := h
      exact rl_lmul (rl_lst (sndA es g h1) fun σ m us m' hu => by rw [evEs_len' h1 hu]; exact h2) (snd k g h3).1
    · cases h
  case ladd a b =>
    simp only [okE] at h; split at h
    · simp only [Bool.and_eq_true] at h
      exact rl_ladd (sndB g h.1 (snd a g h.1).1) (sndB g h.2 (snd b g h.2).1)
    · cases h
  case b1 f a =>
    cases f <;> simp only [isF, Bool.false_eq_true] at hf
    simp only [okE] at h; split at h
    · simp only [Bool.and_eq_true, decide_eq_true_eq] at h
      obtain ⟨⟨⟨h1, h2⟩, h3⟩, h4⟩ := h
      subst h1
      exact rl_listF g h2 (sndB g h3 (snd a g h3).1) h4
    · cases h
  case comp elt tg it cond own =>
    simp only [okE] at h; split at h
    · simp only [Bool.and_eq_true] at h
      obtain ⟨⟨⟨⟨⟨⟨h1, h2⟩, h3⟩, h4⟩, h5⟩, h6⟩, h7⟩ := h
      refine (rl_comp g (sndI it g h2) h1 h3 h4 h5 (fun X' g' e => by rw [← e]; exact (snd elt g' h6).1) fun X' g' e => by
        rw [← e]
        refine condOk ?_
        split at h7
        · exact h7
        · simp only [Bool.and_eq_true, Bool.not_eq_true'] at h7
          exact ⟨h7.1, (snd cond g' h7.2).2⟩
        · cases h7)
    · cases h
  case comp2 elt tg it tg' it' cond own =>
    simp only [okE] at h; split at h
    · simp only [Bool.and_eq_true] at h
      obtain ⟨⟨⟨⟨⟨⟨⟨⟨⟨⟨h1, h2⟩, h3⟩, h4⟩, h5⟩, h6⟩, h7⟩, h8⟩, h9⟩, h10⟩, h11⟩ := h
      refine (rl_comp2 g (sndI it g h2) h1 h3 h4 h5 (fun X' g' e => by rw [← e]; exact sndI it' g' h6) h7 h8 h9 (fun X' g' e => by rw [← e]; exact (snd elt g' h10).1) fun X' g' e => by
        rw [← e]
        refine condOk ?_
        split at h11
        · exact h11
        · simp only [Bool.and_eq_true, Bool.not_eq_true'] at h11
          exact ⟨h11.1, (snd cond g' h11.2).2⟩
        · cases h11)
    · cases h
theorem GX.loc (g : GX G N C XR X W c) {x : Str} (h : locB c x = true) : Loc X.env.scope x ∧ (X.fn x = true ∨ X.env.scope.names.lookup x = some .local) := by
  unfold locB at h
  simp only [Bool.or_eq_true, Bool.and_eq_true, decide_eq_true_eq] at h
  rw [g.sc, g.fn]
  rcases h with h2 | ⟨h2, h3⟩
  · exact ⟨.inl h2, .inr h2⟩
  · exact ⟨.inr h2, .inl h3⟩
theorem sw_no {t : Option Expr} {l : Nat} {env : PySem.Env} (h : noLc v = true) : swapsWith v t l env = pure false := by
  cases v <;> first | rfl | simp [noLc] at h
theorem sw_set (g : GX G N C XR X W c) {i : Nat} {x : Str} {p sp : Pos} {te : TE} (h1 : N[i]? = some x) (h2 : locB c x = true) (h3 : noLc v = true) (he : PE X v te) : PS X (.Assign [.Name x p] v sp) (tAsg te (gName i)) :=
  ps_set g.nd (by rw [g.hN]; exact h1) (g.loc h2).1 he (sw_no h3) (g.loc h2).2
theorem s_asg {fe : Env → Mem → R U} {i : Nat} {st : Stmt} (h : PS X st (tAsg (tU X.K XR W fe) (gName i))) : PS X st (tS X.K XR W fun σ m => (fe σ m).bind fun u m1 => match setE σ i (.v u) with
    | some σ' => .ok (.nx, σ') m1
    | none => .bad) :=
  PS.imp h fun D σ H ⟨B, Hf, ρ, ω, env, m, s, o⟩ => by
    obtain ⟨A, B', D', E, F', a1, o1⟩ := s.bindE (Rp := RU X.K) o
    refine ⟨A, B', D', E, F', a1, o1.mono fun v H1 ⟨u, Hf1, ρ1, m1, p, s1, r, o1⟩ => ?_⟩
    cases hs : setE env i (.v u) with
    | none => rw [hs] at o1; exact o1.elim
    | some env' =>
      rw [hs] at o1
      obtain ⟨hi, rfl⟩ := setE_some hs
      exact (s1.setV hi r).ok (x := (F.nx, _)) o1
theorem s_own {fe : Env → Mem → R U} {i : Nat} {st : Stmt} (h : PS X st (tAsg (tF X.K XR W fe) (gName i))) : PS X st (tS X.K XR W fun σ m => (fe σ m).bind fun u m1 => match u with
    | .dat (.list xs) => match setE σ i (.own xs) with
      | some σ' => .ok (.nx, σ') m1
      | none => .bad
    | _ => .bad) :=
  PS.imp h fun D σ H ⟨B, Hf, ρ, ω, env, m, s, o⟩ => by
    obtain ⟨A, B', D', E, F', a1, o1⟩ := s.bindF o
    refine ⟨A, B', D', E, F', a1, o1.mono fun v H1 ⟨u, Hf1, ρ1, m1, p, s1, r, o1⟩ => ?_⟩
    obtain ⟨q, vs, xs, rfl, rfl, h0, h1, h2, h3, h4, h5⟩ := r
    cases hs : setE env i (.own xs) with
    | none => simp only [hs] at o1; exact o1.elim
    | some env' =>
      simp only [hs] at o1
      obtain ⟨hi, rfl⟩ := setE_some hs
      exact (s1.setOwn hi h1 h2 h3 h4 h5 (fun j ys e => s.own_ne h0 e) (s.base_none h0)).ok (x := (F.nx, _)) o1
theorem s_asgT (g : GX G N C XR X W c) {fe : Env → Mem → R U} {ts : List Tg} {es : List Expr} {k : Nat} {tp sp : Pos} (ht : okTgs N c ts es = true) (he : PE X v (tU X.K XR W fe)) (hv : isTp v = false ∨ anyCell c es = true) : PS X (.Assign [.Tuple es k tp] v sp) (tS X.K XR W fun σ m => (fe σ m).bind fun u m1 => match u with
    | .dat (.tuple ds) => match asgTgs ts ds σ with
      | some σ' => .ok (.nx, σ') m1
      | none => .bad
    | _ => .bad) := by
  have hs : swapsWithSole [.Tuple es k tp] v sp.line X.env = pure false := by
    show swapsWith v (some (.Tuple es k tp)) sp.line X.env = _
    cases v <;> rfl
  have hw : swappedStores [.Tuple es k tp] v X.env = pure none := by
    rcases hv with hv | hv
    · cases v <;> first | rfl | (simp [isTp] at hv)
    · exact sw_cell g.sc hv
  refine PS.imp (ps_asg he (pg_T (tg := .tp ts) g ht) hs hw rfl) fun D σ H ⟨B, Hf, ρ, ω, env, m, s, o⟩ => ?_
  obtain ⟨A, B', D', E, F', a1, o1⟩ := s.bindE (Rp := RU X.K) o
  refine ⟨A, B', D', E, F', a1, o1.mono fun v H1 ⟨u, Hf1, ρ1, m1, p, s1, r, o1⟩ => ?_⟩
  cases u with
  | ref i => exact o1.elim
  | dat d =>
    cases d with
    | tuple ds =>
      simp only at o1
      cases ha : asgTgs ts ds env with
      | none => rw [ha] at o1; exact o1.elim
      | some env' =>
        rw [ha] at o1
        exact gT_ok (tg := .tp ts) s1.at_ r.1 r.2 ha fun σ' a' _ => StAt.ok (x := (F.nx, env')) ⟨s1.fine0, s1.pres, s1.low, a', fun j xs e => s1.new j xs (asgTgs_own ha e)⟩ o1
    | _ => exact (o1 : False).elim
end
end Eng

set_option Elab.async false
set_option linter.all false
set_option maxRecDepth 100000
set_option maxHeartbeats 1000000
/-! Statements: the rules, on. -/
namespace Eng
open PySem PySem.Spec PyProof.Rows L2
theorem noStar2 {l r : Expr} (hpl : pl l = true) (hpr : pl r = true) : ([l, r].any fun | .Starred .. => true | _ => false) = false := by
  have : ∀ {e : Expr}, pl e = true → (match e with | .Starred .. => true | _ => false) = false := fun {e} h => by cases e <;> first | rfl | simp [pl] at h
  simp only [List.any_cons, List.any_nil, this hpl, this hpr]; rfl
theorem dups2 {x y : Str} (h : (y == x) = false) : [x, y].eraseDups.length = 2 := by
  simp [List.eraseDups_cons, h]
theorem sw_par {env : PySem.Env} {x y : Str} {px py pt pt2 : Pos} {kt k2 : Nat} {l r : Expr} (hk : env.scope.kind = .function) (hx : env.scope.names.lookup x = some .local) (hy : env.scope.names.lookup y = some .local) (hl : (py.line == px.line) = true) (hne : (y == x) = false)
    (hf : (foldedForSure 8 l && foldedForSure 8 r) = false) (hc : (constantsAlone 8 l && constantsAlone 8 r) = false) (hpl : pl l = true) (hpr : pl r = true) :
    swappedStores [.Tuple [.Name x px, .Name y py] kt pt] (.Tuple [l, r] k2 pt2) env = pure (some [x, y]) := by
  have kx : env.kindOf x = some .local := hx
  have ky : env.kindOf y = some .local := hy
  have hb : env.blockKind = .function := by unfold Env.blockKind; rw [hk]; rfl
  have hs := noStar2 hpl hpr
  have hd := dups2 hne
  have hf' : [l, r].all (foldedForSure 8) = false := by simpa using hf
  have hc' : [l, r].all (constantsAlone 8) = false := by simpa using hc
  have hn : ∀ f : Expr → Option Str, f (.Name x px) = some x → f (.Name y py) = some y → [Expr.Name x px, Expr.Name y py].filterMap f = [x, y] := fun f e1 e2 => by
    rw [List.filterMap_cons_some e1, List.filterMap_cons_some e2]; rfl
  unfold swappedStores
  dsimp only [List.length_cons, List.length_nil, List.head?_cons, Option.map_some, Option.getD_some, Expr.pos]
  rw [if_neg (by rw [hb]; decide), if_neg (fun z => by
    rw [List.any_eq_true] at z
    obtain ⟨e, he, hz⟩ := z
    have hp : pl e = true := by
      simp only [List.mem_cons, List.not_mem_nil, or_false] at he
      rcases he with rfl | rfl <;> assumption
    cases e <;> first | (simp [pl] at hp; done) | (simp at hz; done))]
  have hl' : py.line = px.line := beq_iff_eq.mp hl
  have hfa : ¬ (foldedForSure 8 l = true ∧ foldedForSure 8 r = true) := fun z => by rw [z.1, z.2] at hf; cases hf
  have hca : ¬ (constantsAlone 8 l = true ∧ constantsAlone 8 r = true) := fun z => by rw [z.1, z.2] at hc; cases hc
  simp [List.filterMap_cons, kx, ky, hl', hd, hfa, hca]
section
variable {G : Cfg} {N : List Str} {C : Calls} {XR : XRel} {X : Cx} {W : WX} {c : Sc} {L : Nat} {s e v : Expr} {pos : Pos}
theorem kindB_ok (g : GX G N C XR X W c) (h : kindB c = true) : X.env.scope.kind = .function := by
  rw [g.sc]
  unfold kindB at h
  split at h
  · assumption
  · cases h
theorem s_par2o (g : GX G N C XR X W c) {fa fb : Env → Mem → R U} {i j : Nat} {x y : Str} {px py pt pt2 sp : Pos} {kt k2 : Nat} {l r : Expr} (hp : parB N c i j x y px py l r = true) (ha : PE X l (tU X.K XR W fa)) (hb : PE X r (tF X.K XR W fb)) :
    PS X (.Assign [.Tuple [.Name x px, .Name y py] kt pt] (.Tuple [l, r] k2 pt2) sp) (tS X.K XR W fun σ m => (fa σ m).bind fun x m1 => (fb σ m1).bind fun y m2 => match y with
    | .dat (.list xs) => match (setE σ i (.v x)).bind fun σ' => setE σ' j (.own xs) with
      | some σ' => .ok (.nx, σ') m2
      | none => .bad
    | _ => .bad) := by
  unfold parB at hp
  simp only [Bool.and_eq_true, decide_eq_true_eq, Bool.not_eq_true'] at hp
  obtain ⟨⟨⟨⟨⟨⟨⟨⟨⟨⟨⟨h1, h2⟩, h3⟩, h4⟩, h5⟩, h6⟩, h7⟩, h8⟩, h9⟩, h10⟩, h11⟩, h12⟩ := hp
  have lx : X.env.scope.names.lookup x = some .local := by rw [g.sc]; exact h4
  have ly : X.env.scope.names.lookup y = some .local := by rw [g.sc]; exact h5
  refine PS.imp (ps_par g.calm g.nd (by rw [g.hN]; exact h1) (by rw [g.hN]; exact h2) h3 lx ly (pa_cons ha (pa_cons hb pa_nil (star_pl h12)) (star_pl h11)) (sw_par (kindB_ok g h8) lx ly h6 h7 h9 h10 h11 h12) rfl) fun D σ H ⟨B, Hf, ρ, ω, env, m, s, o⟩ => ?_
  obtain ⟨A, B', D', E, F', a1, o1⟩ := s.bindE (Rp := RU X.K) o
  refine ⟨A, B', D', E, F', a1, o1.mono fun x H1 ⟨u, Hf1, ρ1, m1, p, s1, r, o1⟩ => ?_⟩
  obtain ⟨A, B', D', E, F', a2, o2⟩ := s1.bindF o1
  refine ⟨A, B', D', E, F', a2, o2.mono fun y H2 ⟨u2, Hf2, ρ2, m2, p2, s2, r2, o2⟩ => ?_⟩
  obtain ⟨q, vs, xs, rfl, rfl, h0, k1, k2, k3, k4, k5⟩ := r2
  refine ⟨x, _, rfl, ?_⟩
  simp only at o2
  cases hs : (setE env i (.v u)).bind fun σ' => setE σ' j (.own xs) with
  | none => rw [hs] at o2; exact o2.elim
  | some env' =>
    rw [hs] at o2
    rw [Option.bind_eq_some_iff] at hs
    obtain ⟨e1, q1, q2⟩ := hs
    obtain ⟨hi, rfl⟩ := setE_some q1
    obtain ⟨hj, rfl⟩ := setE_some q2
    exact ((s2.setV hi (r.pres p2)).setOwn hj k1 k2 k3 k4 k5 (fun j ys e => s1.own_ne h0 (set_own (fun _ e => by cases e) e)) (s1.base_none h0)).ok (x := (F.nx, _)) o2
theorem asg_sub {o i : Expr} {p : Pos} {env : PySem.Env} (h : pl i = true) : ∀ v, assign (.Subscript o i p) env v = (do
      let ov ← holding [v] (eval o env)
      let iv ← holding [v, ov] (eval i env)
      standAt p
      holding [v, ov, iv] (setItem ov iv v)
      release [v, ov, iv] []) := by
  intro v
  cases i <;> first | rfl | simp [pl] at h
theorem sz_set {xs : List PyData} {d : PyData} {j : Nat} (h : szOk (.list xs) = true) (hd : szOk d = true) : szOk (.list (xs.set j d)) = true := by
  rw [sz_list] at h ⊢
  refine ⟨by rw [List.length_set]; exact h.1, ?_⟩
  rw [szAll_iff] at *
  intro e he
  rcases List.mem_or_eq_of_mem_set he with he | rfl
  · exact h.2 e he
  · exact hd
theorem s_setO (g : GX G N C XR X W c) {fe fi : Env → Mem → R U} {i : Nat} {x : Str} {p p2 sp : Pos} {k : Expr} (h1 : N[i]? = some x) (h2 : visB c x = true) (hk : pl k = true) (hi : PE X k (tU X.K XR W fi)) (he : PE X v (tU X.K XR W fe)) :
    PS X (.Assign [.Subscript (.Name x p) k p2] v sp) (tS X.K XR W fun σ m => (fe σ m).bind fun u m1 => match σ[i]? with
    | some (.own xs) => (fi σ m1).bind fun y m2 => setOGo σ i xs u y m2
    | _ => .bad) := by
  obtain ⟨v1, v2, v3⟩ := g.vis h2
  have hs : swapsWithSole [.Subscript (.Name x p) k p2] v sp.line X.env = pure false := by
    show swapsWith v (some (.Subscript (.Name x p) k p2)) sp.line X.env = _
    cases v <;> rfl
  refine PS.imp (ps_asg he (pg_sub (pe_var (i := i) (by rw [g.hN]; exact h1) v1 v2 v3) hi set_list (asg_sub hk)) hs (by cases v <;> rfl) rfl) fun D σ H ⟨B, Hf, ρ, ω, env, m, s, o⟩ => ?_
  obtain ⟨A, B', D', E, F', a1, o1⟩ := s.bindE (Rp := RU X.K) o
  refine ⟨A, B', D', E, F', a1, o1.mono fun x H1 ⟨u, Hf1, ρ1, m1, p, s1, r, o1⟩ => ?_⟩
  split at o1
  case h_2 => exact o1.elim
  rename_i xs e
  obtain ⟨q1, q2, q3, q4, q5⟩ := s1.at_.slots.own i xs e
  refine ⟨_, q1, ?_⟩
  obtain ⟨A, B', D', E, F', a2, o2⟩ := s1.bindE (Rp := RU X.K) o1
  refine ⟨A, B', D', E, F', a2, o2.mono fun y H2 ⟨u2, Hf2, ρ2, m2, p2, s2, r2, o2⟩ => ?_⟩
  have r := r.pres p2
  cases u with
  | ref i => exact (o2 : False).elim
  | dat d =>
  cases u2 with
  | ref i => exact (o2 : False).elim
  | dat d2 =>
  cases d2 with
  | int k =>
    simp only [setOGo] at o2
    cases hx : L2.ixN xs.length k with
    | none => rw [hx] at o2; exact o2.elim
    | some j =>
      rw [hx] at o2
      obtain ⟨q1, q2, q3, ⟨vs, q4, q6⟩, q5⟩ := s2.at_.slots.own i xs e
      cases r2.1
      refine ⟨ω i, vs, k, j, rfl, rfl, q4, by rw [q6.len]; exact hx, ?_⟩
      have s3 := s2.write e (DpAll.set j q6 r.1) (sz_set q5 r.2)
      have hσ : σ = σ := rfl
      exact StAt.ok (x := (F.nx, _)) s3 o2
  | _ => exact (o2 : False).elim
theorem PSet.or {r r' : TSet} (h : PSet X r) (h' : PSet X r') : PSet X (fun o i v H Q => r o i v H Q ∨ r' o i v H Q) := by
  intro pins s σ H o i v ov iv u Q I ro ri rv q
  rcases q with q | q
  · exact h pins s σ H o i v ov iv u Q I ro ri rv q
  · exact h' pins s σ H o i v ov iv u Q I ro ri rv q
theorem putN_len (kvs : List (NestedKey × PyData)) (k : NestedKey) (d : PyData) : (putN kvs k d).length ≤ kvs.length + 1 := by
  unfold putN
  split
  · rw [List.length_map]; omega
  · rw [List.length_append, List.length_singleton]; exact Nat.le_refl _
theorem putN_sz {kvs : List (NestedKey × PyData)} {k : NestedKey} {d : PyData} (h : ∀ p ∈ kvs, szOk p.2 = true ∧ szOk p.1.data = true) (hd : szOk d = true) (hk : szOk k.data = true) : ∀ p ∈ putN kvs k d, szOk p.2 = true ∧ szOk p.1.data = true := by
  unfold putN
  split
  · intro p hp
    obtain ⟨q, hq, rfl⟩ := List.mem_map.mp hp
    split
    · exact ⟨hd, (h q hq).2⟩
    · exact h q hq
  · intro p hp
    rcases List.mem_append.mp hp with hp | hp
    · exact h p hp
    · rw [List.mem_singleton.mp hp]; exact ⟨hd, hk⟩
theorem s_setM (g : GX G N C XR X W c) {fe fr fi : Env → Mem → R U} {p2 sp : Pos} {r k : Expr} (hk : pl k = true) (hr : PE X r (tU X.K XR W fr)) (hi : PE X k (tU X.K XR W fi)) (he : PE X v (tU X.K XR W fe)) :
    PS X (.Assign [.Subscript r k p2] v sp) (tS X.K XR W fun σ m => (fe σ m).bind fun u m1 => (fr σ m1).bind fun x m2 => (fi σ m2).bind fun y m3 => setMGo σ u x y m3) := by
  have hs : swapsWithSole [.Subscript r k p2] v sp.line X.env = pure false := by
    show swapsWith v (some (.Subscript r k p2)) sp.line X.env = _
    cases v <;> rfl
  have hu : X.A.units + 64 < cLine := by have := g.un; omega
  refine PS.imp (ps_asg he (pg_sub hr hi (PSet.or set_list (set_dic hu)) (asg_sub hk)) hs (by cases v <;> rfl) rfl) fun D σ H ⟨B, Hf, ρ, ω, env, m, s, o⟩ => ?_
  obtain ⟨A, B', D', E, F', a1, o1⟩ := s.bindE (Rp := RU X.K) o
  refine ⟨A, B', D', E, F', a1, o1.mono fun x H1 ⟨u, Hf1, ρ1, m1, p, s1, r, o1⟩ => ?_⟩
  obtain ⟨A, B', D', E, F', a2, o2⟩ := s1.bindE (Rp := RU X.K) o1
  refine ⟨A, B', D', E, F', a2, o2.mono fun y H2 ⟨u2, Hf2, ρ2, m2, p2, s2, r2, o2⟩ => ?_⟩
  obtain ⟨A, B', D', E, F', a3, o3⟩ := s2.bindE (Rp := RU X.K) o2
  refine ⟨A, B', D', E, F', a3, o3.mono fun z H3 ⟨u3, Hf3, ρ3, m3, p3, s3, r3, o3⟩ => ?_⟩
  have r := (r.pres p2).pres p3
  have r2 := r2.pres p3
  cases u with
  | ref i => exact (o3 : False).elim
  | dat d =>
  cases u2 with
  | dat i => cases u3 with
    | ref _ => exact (o3 : False).elim
    | dat d3 => exact (o3 : False).elim
  | ref q =>
  cases u3 with
  | ref i => exact (o3 : False).elim
  | dat d3 =>
  simp only [setMGo] at o3
  cases hm : m3[q]? with
  | none => rw [hm] at o3; exact o3.elim
  | some ob =>
    obtain ⟨a, ea, rfl⟩ := r2
    rw [hm] at o3
    cases ob with
    | tab x => exact o3.elim
    | kd kvs => exact (o3 : False).elim
    | refs ks => exact (o3 : False).elim
    | lst xs =>
      cases d3 with
      | int k =>
        simp only at o3
        cases hx : L2.ixN xs.length k with
        | none => rw [hx] at o3; exact o3.elim
        | some j =>
          rw [hx] at o3
          cases r3.1
          obtain ⟨vs, e1, e2, e3⟩ := s3.at_.fine.at_ q a _ ea hm
          exact .inl ⟨a, vs, k, j, rfl, rfl, e1, by rw [e2.len]; exact hx, StAt.ok (x := (F.nx, _)) (s3.setM ea (DpAll.set j e2 r.1) (sz_set e3 r.2)) o3⟩
      | _ => exact (o3 : False).elim
    | dct kvs =>
      simp only at o3
      cases hq : keyOfD d3 with
      | none => rw [hq] at o3; exact o3.elim
      | some kk =>
        rw [hq] at o3
        simp only at o3
        split at o3
        · rename_i hl
          obtain ⟨es, e1, e2, e3, e4, e5, e6⟩ := s3.at_.fine.at_ q a _ ea hm
          refine .inr ⟨a, es, kvs, d3, kk, d, Hf3, s3.at_.fine.sub, s3.at_.fine.un a (List.mem_of_getElem? ea), rfl, e1, e2, e3, e4, r3.1, hq, r.1, fun es' h1 h2 => ?_⟩
          refine StAt.ok (x := (F.nx, _)) (s3.setN ea (ob' := .dct (putN kvs kk d)) ⟨es', upd_same, h1, h2, Nat.le_trans (putN_len _ _ _) hl, putN_sz e5 r.2 (by rw [(keyOfD_some hq).2.2.2.1]; exact r3.2), e6⟩) o3
        · exact o3.elim
theorem sz_push {xs : List PyData} {d : PyData} (h : szOk (.list xs) = true) (hd : szOk d = true) (hl : xs.length < sizeLine) : szOk (.list (xs ++ [d])) = true := by
  rw [sz_list] at h ⊢
  refine ⟨by rw [List.length_append, List.length_singleton]; omega, ?_⟩
  rw [szAll_iff] at *
  intro e he
  rcases List.mem_append.mp he with he | he
  · exact h.2 e he
  · rw [List.mem_singleton.mp he]; exact hd
theorem s_app (g : GX G N C XR X W c) {fe : Env → Mem → R U} {i : Nat} {x : Str} {p ap cp sp : Pos} (h1 : N[i]? = some x) (h2 : visB c x = true) (hv : pl v = true) (hl : (ap.endLine == cp.line) = true) (he : PE X v (tU X.K XR W fe)) :
    PS X (.Expr (.Call (.Attribute (.Name x p) "append" ap) [v] [] cp) sp) (tS X.K XR W fun σ m => match σ[i]? with
    | some (.own xs) => (fe σ m).bind fun u m1 => appGo σ i xs u m1
    | _ => .bad) := by
  obtain ⟨v1, v2, v3⟩ := g.vis h2
  have hfew : ((backTo cp (starEach (v :: []) X.env)).all (fun x => !x.1) && (backToKw cp (keywordEach [] X.env)).all (fun x => x.1.isSome)
      && decide ((v :: []).length + ([] : List Keyword).length + (if ([] : List Keyword).isEmpty then 0 else 1) < 30)) = true := by
    rw [star_pl hv]; rfl
  refine PS.imp (ps_expr (pe_bm PySem.F.plainAttrs_list PySem.F.slot_list_append PySem.F.type_list_append mt_append (pe_var (i := i) (by rw [g.hN]; exact h1) v1 v2 v3) (pa_cons he pa_nil (star_pl hv)) rfl hfew hl (star_pl hv) rfl) rfl) fun D σ H ⟨B, Hf, ρ, ω, env, m, s, o⟩ => ?_
  dsimp only at o
  split at o
  case h_2 => exact o.elim
  rename_i xs e
  obtain ⟨q1, q2, q3, ⟨vs, q4, q6⟩, q5⟩ := s.at_.slots.own i xs e
  refine ⟨_, q1, .inl ⟨rfl, vs, .inl (.inl q4)⟩, ?_⟩
  obtain ⟨A, B', D', E, F', a1, o1⟩ := s.bindE (Rp := RU X.K) o
  refine ⟨A, B', D', E, F', a1, o1.mono fun x H1 ⟨u, Hf1, ρ1, m1, p, s1, r, o1⟩ => ?_⟩
  cases u with
  | ref i => exact (o1 : False).elim
  | dat d =>
    simp only [appGo] at o1
    obtain ⟨q1, q2, q3, ⟨vs, q4, q6⟩, q5⟩ := s1.at_.slots.own i xs e
    by_cases hz : xs.length < sizeLine
    · rw [if_pos hz] at o1
      exact ⟨_, vs, x, rfl, rfl, q4, by rw [q6.len]; exact hz, StAt.ok (x := (F.nx, _)) (s1.write e (q6.app (.cons r.1 .nil)) (sz_push q5 r.2 hz)) o1⟩
    · rw [if_neg hz] at o1; exact (o1 : False).elim
end
end Eng

set_option Elab.async false
set_option linter.all false
set_option maxRecDepth 100000
set_option maxHeartbeats 1000000
/-! Statements: two lists of their own at once, three names at once, an item changed in place. -/
namespace Eng
open PySem PySem.Spec PyProof.Rows L2
section
variable {G : Cfg} {N : List Str} {C : Calls} {XR : XRel} {X : Cx} {W : WX} {c : Sc} {L : Nat} {s e v : Expr} {pos : Pos}
theorem s_par2oo (g : GX G N C XR X W c) {fa fb : Env → Mem → R U} {i j : Nat} {x y : Str} {px py pt pt2 sp : Pos} {kt k2 : Nat} {l r : Expr} (hp : parB N c i j x y px py l r = true) (ha : PE X l (tF X.K XR W fa)) (hb : PE X r (tF X.K XR W fb)) :
    PS X (.Assign [.Tuple [.Name x px, .Name y py] kt pt] (.Tuple [l, r] k2 pt2) sp) (tS X.K XR W fun σ m => (fa σ m).bind fun x m1 => match x with
    | .dat (.list xs) => (fb σ m1).bind fun y m2 => match y with
      | .dat (.list ys) => match (setE σ i (.own xs)).bind fun σ' => setE σ' j (.own ys) with
        | some σ' => .ok (.nx, σ') m2
        | none => .bad
      | _ => .bad
    | _ => .bad) := by
  unfold parB at hp
  simp only [Bool.and_eq_true, decide_eq_true_eq, Bool.not_eq_true'] at hp
  obtain ⟨⟨⟨⟨⟨⟨⟨⟨⟨⟨⟨h1, h2⟩, h3⟩, h4⟩, h5⟩, h6⟩, h7⟩, h8⟩, h9⟩, h10⟩, h11⟩, h12⟩ := hp
  have lx : X.env.scope.names.lookup x = some .local := by rw [g.sc]; exact h4
  have ly : X.env.scope.names.lookup y = some .local := by rw [g.sc]; exact h5
  refine PS.imp (ps_par g.calm g.nd (by rw [g.hN]; exact h1) (by rw [g.hN]; exact h2) h3 lx ly (pa_cons ha (pa_cons hb pa_nil (star_pl h12)) (star_pl h11)) (sw_par (kindB_ok g h8) lx ly h6 h7 h9 h10 h11 h12) rfl) fun D σ H ⟨B, Hf, ρ, ω, env, m, s, o⟩ => ?_
  obtain ⟨A, B', D', E, F', a1, o1⟩ := s.bindF o
  refine ⟨A, B', D', E, F', a1, o1.mono fun x H1 ⟨u, Hf1, ρ1, m1, p, s1, r, o1⟩ => ?_⟩
  obtain ⟨q, vs, xs, rfl, rfl, h0, k1, k2, k3, k4, k5⟩ := r
  simp only at o1
  obtain ⟨A, B', D', E, F', a2, o2⟩ := s1.bindF o1
  refine ⟨A, B', D', E, F', a2, o2.mono fun y H2 ⟨u2, Hf2, ρ2, m2, p2, s2, r2, o2⟩ => ?_⟩
  obtain ⟨q', vs', ys, rfl, rfl, h0', k1', k2', k3', k4', k5'⟩ := r2
  refine ⟨_, _, rfl, ?_⟩
  simp only at o2
  cases hs : (setE env i (.own xs)).bind fun σ' => setE σ' j (.own ys) with
  | none => rw [hs] at o2; exact o2.elim
  | some env' =>
    rw [hs] at o2
    rw [Option.bind_eq_some_iff] at hs
    obtain ⟨e1, q1, q2⟩ := hs
    obtain ⟨hi, rfl⟩ := setE_some q1
    obtain ⟨hj, rfl⟩ := setE_some q2
    obtain ⟨z1, z2, z3⟩ := p2.kp _ _ k1 k2 k3
    have hqq : q ≠ q' := ne_of_none k1 h0'
    have s3 := s2.setOwn hi z1 z2 z3 (DpAll.mono p2.fz _ _ k4) k5 (fun j ys e => s.own_ne h0 e) (s.base_none h0)
    refine StAt.ok (x := (F.nx, _)) (s3.setOwn hj k1' k2' k3' k4' k5' (fun j' zs e => ?_) (s1.base_none h0')) o2
    rcases set_get_own e with ⟨rfl, rfl, _⟩ | ⟨hj', e⟩
    · simp only [if_true]; exact hqq
    · simp only [if_neg hj']; exact s1.own_ne h0' e
/-- x.append(e), x a list that may change -/
theorem s_appM (g : GX G N C XR X W c) {fe : Env → Mem → R U} {i : Nat} {x : Str} {p ap cp sp : Pos} (h1 : N[i]? = some x) (h2 : visB c x = true) (hv : pl v = true) (hl : (ap.endLine == cp.line) = true) (he : PE X v (tU X.K XR W fe)) :
    PS X (.Expr (.Call (.Attribute (.Name x p) "append" ap) [v] [] cp) sp) (tS X.K XR W fun σ m => match σ[i]? with
    | some (.v (.ref k)) => match m[k]? with
      | some (.lst _) => (fe σ m).bind fun u m1 => appMGo σ k u m1
      | _ => .bad
    | _ => .bad) := by
  obtain ⟨v1, v2, v3⟩ := g.vis h2
  have hfew : ((backTo cp (starEach (v :: []) X.env)).all (fun x => !x.1) && (backToKw cp (keywordEach [] X.env)).all (fun x => x.1.isSome)
      && decide ((v :: []).length + ([] : List Keyword).length + (if ([] : List Keyword).isEmpty then 0 else 1) < 30)) = true := by
    rw [star_pl hv]; rfl
  refine PS.imp (ps_expr (pe_bm PySem.F.plainAttrs_list PySem.F.slot_list_append PySem.F.type_list_append mt_append (pe_var (i := i) (by rw [g.hN]; exact h1) v1 v2 v3) (pa_cons he pa_nil (star_pl hv)) rfl hfew hl (star_pl hv) rfl) rfl) fun D σ H ⟨B, Hf, ρ, ω, env, m, s, o⟩ => ?_
  dsimp only at o
  split at o
  case h_2 => exact o.elim
  rename_i k ek
  split at o
  case h_2 => exact o.elim
  rename_i xs0 em
  obtain ⟨v, q1, q, eq, rfl⟩ := s.at_.slots.val i (.ref k) ek
  obtain ⟨vs, q4, q6, q5⟩ := s.at_.fine.at_ k q _ eq em
  refine ⟨_, q1, .inl ⟨rfl, vs, .inl (.inl q4)⟩, ?_⟩
  obtain ⟨A, B', D', E, F', a1, o1⟩ := s.bindE (Rp := RU X.K) o
  refine ⟨A, B', D', E, F', a1, o1.mono fun x H1 ⟨u, Hf1, ρ1, m1, p, s1, r, o1⟩ => ?_⟩
  cases u with
  | ref i => exact (o1 : False).elim
  | dat d =>
    simp only [appMGo] at o1
    split at o1
    case h_2 => exact (o1 : False).elim
    rename_i xs em1
    have eq1 : ρ1[k]? = some q := by
      obtain ⟨t, et⟩ := p.pre
      rw [et, List.getElem?_append_left (List.getElem?_eq_some_iff.mp eq).1]; exact eq
    obtain ⟨vs, q4, q6, q5⟩ := s1.at_.fine.at_ k q _ eq1 em1
    by_cases hz : xs.length < sizeLine
    · rw [if_pos hz] at o1
      exact ⟨_, vs, x, rfl, rfl, q4, by rw [q6.len]; exact hz, StAt.ok (x := (F.nx, _)) (s1.setM eq1 (q6.app (.cons r.1 .nil)) (sz_push q5 r.2 hz)) o1⟩
    · rw [if_neg hz] at o1; exact (o1 : False).elim
end
end Eng

set_option Elab.async false
set_option linter.all false
set_option maxRecDepth 100000
set_option maxHeartbeats 1000000
/-! Statements: xs.extend(ys), two items stored at once, x = xs.pop(). -/
namespace Eng
open PySem PySem.Spec PyProof.Rows L2
section
variable {G : Cfg} {N : List Str} {C : Calls} {XR : XRel} {X : Cx} {W : WX} {c : Sc} {L : Nat} {s e v : Expr} {pos : Pos}
end
end Eng

set_option Elab.async false
set_option linter.all false
set_option maxRecDepth 100000
set_option maxHeartbeats 1000000
/-! try: .. except ..: suites. -/
namespace Eng
open PySem PySem.Spec PyProof.Rows L2
section
variable {G : Cfg} {N : List Str} {C : Calls} {XR : XRel} {X : Cx} {W : WX} {c : Sc}
def endT (K : PySem.W.Frag) (md : TM) (D : Ends) (σ : L2.St) (v : V) (H : Hp) : Prop := match md with
  | .ex => D.nx σ H
  | .exr d => ∀ w, (∀ H, Dp K H w d) → szOk d = true → D.rt w H
  | .rt => D.rt v H
def tTB (K : PySem.W.Frag) (XR : XRel) (md : TM) (fe : Env → Mem → R U) (W : WX) : TS := fun D σ H => tU K XR W fe σ H fun v H1 => endT K md D σ v H1
end
end Eng

set_option Elab.async false
set_option linter.all false
set_option maxRecDepth 100000
set_option maxHeartbeats 1000000
/-! Statements: loops, a list comprehension into a name, THE LAW. -/
namespace Eng
open PySem PySem.Spec PyProof.Rows L2
section
variable {G : Cfg} {N : List Str} {C : Calls} {XR : XRel} {X : Cx} {W : WX} {c : Sc} {L : Nat} {s e v : Expr} {pos : Pos}
theorem sw_isCell {env : PySem.Env} {x : Str} {p vp : Pos} {e : Expr} {ks : List Comprehension} {scope : Scope} {l : Nat} (h : env.scope.names.lookup x = some .cell) : swapsWith (.ListComp e ks scope vp) (some (.Name x p)) l env = pure false := by
  have h' : env.kindOf x = some .cell := h
  unfold swapsWith
  have e2 : ((NameKind.cell == NameKind.local) : Bool) = false := by decide
  simp [h', e2]
theorem sw_lc (g : GX G N C XR X W c) {i : Nat} {x : Str} {p sp : Pos} {a : E} (h1 : N[i]? = some x) (h2 : locB c x = true) (hf : isF a = true) (h : okE G N a c v = true) (hs : swC c x p v = true) : PS X (.Assign [.Name x p] v sp) (tAsg (tF X.K XR W (evE C a)) (gName i)) := by
  by_cases hn : noLc v = true
  · exact sw_set g h1 h2 hn (sndF g hf h)
  by_cases hcl : c.sc.names.lookup x = some .cell ∧ ∃ e k sc vp, v = .ListComp e k sc vp
  · obtain ⟨hc, e, k, sc, vp, rfl⟩ := hcl
    exact ps_set g.nd (by rw [g.hN]; exact h1) (g.loc h2).1 (sndF g hf h) (sw_isCell (by rw [g.sc]; exact hc)) (g.loc h2).2
  · cases a <;> simp only [isF, Bool.false_eq_true] at hf
    case lst es =>
      simp only [okE] at h; split at h
      · exact absurd rfl hn
      · cases h
    case lmul es k =>
      simp only [okE] at h; split at h
      · exact absurd rfl hn
      · cases h
    case ladd a b =>
      simp only [okE] at h; split at h
      · exact absurd rfl hn
      · cases h
    case b1 f a =>
      simp only [okE] at h; split at h
      · exact absurd rfl hn
      · cases h
    case comp elt tg it cond own =>
      simp only [okE] at h; split at h
      · rename_i e t k ifs scope vp
        unfold swC at hs
        simp only [Bool.or_eq_true, Bool.and_eq_true, decide_eq_true_eq, Bool.not_eq_true'] at hs
        obtain ⟨⟨⟨k1, k2⟩, k3⟩, k4⟩ := hs.resolve_left fun z => hcl ⟨z, _, _, _, _, rfl⟩
        have ly : X.env.scope.names.lookup x = some .local := by rw [g.sc]; exact k2
        simp only [Bool.and_eq_true] at h
        obtain ⟨⟨⟨⟨⟨⟨h1', h2'⟩, h3⟩, h4⟩, h5⟩, h6⟩, h7⟩ := h
        have hs' : ∀ i ∈ slotsTg tg, i ∈ own.map (·.2) := fun i hi => by
          have := List.all_eq_true.mp h5 i hi
          simpa using this
        refine PS.imp (ps_setLc (own := own) (g := gT X.K tg) (tt := tC X.K XR (if isNo cond = true then none else some (evE C cond))) (te := tU X.K XR WF (evE C elt)) g.calm g.nd (by rw [g.hN]; exact h1) ly (sw_true (kindB_ok g k4) ly k1 k3) (sndI it g h2') (blkOk_by (by rw [g.hN, g.sc]; exact h1'))
          (fun s H D cl fp => pg_T (g.blk s H scope cl D fp) h4)
          (fun s H D cl fp => (condOk (C := C) (XR := XR) (X := X.blk s H scope (compEnvC scope cl D X.env) fp) (cond := cond) (by
            split at h7
            · exact h7
            · simp only [Bool.and_eq_true, Bool.not_eq_true'] at h7
              exact ⟨h7.1, (snd cond (g.blk s H scope cl D fp) h7.2).2⟩
            · cases h7) : PTs (X.blk s H scope (compEnvC scope cl D X.env) fp) ifs (tC X.K XR (if isNo cond = true then none else some (evE C cond)))))
          (fun s H D cl fp => ((snd elt (g.blk s H scope cl D fp) h6).1 : PE _ e (tU X.K XR WF (evE C elt)))) (folded_pl h3)) fun D σ H q => ?_
        refine lc_imp hs' ?_
        simp only [evE, cA_oQ] at q
        exact q
      · cases h
    case comp2 elt tg it tg' it' cond own =>
      simp only [okE] at h; split at h
      · rename_i e t k t' k' ifs scope vp
        unfold swC at hs
        simp only [Bool.or_eq_true, Bool.and_eq_true, decide_eq_true_eq, Bool.not_eq_true'] at hs
        obtain ⟨⟨⟨k1, k2⟩, k3⟩, k4⟩ := hs.resolve_left fun z => hcl ⟨z, _, _, _, _, rfl⟩
        have ly : X.env.scope.names.lookup x = some .local := by rw [g.sc]; exact k2
        simp only [Bool.and_eq_true] at h
        obtain ⟨⟨⟨⟨⟨⟨⟨⟨⟨⟨h1', h2'⟩, h3⟩, h4⟩, h5⟩, h6⟩, h7⟩, h8⟩, h9⟩, h10⟩, h11⟩ := h
        have hs' : ∀ i ∈ slotsTg tg, i ∈ own.map (·.2) := fun i hi => by
          have := List.all_eq_true.mp h5 i hi
          simpa using this
        have hs2' : ∀ i ∈ slotsTg tg', i ∈ own.map (·.2) := fun i hi => by
          have := List.all_eq_true.mp h9 i hi
          simpa using this
        refine PS.imp (ps_setLc2 (own := own) (g := gT X.K tg) (tt := tYes) (g1 := gT X.K tg') (tt1 := tC X.K XR (if isNo cond = true then none else some (evE C cond))) (te := tU X.K XR WF (evE C elt)) (wi1 := tI X.K XR WF (evI C it')) (vs1 := slotsTg tg') g.calm g.nd (by rw [g.hN]; exact h1) ly (sw_true (kindB_ok g k4) ly k1 k3) (sndI it g h2') (blkOk_by (by rw [g.hN, g.sc]; exact h1')) hs2'
          (fun s H D cl fp => pg_T (g.blk s H scope cl D fp) h4) (fun s H D cl fp => pts_nil) (fun s H D cl fp => sndI it' (g.blk s H scope cl D fp) h6) (fun s H D cl fp => pg_T (g.blk s H scope cl D fp) h8)
          (fun s H D cl fp => (condOk (C := C) (XR := XR) (X := X.blk s H scope (compEnvC scope cl D X.env) fp) (cond := cond) (by
            split at h11
            · exact h11
            · simp only [Bool.and_eq_true, Bool.not_eq_true'] at h11
              exact ⟨h11.1, (snd cond (g.blk s H scope cl D fp) h11.2).2⟩
            · cases h11) : PTs (X.blk s H scope (compEnvC scope cl D X.env) fp) ifs (tC X.K XR (if isNo cond = true then none else some (evE C cond)))))
          (fun s H D cl fp => ((snd elt (g.blk s H scope cl D fp) h10).1 : PE _ e (tU X.K XR WF (evE C elt)))) (folded_pl h3) (fun env => folded_pl h7)) fun D σ H q => ?_
        refine lc2_imp hs' ?_
        simp only [evE, cA_oQ] at q
        exact q
      · cases h
theorem sw_rs (g : GX G N C XR X W c) {i : Nat} {x : Str} {p sp : Pos} {a : E} (h1 : N[i]? = some x) (h2 : locB c x = true) (hf : isRs a = true) (h : okE G N a c v = true) (hs : swC c x p v = true) : PS X (.Assign [.Name x p] v sp) (tAsg (tU X.K XR W (evE C a)) (gName i)) := by
  cases a <;> simp only [isRs, Bool.false_eq_true] at hf
  case newRs tg it own =>
    have hE := (snd (.newRs tg it own) g h).1
    by_cases hcl : c.sc.names.lookup x = some .cell ∧ ∃ e k sc vp, v = .ListComp e k sc vp
    · obtain ⟨hc, e, k, sc, vp, rfl⟩ := hcl
      exact ps_set g.nd (by rw [g.hN]; exact h1) (g.loc h2).1 hE (sw_isCell (by rw [g.sc]; exact hc)) (g.loc h2).2
    · simp only [okE] at h; split at h
      · rename_i lp t k scope vp
        unfold swC at hs
        simp only [Bool.or_eq_true, Bool.and_eq_true, decide_eq_true_eq, Bool.not_eq_true'] at hs
        obtain ⟨⟨⟨k1, k2⟩, k3⟩, k4⟩ := hs.resolve_left fun z => hcl ⟨z, _, _, _, _, rfl⟩
        have ly : X.env.scope.names.lookup x = some .local := by rw [g.sc]; exact k2
        simp only [Bool.and_eq_true] at h
        obtain ⟨⟨⟨⟨h1', h2'⟩, h3⟩, h4⟩, h5⟩ := h
        have hs' : ∀ i ∈ slotsTg tg, i ∈ own.map (·.2) := fun i hi => by
          have := List.all_eq_true.mp h5 i hi
          simpa using this
        refine PS.imp (ps_setLc (own := own) (g := gT X.K tg) (tt := tC X.K XR none) (te := tLst tNil) g.calm g.nd (by rw [g.hN]; exact h1) ly (sw_true (kindB_ok g k4) ly k1 k3) (sndI it g h2') (blkOk_by (by rw [g.hN, g.sc]; exact h1'))
          (fun s H D cl fp => pg_T (g.blk s H scope cl D fp) h4) (fun s H D cl fp => pts_nil) (fun s H D cl fp => pe_lst pa_nil) (folded_pl h3)) fun D σ H q => ?_
        refine rs_imp hs' ?_
        simp only [evE] at q
        exact q
      · cases h
theorem s_for (hp : PassesOwn (model X.prog X.w) X.A X.env X.xe) (g : GX G N C XR X W c) {fi : Env → Mem → R (List PyData)} {fb : Env → Mem → R (F × Env)} {tg : Tg} {t i : Expr} {body : List Stmt} (ht : okTg N c tg t = true) (hi : PI X t i (tI X.K XR W fi)) (hpl : pl i = true) (hb : PSs X body (tS X.K XR W fb)) :
    PS X (.For t i body [] pos) (tS X.K XR W fun σ m => (fi σ m).bind fun ds m1 => forGo fb tg ds σ m1) := by
  refine PS.imp (ps_for hp g.calm hi (pg_T g ht) hb (folded_pl hpl)) fun D σ H ⟨B, Hf, ρ, ω, env, m, s, o⟩ => ?_
  obtain ⟨A, B', D', E, F', a1, o1⟩ := s.bindE (Rp := RI X.K) o
  refine ⟨A, B', D', E, F', a1, o1.mono fun J H1 ⟨ds, Hf1, ρ1, m1, p, s1, ⟨hJ, hz⟩, o1⟩ => ?_⟩
  refine ⟨fun i k σ H => ∃ Hf ρ ω env m, i ≤ ds.length ∧ k = ds.length - i ∧ StAt X.K ⟨B.H, B.Hf, B.ρ, Hf1⟩ σ H Hf ρ ω env m ∧ OutS X.K XR W B D (forGo fb tg (ds.drop i) env m),
    ⟨_, Hf1, ρ1, ω, env, m1, Nat.zero_le _, rfl, ⟨s1.fine0, s1.pres, Sub.refl _, s1.at_, s1.new⟩, o1⟩, fun i k σ2 H2 ⟨Hf2, ρ2, ω2, env2, m2, hi, hk, s2, o2⟩ => ?_⟩
  have back : ∀ {σ H Hf ρ ω env m}, StAt X.K ⟨B.H, B.Hf, B.ρ, Hf1⟩ σ H Hf ρ ω env m → StAt X.K B σ H Hf ρ ω env m := fun q => ⟨q.fine0, q.pres, s1.low.trans q.low, q.at_, q.new⟩
  by_cases he : i = ds.length
  · subst he
    rw [List.drop_length] at o2
    refine .inl ⟨(hJ H2 Hf2 s2.low s2.at_.fine.sub _).2 rfl, ?_⟩
    exact StAt.ok (x := (F.nx, env2)) (back s2) o2
  · have hlt : i < ds.length := by omega
    rw [drop_cons hlt] at o2
    unfold forGo at o2
    obtain ⟨hgo, hy⟩ := Pres.turn (hJ.mono s2.low) s2.at_.fine (List.getElem?_eq_getElem hlt)
    have hzd : szOk ds[i] = true := szAll_iff.mp hz _ (List.getElem_mem hlt)
    refine .inr ⟨hgo, fun σ H => ∃ Hf ρ ω env m, StAt X.K ⟨B.H, B.Hf, B.ρ, Hf1⟩ σ H Hf ρ ω env m ∧ OutS X.K XR W B D (forGo fb tg (ds.drop (i + 1)) env m), fun σ' H' ⟨Hf, ρ, ω, env, m, q1, q2⟩ => ⟨_, (by omega : ds.length - (i + 1) < k), Hf, ρ, ω, env, m, hlt, rfl, q1, q2⟩, fun x H3 hyl => ?_⟩
    obtain ⟨Hf3, p3, f3, hdp⟩ := hy x H3 hyl
    have s3 := s2.step p3 f3
    cases ha : asgTg tg ds[i] env2 with
    | none => rw [ha] at o2; exact o2.elim
    | some env' =>
      rw [ha] at o2
      simp only at o2
      refine gT_ok s3.at_ hdp hzd ha fun σ' a' _ => ?_
      refine ⟨⟨B.H, B.Hf, B.ρ, Hf1⟩, Hf3, ρ2, ω2, env', m2, ⟨s3.fine0, s3.pres, s3.low, a', fun j xs e => s3.new j xs (asgTg_own ha e)⟩, ?_⟩
      cases hf : fb env' m2 with
      | bad => rw [hf] at o2; exact o2.elim
      | exc cc xx mm => rw [hf] at o2; exact o2
      | ok y m4 =>
        rw [hf, R.bind_ok] at o2
        intro σ5 H5 Hf5 ρ5 ω5 s5
        obtain ⟨fl, env5⟩ := y
        cases fl with
        | nx => exact ⟨Hf5, ρ5, ω5, env5, m4, s5, o2⟩
        | cnt => exact ⟨Hf5, ρ5, ω5, env5, m4, s5, o2⟩
        | brk => exact StAt.ok (XR := XR) (W := W) (D := D) (x := (F.nx, env5)) (back s5) o2
        | ret u => exact StAt.ok (XR := XR) (W := W) (D := D) (x := (F.ret u, env5)) (back s5) o2
/-- a statement: no reading where the evaluator has none -/
theorem s_never {f : Env → Mem → R (F × Env)} {st : Stmt} (h : ∀ σ m, f σ m = .bad) : PS X st (tS X.K XR W f) := PS.imp ps_never fun D σ H ⟨B, Hf, ρ, ω, env, m, s, o⟩ => by rw [h] at o; exact o
theorem s_raise (g : GX G N C XR X W c) {k : Nat} {p : Str × Str} {fe : Env → Mem → R U} {a : Expr} {np cp pos : Pos} (hgl : glB c p.1 = true) (hk : G.cl[k]? = some p) (he : PE X a (tU X.K XR W fe)) (hp : pl a = true) :
    PS X (.Raise (some (.Call (.Name p.1 np) [a] [] cp)) none pos) (tS X.K XR W fun σ m => (fe σ m).bind fun u m1 => .exc k u m1) := by
  obtain ⟨q1, q2⟩ := g.glo hgl
  obtain ⟨Ck, fI, T⟩ := g.xt.cls k p hk
  obtain ⟨kr, hr⟩ := g.rm
  refine PS.imp (ps_raiseOwn g.calm T hr g.takes (pa_cons he pa_nil (star_pl hp)) q1 q2 (star_pl hp) rfl) fun D σ H ⟨B, Hf, ρ, ω, env, m, s, o⟩ => ?_
  obtain ⟨A, B', D', E, F', a1, o1⟩ := s.bindE (Rp := RU X.K) o
  refine ⟨A, B', D', E, F', a1, o1.mono fun v H1 ⟨u, Hf1, ρ1, m1, p1, s1, r, o2⟩ => ?_⟩
  refine ⟨v, rfl, fun d hd => ?_⟩
  refine o2 _ _ σ _ (upd Hf1 d (.xd [(p.2, v)])) ρ1 (s1.pres.trans (Pres.new hd s1.at_.fine.sub)) (s1.at_.fine.new hd) ?_
  rw [g.xr]
  exact ⟨p, Ck, d, v, hk, T.gC, rfl, rfl, upd_same, r.pres (Pres.new hd s1.at_.fine.sub)⟩
mutual
theorem sndS (hp : PassesOwn (model X.prog X.w) X.A X.env X.xe) (hq : X.stack = X.env :: X.outer ∧ X.env.frame = some X.env.locals) (g : GX G N C XR X W c) : ∀ (s : S) {st : Stmt}, okS G N c s st = true → PS X st (tS X.K XR W (evS L C s))
  | .asg i e, st, h => by
    simp only [okS] at h; split at h
    · simp only [Bool.and_eq_true, decide_eq_true_eq] at h
      obtain ⟨⟨⟨h1, h2⟩, h3⟩, h4⟩ := h
      rcases (Bool.or_eq_true _ _).mp h4 with h4 | h4
      · exact s_asg (sw_set g h1 h2 h4 (snd e g h3).1)
      · obtain ⟨h4, h5⟩ := (Bool.and_eq_true _ _).mp h4
        exact s_asg (sw_rs g h1 h2 h4 h3 h5)
    · cases h
  | .own i e, st, h => by
    simp only [okS] at h; split at h
    · simp only [Bool.and_eq_true, decide_eq_true_eq] at h
      obtain ⟨⟨⟨⟨h1, h2⟩, h3⟩, h4⟩, h5⟩ := h
      exact s_own (sw_lc g h1 h2 h4 h3 h5)
    · cases h
  | .frz i, st, h => by simp [okS] at h
  | .asgT ts e, st, h => by
    simp only [okS] at h; split at h
    · simp only [Bool.and_eq_true, Bool.or_eq_true, Bool.not_eq_true'] at h
      obtain ⟨⟨h1, h2⟩, h3⟩ := h
      exact s_asgT g h1 (snd e g h2).1 h3
    · cases h
  | .par2 i j a b, st, h => by simp [okS] at h
  | .par2o i j a b, st, h => by
    simp only [okS] at h; split at h
    · simp only [Bool.and_eq_true] at h
      obtain ⟨⟨⟨h1, h2⟩, h3⟩, h4⟩ := h
      exact s_par2o g h1 (snd a g h2).1 (sndF g h4 h3)
    · cases h
  | .par1o i j a b, st, h => by simp [okS] at h
  | .asgTo i j a b, st, h => by simp [okS] at h
  | .par2oo i j a b, st, h => by
    simp only [okS] at h; split at h
    · simp only [Bool.and_eq_true] at h
      obtain ⟨⟨⟨⟨h1, h2⟩, h3⟩, h4⟩, h5⟩ := h
      exact s_par2oo g h1 (sndF g h4 h2) (sndF g h5 h3)
    · cases h
  | .par3o i j k a b d, st, h => by simp [okS] at h
  | .par3z i j k a b d, st, h => by simp [okS] at h
  | .par3m i j k a b d, st, h => by simp [okS] at h
  | .augO i ix o e, st, h => by simp [okS] at h
  | .setOP i ix j e, st, h => by simp [okS] at h
  | .setO i ix e, st, h => by
    simp only [okS] at h; split at h
    · simp only [Bool.and_eq_true, decide_eq_true_eq] at h
      obtain ⟨⟨⟨⟨h1, h2⟩, h3⟩, h4⟩, h5⟩ := h
      exact s_setO g h1 h2 h4 (snd ix g h3).1 (snd e g h5).1
    · cases h
  | .setM r ix e, st, h => by
    simp only [okS] at h; split at h
    · simp only [Bool.and_eq_true] at h
      obtain ⟨⟨⟨h1, h2⟩, h3⟩, h4⟩ := h
      exact s_setM g h3 (snd r g h1).1 (snd ix g h2).1 (snd e g h4).1
    · cases h
  | .app i e, st, h => by
    simp only [okS] at h; split at h
    · simp only [Bool.and_eq_true, decide_eq_true_eq] at h
      obtain ⟨⟨⟨⟨⟨rfl, h1⟩, h2⟩, h3⟩, h4⟩, h5⟩ := h
      exact s_app g h1 h2 h4 h5 (snd e g h3).1
    · cases h
  | .ext i e, st, h => by simp [okS] at h
  | .setO2 i ix ix2 e, st, h => by simp [okS] at h
  | .appM i e, st, h => by
    simp only [okS] at h; split at h
    · simp only [Bool.and_eq_true, decide_eq_true_eq] at h
      obtain ⟨⟨⟨⟨⟨rfl, h1⟩, h2⟩, h3⟩, h4⟩, h5⟩ := h
      exact s_appM g h1 h2 h4 h5 (snd e g h3).1
    · cases h
  | .popO i j, st, h => by simp [okS] at h
  | .aug i o e, st, h => by simp [okS] at h
  | .expr e, st, h => by
    simp only [okS] at h; split at h
    · simp only [Bool.and_eq_true] at h
      refine PS.imp (ps_expr (snd e g h.1).1 (sw_no h.2)) fun D σ H ⟨B, Hf, ρ, ω, env, m, s, o⟩ => ?_
      simp only [evS] at o
      obtain ⟨A, B', D', E, F', a1, o1⟩ := s.bindE (Rp := RU X.K) o
      exact ⟨A, B', D', E, F', a1, o1.mono fun x H1 ⟨u, Hf1, ρ1, m1, p, s1, r, o1⟩ => StAt.ok (x := (F.nx, env)) s1 o1⟩
    · cases h
  | .ife k t f, st, h => by
    simp only [okS] at h; split at h
    · simp only [Bool.and_eq_true] at h
      obtain ⟨⟨h1, h2⟩, h3⟩ := h
      refine PS.imp (ps_if (snd k g h1).2 (sndSs hp hq g t h2) (sndSs hp hq g f h3)) fun D σ H ⟨B, Hf, ρ, ω, env, m, s, o⟩ => ?_
      simp only [evS] at o
      obtain ⟨A, B', D', E, F', a1, o1⟩ := s.bindE (f := fun σ m => (evE C k σ m).bind asB) (Rp := RBl) o
      refine ⟨A, B', D', E, F', a1, o1.mono fun b H1 ⟨u, Hf1, ρ1, m1, p, s1, r, o1⟩ => ?_⟩
      cases r
      cases b with
      | true => exact ⟨B, Hf1, ρ1, ω, env, m1, s1, o1⟩
      | false => exact ⟨B, Hf1, ρ1, ω, env, m1, s1, o1⟩
    · cases h
  | .for_ tg it body, st, h => by
    simp only [okS] at h; split at h
    · simp only [Bool.and_eq_true] at h
      obtain ⟨⟨⟨h1, h2⟩, h3⟩, h4⟩ := h
      exact s_for hp g h1 (sndI it g h2) h3 (sndSs hp hq g body h4)
    · cases h
  | .whl k body, st, h => by simp [okS] at h
  | .ret e, st, h => by
    simp only [okS] at h; split at h
    · refine PS.imp (ps_ret (snd e g h).1) fun D σ H ⟨B, Hf, ρ, ω, env, m, s, o⟩ => ?_
      simp only [evS] at o
      obtain ⟨A, B', D', E, F', a1, o1⟩ := s.bindE (Rp := RU X.K) o
      exact ⟨A, B', D', E, F', a1, o1.mono fun x H1 ⟨u, Hf1, ρ1, m1, p, s1, r, o1⟩ => StAt.ok (x := (F.ret u, env)) s1 o1 x r⟩
    · cases h
  | .retN, st, h => by
    simp only [okS] at h; split at h
    · refine PS.imp ps_retN fun D σ H ⟨B, Hf, ρ, ω, env, m, s, o⟩ => ?_
      exact StAt.ok (x := (F.ret (.dat .none), env)) s o _ ⟨.non, rfl⟩
    · cases h
  | .brk, st, h => by
    simp only [okS] at h; split at h
    · exact PS.imp ps_break fun D σ H ⟨B, Hf, ρ, ω, env, m, s, o⟩ => StAt.ok (x := (F.brk, env)) s o
    · cases h
  | .cnt, st, h => by
    simp only [okS] at h; split at h
    · exact PS.imp ps_continue fun D σ H ⟨B, Hf, ρ, ω, env, m, s, o⟩ => StAt.ok (x := (F.cnt, env)) s o
    · cases h
  | .pass, st, h => by
    simp only [okS] at h; split at h
    · exact PS.imp ps_pass fun D σ H ⟨B, Hf, ρ, ω, env, m, s, o⟩ => StAt.ok (x := (F.nx, env)) s o
    · exact PS.imp ps_doc fun D σ H ⟨B, Hf, ρ, ω, env, m, s, o⟩ => StAt.ok (x := (F.nx, env)) s o
    · cases h
  | .raise k e, st, h => by
    cases hno : isNo e with
    | true =>
      refine s_never fun σ m => ?_
      cases e <;> simp only [isNo, Bool.false_eq_true] at hno
      rfl
    | false =>
      simp only [okS, hno, Bool.false_or] at h; split at h
      · simp only [Bool.and_eq_true] at h
        obtain ⟨⟨⟨h1, h2⟩, h3⟩, h4⟩ := h
        split at h1
        · rename_i p hp0
          have := of_decide_eq_true h1
          subst this
          exact s_raise g h2 hp0 (snd e g h3).1 h4
        · cases h1
      · cases h
  | .tryO md e k d, st, h => by simp [okS] at h
  | .tryX md e i k hs, st, h => by simp [okS] at h
theorem sndSs (hp : PassesOwn (model X.prog X.w) X.A X.env X.xe) (hq : X.stack = X.env :: X.outer ∧ X.env.frame = some X.env.locals) (g : GX G N C XR X W c) : ∀ (ss : Ss) {l : List Stmt}, okSs G N c ss l = true → PSs X l (tS X.K XR W (evSs L C ss))
  | .nil, l, h => by
    cases l with
    | nil => exact PSs.imp pss_nil fun D σ H ⟨B, Hf, ρ, ω, env, m, s, o⟩ => StAt.ok (x := (F.nx, env)) s o
    | cons _ _ => simp [okSs] at h
  | .cons s ss, l, h => by
    by_cases hs : ∃ i, s = .frz i
    · obtain ⟨i, rfl⟩ := hs
      simp only [okSs] at h
      refine PSs.imp (sndSs hp hq g ss h) fun D σ H ⟨B, Hf, ρ, ω, env, m, s, o⟩ => ?_
      simp only [evSs, evS] at o
      split at o
      · rename_i xs e
        rw [R.bind_ok] at o
        obtain ⟨Hf', s'⟩ := s.frz e
        exact ⟨B, Hf', ρ, ω, _, m, s', o⟩
      · rw [R.bind_ok] at o
        exact ⟨B, Hf, ρ, ω, env, m, s, o⟩
      · exact o.elim
    · cases l with
      | nil => cases s <;> first | (exact absurd ⟨_, rfl⟩ hs) | (simp [okSs] at h)
      | cons st r =>
        have h' : okS G N c s st = true ∧ okSs G N c ss r = true := by
          cases s <;> first | (exact absurd ⟨_, rfl⟩ hs) | (simpa only [okSs, Bool.and_eq_true] using h)
        refine PSs.imp (pss_cons (sndS hp hq g s h'.1) (sndSs hp hq g ss h'.2)) fun D σ H ⟨B, Hf, ρ, ω, env, m, s1, o⟩ => ?_
        simp only [evSs] at o
        refine ⟨B, Hf, ρ, ω, env, m, s1, OutS.bindS o fun x m' σ' H' Hf' ρ' ω' e s2 o2 => ?_⟩
        obtain ⟨fl, env'⟩ := x
        cases fl with
        | nx => exact ⟨B, Hf', ρ', ω', env', m', s2, o2⟩
        | brk => exact StAt.ok (XR := XR) (W := W) (D := D) (x := (F.brk, env')) s2 o2
        | cnt => exact StAt.ok (XR := XR) (W := W) (D := D) (x := (F.cnt, env')) s2 o2
        | ret u => exact StAt.ok (XR := XR) (W := W) (D := D) (x := (F.ret u, env')) s2 o2
end
end
end Eng

set_option Elab.async false
set_option linter.all false
set_option maxRecDepth 100000
set_option maxHeartbeats 1000000
/-! Defs: every def of a checked table, called n deep. The end of a law. -/
namespace Eng
open PySem PySem.Spec PyProof.Rows L2

/-- the def's name, if it makes lambdas -/
def lamOf (G : Cfg) (x : Str) : Option Str := if x ∈ G.lams then some x else none
structure Tab (Pg : Program) (w : World) (K : PySem.W.Frag) (mg : Str → Option Value) (G : Cfg) (P : Prog) : Prop where
  defs : ∀ f fd, P f = some fd → ∃ st a fdat ps, ps.length = fd.np ∧ Fun K fd.name fd.name st a fdat ∧ mg fd.name = some (.ref a) ∧ (G.kwo.contains f = false → Binds K fdat ps []) ∧ FnScope fd.N ps (defScope st) ∧
    okSs G fd.N ⟨defScope st, fun _ => true, lamOf G fd.name⟩ fd.body (defBody st) = true ∧ ∀ na ks perm, (f, na, ks, perm) ∈ G.kb → KB fdat ps na ks perm
  nm : ∀ f x, G.nm f = some x → ∃ fd, P f = some fd ∧ fd.name = x
  bn : ∀ x ∈ bnames, mg x = none
  gl : ∀ x d, (x, d) ∈ G.gl → ∃ u, mg x = some u ∧ (∀ v, sEq d v = true → ∃ z, RelV z u ∧ (∀ H, Dp K H z v) ∧ szOk v = true)
  gdt : ∀ x kvs nks, (x, kvs, nks) ∈ G.gd → ∃ a es n, mg x = some (.ref a) ∧ KDict K w a es n ∧ (∀ k i, (k, i) ∈ kvs → ∃ t, PySem.W.nsIn K a k = some (some (.int i t))) ∧ ∀ k ∈ nks, PySem.W.nsIn K a k = some none
  xt : XTab Pg K mg G.cl G.ci
  dfs : ∀ p ∈ G.df, DF K mg p
section
variable {Pg : Program} {w : World} {K : PySem.W.Frag} {mg : Str → Option Value} {base : Heap} {G : Cfg} {P : Prog} {L : Nat}
theorem slots_start {Hf H : Hp} {ρ : List Addr} {N : List Str} {vs : List V} {us : List U} (r : RUs K Hf ρ vs us) : Slots K H Hf ρ (fun _ => 0) (L2.start N vs) (us.map Sl.v ++ List.replicate (N.length - us.length) .no) := by
  have hl := r.len
  have noOwn : ∀ (i : Nat) (xs : List PyData), ¬ (us.map Sl.v ++ List.replicate (N.length - us.length) Sl.no)[i]? = some (.own xs) := fun i xs e => by
    rcases List.mem_append.mp (List.mem_of_getElem? e) with h | h
    · obtain ⟨u, _, e⟩ := List.mem_map.mp h; cases e
    · have := List.eq_of_mem_replicate h; cases this
  refine ⟨?_, fun i u e => ?_, fun i xs e => (noOwn i xs e).elim, fun i j xs ys e => (noOwn i xs e).elim⟩
  · unfold L2.start
    rw [List.length_append, List.length_append, List.length_map, List.length_map, List.length_replicate, List.length_replicate, hl]
  · by_cases hi : i < us.length
    · rw [List.getElem?_append_left (by rw [List.length_map]; exact hi), List.getElem?_map, List.getElem?_eq_getElem hi] at e
      cases e
      obtain ⟨v, e1, r1⟩ := r.get (List.getElem?_eq_getElem hi)
      refine ⟨v, ?_, r1⟩
      unfold L2.start
      rw [List.getElem?_append_left (by rw [List.length_map, hl]; exact hi), List.getElem?_map, e1]; rfl
    · rw [List.getElem?_append_right (by rw [List.length_map]; omega)] at e
      have := List.eq_of_mem_replicate (List.mem_of_getElem? e)
      cases this
theorem tab_code {c0 P0 a : Addr} {x : Str} {oc : Value} {od : Option Addr} {fd : FuncData} {osl : Array (Option Value)} (KIn : K.In base) (NB : base.Ns mainGlobals mg) (t : PySem.W.tabIn K x = some (c0, P0)) (hm : mg x = some (.ref a)) (lk : K.lookup a = some ⟨oc, od, .func fd, osl⟩) : fd.code = .ref c0 := by
  unfold PySem.W.tabIn at t
  split at t
  · rename_i f hf
    have e1 := PySem.W.mg_of KIn NB hf
    rw [hm] at e1
    cases e1
    rw [lk] at t
    simp only at t
    split at t
    · rename_i c hc
      split at t
      · split at t
        · cases t; exact hc
        · cases t
      · cases t
    · cases t
  · cases t
theorem fam (T : Tab Pg w K mg G P) (KIn : K.In base) (NB : base.Ns mainGlobals mg) (HT : ∀ x ∈ G.lams, ∃ c0 P0, PySem.W.tabIn K x = some (c0, P0) ∧ LamX.TabB base mg c0 P0) : ∀ (n f : Nat) (fd : FD), P f = some fd → ∃ a fdat ps, mg fd.name = some (.ref a) ∧ PySem.W.keepIn K (.ref a) = true ∧ (G.kwo.contains f = false → Binds K fdat ps []) ∧ FnG Pg w K mg base (3 * n) a fdat ps (spC K (xrG K mg G.cl) (callN L P n f)) ∧
    (∀ na ks perm, (f, na, ks, perm) ∈ G.kb → KB fdat ps na ks perm) ∧ ps.length = fd.np
  | 0, f, fd, h => by
    obtain ⟨st, a, fdat, ps, hp, F, hm, hb, S, ok, kb⟩ := T.defs f fd h
    exact ⟨a, fdat, ps, hm, F.kp, hb, ⟨fun vs H Q E ⟨_, _, _, _, _, _, o⟩ => o.elim, fun A outer s H args us vs Q E _ _ _ _ _ ⟨_, _, _, _, _, _, o⟩ => o.elim⟩, kb, hp⟩
  | n + 1, f, fd, h => by
    obtain ⟨st, a, fdat, ps, hp, F, hm, hb, S, ok, kb⟩ := T.defs f fd h
    refine ⟨a, fdat, ps, hm, F.kp, hb, ?_, kb, hp⟩
    obtain ⟨oc, od, kV, doc, pm, an, cdv, ct, osl, rfl, lk, hcd⟩ := F.ex
    have len : ∀ vs H Q E, spC K (xrG K mg G.cl) (callN L P (n + 1) f) vs H Q E → vs.length = ps.length := fun vs H Q E ⟨Hf, ρ, m, us, fi, r, o⟩ => by
      rw [callN_succ h] at o
      unfold runFD at o
      rw [r.len, hp]
      by_cases hl : us.length = fd.np
      · exact hl
      · rw [if_neg hl] at o; exact (o : False).elim
    have hcode := F
    refine fnG_of (k := 3 * n + 2) lk hcd S len fun A outer s H vs Q E hr hg ⟨Hf, ρ, m, us, fi, r, o⟩ => ?_
    have hl : us.length = fd.np := by rw [← r.len, ← hp]; exact len vs H Q E ⟨Hf, ρ, m, us, fi, r, o⟩
    have g : GX G fd.N (callN L P n) (xrG K mg G.cl) (cxOf (L2.CX Pg w) Pg w K mg base fd.N fd.name (defScope st) a cdv A outer s H E) (fun cls d _ H => E cls d H) ⟨defScope st, fun _ => true, lamOf G fd.name⟩ :=
      ⟨rfl, rfl, rfl, S.nd, rfl, hg, takes_of rfl rfl rfl rfl, by have := hr.un; show (A.deeper _).units + 65 < cLine; omega, T.bn, fun f' x hx => by
        obtain ⟨fd', h1, rfl⟩ := T.nm f' x hx
        obtain ⟨a', fdat', ps', k1, k2, k3, k4, k5, k6⟩ := fam T KIn NB HT n f' fd' h1
        exact ⟨a', fdat', ps', 3 * n, k1, k2, k3, hr.mono (by omega), k4, k5⟩, T.gl, T.gdt, ⟨_, hr⟩, rfl, T.xt, (fun x hx => by
        have hxn : x ∈ G.lams ∧ x = fd.name := by
          have hx' : lamOf G fd.name = some x := hx
          unfold lamOf at hx'
          split at hx'
          · rename_i hm; cases hx'; exact ⟨hm, rfl⟩
          · cases hx'
        obtain ⟨hxl, rfl⟩ := hxn
        obtain ⟨c0, P0, t1, t2⟩ := HT _ hxl
        refine ⟨⟨c0, P0, tab_code KIn NB t1 hm lk, t1, t2⟩, rfl, 3 * n, hr, fun f' x' hx' => ?_⟩
        obtain ⟨fd', h1, rfl⟩ := T.nm f' x' hx'
        obtain ⟨a', fdat', ps', k1, k2, k3, k4, k5, k6⟩ := fam T KIn NB HT n f' fd' h1
        exact ⟨a', fdat', ps', k1, k2, k3, k4, k5⟩), T.dfs⟩
    refine ⟨_, sndSs (L := L) (passes_of rfl) ⟨rfl, rfl⟩ g fd.body ok, ⟨H, Hf, ρ, Hf⟩, Hf, ρ, fun _ => 0, _, m, ⟨⟨m, fi⟩, Pres.refl _ _ _, Sub.refl _, ⟨fi, slots_start r⟩, fun i xs e => ?_⟩, ?_⟩
    · exfalso
      rcases List.mem_append.mp (List.mem_of_getElem? e) with h | h
      · obtain ⟨u, _, e⟩ := List.mem_map.mp h; cases e
      · have := List.eq_of_mem_replicate h; cases this
    · rw [callN_succ h] at o
      unfold runFD at o
      rw [if_pos hl] at o
      cases he : evSs L (callN L P n) fd.body (us.map Sl.v ++ List.replicate (fd.N.length - us.length) .no) m with
      | bad => rw [he] at o; exact (o : False).elim
      | exc c x m1 =>
        rw [he] at o
        exact fun cls d σ' H' Hf' ρ' p f x => o cls d H' Hf' ρ' p f x
      | ok y m1 =>
        rw [he, R.bind_ok] at o
        obtain ⟨fl, env'⟩ := y
        intro σ' H' Hf' ρ' ω' s'
        cases fl with
        | nx => exact o _ H' Hf' ρ' s'.pres s'.at_.fine ⟨.non, rfl⟩
        | ret u => exact fun v rv => o v H' Hf' ρ' s'.pres s'.at_.fine rv
        | brk => exact (o : False).elim
        | cnt => exact (o : False).elim
end
end Eng

set_option Elab.async false
set_option linter.all false
set_option maxRecDepth 100000
set_option maxHeartbeats 1000000
/-! The end of a law: its def is called on the script, where no repr is under way. -/
namespace Eng
open PySem PySem.Spec PyProof.Rows L2 LamX

theorem dp_ints {K : PySem.W.Frag} {H : Hp} : ∀ ns : List Int, DpAll K H (ns.map V.int) (ns.map PyData.int)
  | [] => .nil
  | n :: ns => .cons (.int n) (dp_ints ns)
theorem sz_ints : ∀ ns : List Int, szAll (ns.map PyData.int) = true
  | [] => rfl
  | n :: ns => by show (true && szAll (ns.map PyData.int)) = true; rw [sz_ints ns]; rfl
/-- from a heap in which at most the script is tracked -/
theorem end_core {P : Program} {w : World} {K : PySem.W.Frag} {mg mb : Str → Option Value} {k : Nat} {fa a : Addr} {XR : XRel} {g : List U → Mem → R U} {s₁ : Shared} {vs : List Value} {ns : List Int} {H : Hp}
    (KX : K.In s₁.heap) (hns : s₁.heap.Ns mainGlobals mg) (hb : s₁.heap.Ns builtinsNs mb) (hbb : ∀ x : Str, x ≠ "__name__" → mb x = bootBuiltins x) (hlim : s₁.heap.NoLimit) (hg : s₁.gens = #[])
    (ha : s₁.heap.get? a = some { cls := .type "list", data := .seq vs.toArray }) (hl : ns.length ≤ sizeLine) (hr : Room k callerA)
    (F : ∀ base : Heap, K.In base → base.Ns mainGlobals mg → ∃ fd x, FnG P w K mg base k fa fd [x] (spC K XR g) ∧ ∀ u : Value, BindsTo s₁ fd ⟨[u], []⟩ [(x, u)])
    (hT : ∃ m', g [.dat (.list (ns.map .int))] [] = .ok (.dat (.bool true)) m')
    (hO : Only H) (hS : SqL K H a (ns.map V.int)) (hok : HOk P w H s₁.heap) (hA : ∀ b, H b ≠ none → b = a) (hK : H a ≠ none → K.lookup a = none) :
    codeAny (model P w) callerA (.call (.ref fa) ⟨[.ref a], []⟩) (fun r s' => r = .ok (.ret (.bool true)) ∧ OldK s₁.heap s'.heap ∧ s'.os = s₁.os ∧ AllBare s'.gens) s₁ := by
  have base_of : ∀ {b : Addr} {o : Obj}, s₁.heap.get? b = some o → H b = none → (hidT s₁.heap H).get? b = some o := fun e n => hidT_get e n
  have noA : ∀ {b : Addr} {o : Obj} {es : Array DictEntry} {ep : Nat}, s₁.heap.get? b = some o → o.data = .dict es ep → H b = none := fun {b o es ep} e d => by
    cases q : H b with
    | none => rfl
    | some u =>
      have e' : b = a := hA b (by rw [q]; simp)
      subst e'
      rw [ha] at e; cases e
      have d' : Data.seq vs.toArray _ = Data.dict es ep := d
      cases d'
  have nsK : ∀ {b : Addr} {m : Str → Option Value}, s₁.heap.Ns b m → (hidT s₁.heap H).Ns b m := fun {b m} ⟨o, es, ep, e, d, r⟩ => ⟨o, es, ep, base_of e (noA e d), d, r⟩
  have hKb : K.In (hidT s₁.heap H) := fun b o e => base_of (KX b o e) (by
    cases q : H b with
    | none => rfl
    | some u =>
      have e' : b = a := hA b (by rw [q]; simp)
      subst e'
      rw [hK (by rw [q]; simp)] at e; cases e)
  have hM : Mod K mg (hidT s₁.heap H) := ⟨hKb, nsK hns, ⟨mb, nsK hb, hbb⟩, let ⟨mc, h1, h2⟩ := hlim; ⟨mc, nsK h1, h2⟩⟩
  have e0 : Env0 P w K mg (hidT s₁.heap H) callerA [] s₁ H := ⟨rfl, hM, fun b o e => of_hidT e, Nat.le_of_eq (hidT_size _ _), trivial, fun b hb => absurd (show b ∈ ([] : List Addr) from hb) (by simp), hok, .of_eq hg⟩
  obtain ⟨m', hT⟩ := hT
  obtain ⟨fd, x, hF, hbind⟩ := F _ hKb (nsK hns)
  have sp : spC K XR g [.ref a] H (fun v _ => v = .bl true) fun _ _ _ => False := by
    refine ⟨H, [], [], [.dat (.list (ns.map .int))], ⟨Sub.refl _, List.nodup_nil, fun a h => absurd h (by simp), rfl, fun i a o e => by simp at e⟩, ⟨⟨.lst hS (dp_ints ns), sz_list.mpr ⟨by rw [List.length_map]; exact hl, sz_ints ns⟩⟩, trivial⟩, ?_⟩
    rw [hT]
    intro v H' Hf' ρ' _ _ r
    cases r.1; rfl
  refine codeAny_mono (hF.run callerA [] s₁ H ⟨[.ref a], []⟩ [.ref a] [.ref a] _ _ hr rfl e0 (hbind (.ref a)) (.cons rfl .nil) sp) fun r s' h => ?_
  cases r with
  | error e => obtain ⟨_, _, _, _, _, _, _, _, _, _, _, _, z⟩ := h; exact z.elim
  | ok fl =>
    cases fl with
    | next => exact False.elim h
    | brk => exact False.elim h
    | cont => exact False.elim h
    | ret u =>
      obtain ⟨v, H', os, bare, un, hok', r', q⟩ := h
      have q' : v = .bl true := q
      subst q'
      obtain rfl : u = Value.bool true := r'
      refine ⟨rfl, OldK.of_keep fun b o e => ?_, os, bare⟩
      cases q : H b with
      | none => exact un.keep b o e q (by intro z; exact absurd (show b ∈ ([] : List Addr) from z) (by simp)) (by simp)
      | some u =>
        rcases hO b with z | ⟨ob, xs, z⟩
        · rw [q] at z; cases z
        · have z2 := un.frzs b ob _ z
          obtain ⟨e1, _⟩ := hok b _ z
          obtain ⟨e2, _⟩ := hok' b _ z2
          rw [e] at e1; cases e1
          exact e2
theorem end_call {P : Program} {w : World} {K : PySem.W.Frag} {mg mb : Str → Option Value} {k : Nat} {fa a : Addr} {XR : XRel} {g : List U → Mem → R U} {s₁ : Shared} {vs : List Value} {ns : List Int}
    (KX : K.In s₁.heap) (hns : s₁.heap.Ns mainGlobals mg) (hb : s₁.heap.Ns builtinsNs mb) (hbb : ∀ x : Str, x ≠ "__name__" → mb x = bootBuiltins x) (hlim : s₁.heap.NoLimit) (hg : s₁.gens = #[])
    (ha : s₁.heap.get? a = some { cls := .type "list", data := .seq vs.toArray }) (hi : IntsAre vs ns) (hl : ns.length ≤ sizeLine) (hr : Room k callerA)
    (F : ∀ base : Heap, K.In base → base.Ns mainGlobals mg → ∃ fd x, FnG P w K mg base k fa fd [x] (spC K XR g) ∧ ∀ u : Value, BindsTo s₁ fd ⟨[u], []⟩ [(x, u)])
    (hT : ∃ m', g [.dat (.list (ns.map .int))] [] = .ok (.dat (.bool true)) m') :
    codeAny (model P w) callerA (.call (.ref fa) ⟨[.ref a], []⟩) (fun r s' => r = .ok (.ret (.bool true)) ∧ OldK s₁.heap s'.heap ∧ s'.os = s₁.os ∧ AllBare s'.gens) s₁ := by
  have rv := vals_ints hi
  have lenV := hi.length
  cases hk : K.lookup a with
  | some o =>
    have e := KX a o hk
    rw [ha] at e
    cases e
    exact end_core (H := fun _ => none) KX hns hb hbb hlim hg ha hl hr F hT (fun _ => .inl rfl) (.inr ⟨_, vs.toArray, _, hk, rfl, rfl, rfl, by rw [List.size_toArray, lenV]; exact hl, by simpa using rv⟩) (fun b u z => by have z' : (none : Option HO) = some u := z; cases z') (fun b z => absurd rfl z) fun z => absurd rfl z
  | none =>
    refine end_core (H := fun b => if b = a then some (.frz { cls := .type "list", data := .seq vs.toArray } (.lst (ns.map V.int))) else none) KX hns hb hbb hlim hg ha hl hr F hT (fun b => ?_) (.inl (.inr ⟨{ cls := .type "list", data := .seq vs.toArray }, if_pos rfl⟩)) (fun b u z => ?_) (fun b z => ?_) fun _ => hk
    · by_cases hb : b = a
      · exact .inr ⟨_, _, if_pos hb⟩
      · exact .inl (if_neg hb)
    · by_cases hb : b = a
      · have z' := (if_pos hb).symm.trans z
        cases z'
        subst hb
        exact ⟨ha, by rw [List.length_map]; exact hl, vs, _, rv, ha⟩
      · have z' := (if_neg hb).symm.trans z
        cases z'
    · by_cases hb : b = a
      · exact hb
      · exact absurd (if_neg hb) z
theorem walk_eng {l : PySem.W.OpenLaw} {n k lawId : Nat} {q : Program} {loose : List Str} {XP : (Str → Option Value) → Heap → Prop} {YP : World → Heap → Prop} {d : DefRec} {K : Params → PySem.W.Frag} {G : Cfg} {P : Prog} {L : Nat} {fd : FD}
    (hn : l.most = some n) (hn2 : n ≤ sizeLine) (hdf : d.params.defaults = []) (hr : Room (3 * k) callerA)
    (hY : ∀ (w : World) (h : Heap), YP w h → (K w.params).In h)
    (T : ∀ (w : World) (mg : Str → Option Value) (h : Heap), (K w.params).In h → h.Ns mainGlobals mg → Tab l.prog w (K w.params) mg G P)
    (hfd : P lawId = some fd) (hnm : fd.name = d.name) (hnp : fd.np = 1) (hkw : G.kwo.contains lawId = false) (hlams : G.lams = [])
    (hT : ∀ ns : List Int, ns.length ≤ n → ∃ m', callN L P k lawId [.dat (.list (ns.map .int))] [] = .ok (.dat (.bool true)) m') :
    PySem.W.WalkO q loose XP YP l.row.toRowW d [] (fun f vs => PySem.call f vs) := by
  refine Att.attach_call hn hdf fun w s₀ s₁ mg mb fa o pm cd doc a vs ns Gd Y ho hd hcd hmg hobj hints hlen hg => ?_
  have KX := hY w _ Y
  have Tb := T w mg _ KX Gd.T.g
  refine end_call (k := 3 * k) (XR := xrG (K w.params) mg G.cl) (g := callN L P k lawId) KX Gd.T.g Gd.T.b Gd.T.builtins Gd.T.nolimit hg hobj hints (Nat.le_trans hlen hn2) hr (fun base hKb hNb => ?_) (hT ns hlen)
  obtain ⟨a', fdat, ps, h1, h2, h3, h4, _, h6⟩ := fam (Pg := l.prog) (w := w) (base := base) (L := L) Tb hKb hNb (fun x hx => by rw [hlams] at hx; cases hx) k lawId fd hfd
  rw [hnm, hmg] at h1
  cases h1
  rw [hnp] at h6
  cases ps with
  | nil => cases h6
  | cons x r =>
    cases r with
    | cons _ _ => cases h6
    | nil =>
      refine ⟨fdat, x, h4, fun u => ?_⟩
      have := h3 hkw s₁ [u] KX rfl
      exact this
/-! ### .. with tables of code objects -/
/-- the tables of the defs that make lambdas -/
def tabC (K : PySem.W.Frag) (x : Str) : Addr × Addr := (PySem.W.tabIn K x).getD (0, 0)
def tabsB (K : PySem.W.Frag) (xs : List Str) : Bool := xs.all (fun x => match PySem.W.tabIn K x with | some (_, P) => (K.lookup P).isNone | none => false) && decide ((xs.map fun x => (tabC K x).2).Nodup)
end Eng

set_option Elab.async false
set_option linter.all false
set_option maxRecDepth 100000
set_option maxHeartbeats 1000000
/-! From the facts of a text's defs to its table. -/
namespace Eng
open PySem PySem.Spec PyProof.Rows L2

/-- a def of the text stands in the module as it was written -/
def DI (K : PySem.W.Frag) (x : Str) (st : Stmt) : Prop := ∃ (f : Addr) (fd : FuncData), PySem.W.nsIn K mainGlobals x = some (some (.ref f)) ∧ Fun K x x st f fd
theorem di_mk {K : PySem.W.Frag} {x : Str} {st : Stmt} {f : Addr} {oc : Value} {od an : Option Addr} {osl : Array (Option Value)} {kV doc pm cdv ct : Value} (a : PySem.W.nsIn K mainGlobals x = some (some (.ref f)))
    (l : K.lookup f = some ⟨oc, od, .func (PySem.W.fnOf x x (defArgs st) (defBody st) (defScope st) .none kV doc pm an cdv ct), osl⟩)
    (c : PySem.W.codeIn K cdv x = true) (k : PySem.W.keepIn K (.ref f) = true) : DI K x st := ⟨f, _, a, fun_mk l c k⟩
/-- what is checked of a def by its text alone -/
structure SD (G : Cfg) (f : Nat) (fd : FD) (st : Stmt) : Prop where
  len : (fd.N.take fd.np).length = fd.np
  sc : FnScope fd.N (fd.N.take fd.np) (defScope st)
  ok : okSs G fd.N ⟨defScope st, fun _ => true, lamOf G fd.name⟩ fd.body (defBody st) = true
  bind : G.kwo.contains f = false → ∀ (kV doc pm : Value) (an : Option Addr) (cdv ct : Value) (us : List Value), us.length = (fd.N.take fd.np).length → bindArgs (PySem.W.fnOf fd.name fd.name (defArgs st) (defBody st) (defScope st) .none kV doc pm an cdv ct) ⟨us, []⟩ = pure ((fd.N.take fd.np).zip us)
  kb : ∀ (kV doc pm : Value) (an : Option Addr) (cdv ct : Value) (na : Nat) (ks : List Str) (perm : List Nat), (f, na, ks, perm) ∈ G.kb → KB (PySem.W.fnOf fd.name fd.name (defArgs st) (defBody st) (defScope st) .none kV doc pm an cdv ct) (fd.N.take fd.np) na ks perm
/-- .. of a def that calls what it got -/
def SDF (p : Str × Stmt × List Str) : Prop := ∃ pa nn, p.2.2 = [pa, nn] ∧ FnScope [pa, nn] [pa] (defScope p.2.1) ∧
  ∀ (kV doc pm : Value) (an : Option Addr) (cdv ct : Value) (us : List Value), us.length = [pa].length → bindArgs (PySem.W.fnOf p.1 p.1 (defArgs p.2.1) (defBody p.2.1) (defScope p.2.1) .none kV doc pm an cdv ct) ⟨us, []⟩ = pure ([pa].zip us)
def allSDF : List (Str × Stmt × List Str) → Prop
  | [] => True
  | p :: r => SDF p ∧ allSDF r
def allDIF (K : PySem.W.Frag) : List (Str × Stmt × List Str) → Prop
  | [] => True
  | p :: r => DI K p.1 p.2.1 ∧ allDIF K r
theorem allSDF.get : ∀ {l : List (Str × Stmt × List Str)}, allSDF l → ∀ p ∈ l, SDF p
  | [], _, _, h => absurd h (by simp)
  | x :: r, a, e, h => by
    rcases List.mem_cons.mp h with rfl | h
    · exact a.1
    · exact allSDF.get a.2 e h
theorem allDIF.get {K : PySem.W.Frag} : ∀ {l : List (Str × Stmt × List Str)}, allDIF K l → ∀ p ∈ l, DI K p.1 p.2.1
  | [], _, _, h => absurd h (by simp)
  | x :: r, a, e, h => by
    rcases List.mem_cons.mp h with rfl | h
    · exact a.1
    · exact allDIF.get a.2 e h
abbrev Tb := List (Nat × FD × Stmt)
def Tb.prog (t : Tb) : Prog := fun f => (t.lookup f).map (·.1)
def Tb.nm (t : Tb) : Nat → Option Str := fun f => (t.lookup f).map (·.1.name)
def allDI (K : PySem.W.Frag) : Tb → Prop
  | [] => True
  | e :: r => DI K e.2.1.name e.2.2 ∧ allDI K r
def allSD (G : Cfg) : Tb → Prop
  | [] => True
  | e :: r => SD G e.1 e.2.1 e.2.2 ∧ allSD G r
theorem lookupN {α : Type} : ∀ {l : List (Nat × α)} {n : Nat} {c : α}, l.lookup n = some c → (n, c) ∈ l
  | [], _, _, h => by cases h
  | (k, v) :: r, n, c, h => by
    rw [List.lookup_cons] at h
    by_cases e : n = k
    · subst e; simp at h; subst h; exact List.mem_cons_self
    · rw [show (n == k) = false by simpa using e] at h
      exact List.mem_cons_of_mem _ (lookupN h)
theorem allDI.get {K : PySem.W.Frag} : ∀ {t : Tb}, allDI K t → ∀ e ∈ t, DI K e.2.1.name e.2.2
  | [], _, e, h => absurd h (by simp)
  | x :: r, a, e, h => by
    rcases List.mem_cons.mp h with rfl | h
    · exact a.1
    · exact allDI.get a.2 e h
theorem allSD.get {G : Cfg} : ∀ {t : Tb}, allSD G t → ∀ e ∈ t, SD G e.1 e.2.1 e.2.2
  | [], _, e, h => absurd h (by simp)
  | x :: r, a, e, h => by
    rcases List.mem_cons.mp h with rfl | h
    · exact a.1
    · exact allSD.get a.2 e h
def allNone (K : PySem.W.Frag) : List Str → Prop
  | [] => True
  | x :: r => PySem.W.nsIn K mainGlobals x = some none ∧ allNone K r
def glOk (K : PySem.W.Frag) (x : Str × PyData) : Prop := (∃ i t, x.2 = .int i ∧ PySem.W.nsIn K mainGlobals x.1 = some (some (.int i t))) ∨ ∃ z t, x.2 = .str z ∧ szOk (.str z) = true ∧ PySem.W.nsIn K mainGlobals x.1 = some (some (.str z t))
def allInts (K : PySem.W.Frag) : List (Str × PyData) → Prop
  | [] => True
  | x :: r => glOk K x ∧ allInts K r
def allKv (K : PySem.W.Frag) (a : Addr) : List (Str × Int) → Prop
  | [] => True
  | x :: r => (∃ t, PySem.W.nsIn K a x.1 = some (some (.int x.2 t))) ∧ allKv K a r
def allNk (K : PySem.W.Frag) (a : Addr) : List Str → Prop
  | [] => True
  | x :: r => PySem.W.nsIn K a x = some none ∧ allNk K a r
theorem allKv.get {K : PySem.W.Frag} {a : Addr} : ∀ {l : List (Str × Int)}, allKv K a l → ∀ k i, (k, i) ∈ l → ∃ t, PySem.W.nsIn K a k = some (some (.int i t))
  | [], _, k, i, h => absurd h (by simp)
  | x :: r, ⟨h1, h2⟩, k, i, h => by
    rcases List.mem_cons.mp h with e | h
    · rw [← e] at h1; exact h1
    · exact allKv.get h2 k i h
theorem allNk.get {K : PySem.W.Frag} {a : Addr} : ∀ {l : List Str}, allNk K a l → ∀ k ∈ l, PySem.W.nsIn K a k = some none
  | [], _, k, h => absurd h (by simp)
  | x :: r, ⟨h1, h2⟩, k, h => by
    rcases List.mem_cons.mp h with e | h
    · rw [e]; exact h1
    · exact allNk.get h2 k h
def gdOk (w : World) (K : PySem.W.Frag) (x : Str × List (Str × Int) × List Str) : Prop := ∃ a, PySem.W.nsIn K mainGlobals x.1 = some (some (.ref a)) ∧ He.dicW K a = some (He.keysIn w.params (x.2.1.map (·.1))) ∧ allKv K a x.2.1 ∧ allNk K a x.2.2
def allGd (w : World) (K : PySem.W.Frag) : List (Str × List (Str × Int) × List Str) → Prop
  | [] => True
  | x :: r => gdOk w K x ∧ allGd w K r
theorem gd_mk {w : World} {K : PySem.W.Frag} {x : Str} {kvs : List (Str × Int)} {nks : List Str} {a : Addr} (a1 : PySem.W.nsIn K mainGlobals x = some (some (.ref a))) (a2 : He.dicW K a = some (He.keysIn w.params (kvs.map (·.1)))) (a3 : allKv K a kvs) (a4 : allNk K a nks) : gdOk w K (x, kvs, nks) := ⟨a, a1, a2, a3, a4⟩
theorem kv_mk {K : PySem.W.Frag} {a : Addr} {k : Str} {i : Int} {t : Tok} (h : PySem.W.nsIn K a k = some (some (.int i t))) : ∃ t', PySem.W.nsIn K a (k, i).1 = some (some (.int (k, i).2 t')) := ⟨t, h⟩
theorem gs_mk {K : PySem.W.Frag} {x z : Str} {t : Tok} (h : szOk (.str z) = true) (a : PySem.W.nsIn K mainGlobals x = some (some (.str z t))) : glOk K (x, PyData.str z) := .inr ⟨z, t, rfl, h, a⟩
theorem gi_mk {K : PySem.W.Frag} {x : Str} {i : Int} {t : Tok} (a : PySem.W.nsIn K mainGlobals x = some (some (.int i t))) : glOk K (x, PyData.int i) := .inl ⟨i, t, rfl, a⟩
theorem tab_of {Pg : Program} {w : World} {K : PySem.W.Frag} {mg : Str → Option Value} {h : Heap} {t : Tb} {G : Cfg} (KX : K.In h) (Gn : h.Ns mainGlobals mg) (hnm : G.nm = t.nm) (dI : allDI K t) (sD : allSD G t) (nI : allNone K bnames) (gI : allInts K G.gl) (dD : allGd w K G.gd) (xT : XTab Pg K mg G.cl G.ci) (dF : allDIF K G.df) (sF : allSDF G.df) : Tab Pg w K mg G t.prog := by
  refine ⟨fun f fd hf => ?_, fun f x hx => ?_, fun x hx => ?_, fun x d hx => ?_, fun x kvs nks hx => ?_, xT, fun p hp => ?_⟩
  · unfold Tb.prog at hf
    rw [Option.map_eq_some_iff] at hf
    obtain ⟨⟨fd', st⟩, e, rfl⟩ := hf
    have hm := lookupN e
    obtain ⟨a, fdat, a1, F⟩ := dI.get _ hm
    have S := sD.get _ hm
    obtain ⟨oc, od, kV, doc, pm, an, cdv, ct, osl, rfl, lk, hcd⟩ := F.ex
    exact ⟨st, a, _, _, S.len, F, PySem.W.mg_of KX Gn a1, fun hk => F.binds (S.bind hk), S.sc, S.ok, fun na ks perm h => S.kb kV doc pm an cdv ct na ks perm h⟩
  · rw [hnm] at hx
    unfold Tb.nm at hx
    rw [Option.map_eq_some_iff] at hx
    obtain ⟨e, he, rfl⟩ := hx
    exact ⟨e.1, by unfold Tb.prog; rw [he]; rfl, rfl⟩
  · have : ∀ l : List Str, allNone K l → x ∈ l → mg x = none := fun l => by
      induction l with
      | nil => intro _ h; exact absurd h (by simp)
      | cons y r ih =>
        intro a h
        rcases List.mem_cons.mp h with rfl | h
        · exact PySem.W.mg_none_of KX Gn a.1
        · exact ih a.2 h
    exact this _ nI hx
  · have : ∀ l : List (Str × PyData), allInts K l → (x, d) ∈ l → glOk K (x, d) := fun l => by
      induction l with
      | nil => intro _ h; exact absurd h (by simp)
      | cons y r ih =>
        intro a h
        rcases List.mem_cons.mp h with e | h
        · rw [e]; exact a.1
        · exact ih a.2 h
    rcases this _ gI hx with ⟨i, tk, e0, e⟩ | ⟨z, tk, e0, hz, e⟩
    · have e0 : d = .int i := e0
      subst e0
      refine ⟨_, PySem.W.mg_of KX Gn e, fun v hv => ?_⟩
      cases v <;> simp only [sEq, Bool.false_eq_true] at hv
      rw [beq_iff_eq] at hv
      subst hv
      exact ⟨.int _, ⟨tk, rfl⟩, fun _ => .int _, rfl⟩
    · have e0 : d = .str z := e0
      subst e0
      refine ⟨_, PySem.W.mg_of KX Gn e, fun v hv => ?_⟩
      cases v <;> simp only [sEq, Bool.false_eq_true, decide_eq_true_eq] at hv
      subst hv
      exact ⟨.str _, ⟨tk, rfl⟩, fun _ => .str _, hz⟩
  · have : ∀ l : List (Str × List (Str × Int) × List Str), allGd w K l → (x, kvs, nks) ∈ l → gdOk w K (x, kvs, nks) := fun l => by
      induction l with
      | nil => intro _ h; exact absurd h (by simp)
      | cons y r ih =>
        intro a h
        rcases List.mem_cons.mp h with e | h
        · rw [e]; exact a.1
        · exact ih a.2 h
    obtain ⟨a, h1, h2, h3, h4⟩ := this _ dD hx
    obtain ⟨es, n, D⟩ := He.dicW_ok h2
    exact ⟨a, es, n, PySem.W.mg_of KX Gn h1, D, h3.get, h4.get⟩
  · obtain ⟨a, fdat, a1, F⟩ := dF.get p hp
    obtain ⟨pa, nn, h1, h2, h3⟩ := sF.get p hp
    exact ⟨a, fdat, pa, nn, h1, PySem.W.mg_of KX Gn a1, F.kp, F, F.binds h3, h2⟩
/-! ### own errors: from the written part -/
def allOwn (Pg : Program) (K : PySem.W.Frag) (mg : Str → Option Value) : List (Str × Str) → List Addr → Prop
  | [], [] => True
  | p :: r, a :: as => (∃ fI, EngX.OwnTxt Pg K mg p.1 p.2 a fI) ∧ allOwn Pg K mg r as
  | _, _ => False
theorem allOwn.get {Pg : Program} {K : PySem.W.Frag} {mg : Str → Option Value} : ∀ {cl : List (Str × Str)} {A : List Addr}, allOwn Pg K mg cl A → ∀ (k : Nat) (p : Str × Str), cl[k]? = some p → ∃ a, A[k]? = some a ∧ ∃ fI, EngX.OwnTxt Pg K mg p.1 p.2 a fI
  | [], [], _, k, p, h => by simp at h
  | [], _ :: _, h, _, _, _ => h.elim
  | _ :: _, [], h, _, _, _ => h.elim
  | q :: r, a :: as, ⟨h1, h2⟩, 0, p, h => by cases h; exact ⟨a, rfl, h1⟩
  | q :: r, a :: as, ⟨h1, h2⟩, k + 1, p, h => allOwn.get h2 k p h
def rowSub (K : PySem.W.Frag) (a : Addr) (i : Nat) : Nat → List Addr → Prop
  | _, [] => True
  | j, b :: r => PySem.W.subIn K (.ref a) (.ref b) = some (decide (i = j)) ∧ rowSub K a i (j + 1) r
def matSub (K : PySem.W.Frag) (all : List Addr) : Nat → List Addr → Prop
  | _, [] => True
  | i, a :: r => rowSub K a i 0 all ∧ matSub K all (i + 1) r
theorem rowSub.get {K : PySem.W.Frag} {a : Addr} {i : Nat} : ∀ {l : List Addr} {j : Nat}, rowSub K a i j l → ∀ (k : Nat) (b : Addr), l[k]? = some b → PySem.W.subIn K (.ref a) (.ref b) = some (decide (i = j + k))
  | [], _, _, k, b, h => by simp at h
  | x :: r, j, ⟨h1, h2⟩, 0, b, h => by cases h; exact h1
  | x :: r, j, ⟨h1, h2⟩, k + 1, b, h => by
    have := rowSub.get h2 k b h
    rw [show j + (k + 1) = j + 1 + k by omega]; exact this
theorem matSub.get {K : PySem.W.Frag} {all : List Addr} : ∀ {l : List Addr} {i : Nat}, matSub K all i l → ∀ (k : Nat) (a : Addr), l[k]? = some a → rowSub K a (i + k) 0 all
  | [], _, _, k, a, h => by simp at h
  | x :: r, i, ⟨h1, h2⟩, 0, a, h => by cases h; exact h1
  | x :: r, i, ⟨h1, h2⟩, k + 1, a, h => by
    have := matSub.get h2 k a h
    rw [show i + (k + 1) = i + 1 + k by omega]; exact this
def isxOk (K : PySem.W.Frag) (A : List Addr) (x : Nat × Str × Bool) : Prop := ∃ Ca Cd, A[x.1]? = some Ca ∧ PySem.W.nsIn K mainGlobals x.2.1 = some (some (.ref Cd)) ∧ PySem.W.kitOne K (.ref Ca) (.ref Cd) = some x.2.2 ∧
  PySem.W.findIn K (.ref Ca) "__class__" = some (some (.builtin "object.__class__")) ∧ PySem.W.specialIn K (.builtin "object.__class__") "__get__" = some (some (.builtin "getset_descriptor.__get__")) ∧ PySem.W.takesIn K (.builtin "object.__class__") = some true ∧ PySem.W.mroIn K Ca (.type "object") = some true
def allIsx (K : PySem.W.Frag) (A : List Addr) : List (Nat × Str × Bool) → Prop
  | [] => True
  | x :: r => isxOk K A x ∧ allIsx K A r
theorem allIsx.get {K : PySem.W.Frag} {A : List Addr} : ∀ {l : List (Nat × Str × Bool)}, allIsx K A l → ∀ x ∈ l, isxOk K A x
  | [], _, x, h => absurd h (by simp)
  | y :: r, ⟨h1, h2⟩, x, h => by
    rcases List.mem_cons.mp h with rfl | h
    · exact h1
    · exact allIsx.get h2 x h
end Eng

set_option Elab.async false
set_option linter.all false
set_option maxRecDepth 100000
set_option maxHeartbeats 1000000
/-! The evaluator, step by step. -/
namespace Eng
open PySem
section
variable {C : Calls} {σ : Env} {m : Mem} {L : Nat}
@[simp] theorem ev_cst {d : PyData} : evE C (.cst d) σ m = .ok (.dat d) m := rfl
@[simp] theorem ev_glb {x : Str} {d : PyData} : evE C (.glb x d) σ m = .ok (.dat d) m := rfl
@[simp] theorem ev_var {i : Nat} : evE C (.var i) σ m = getV σ i m := rfl
@[simp] theorem ev_tup {es : Es} : evE C (.tup es) σ m = (evEs C es σ m).bind asTup := rfl
@[simp] theorem ev_lst {es : Es} : evE C (.lst es) σ m = (evEs C es σ m).bind asLst := rfl
@[simp] theorem ev_lmul {es : Es} {k : E} : evE C (.lmul es k) σ m = ((evEs C es σ m).bind asLst).bind fun x m1 => (evE C k σ m1).bind fun y m2 => d2 lmulV x y m2 := rfl
@[simp] theorem ev_sset {a : E} : evE C (.sset a) σ m = (evE C a σ m).bind (d1 ssetV) := rfl
@[simp] theorem bA_sset {a : E} : bA (.sset a) f σ m = f σ m := rfl
@[simp] theorem ev_sortk {a : E} : evE C (.sortk a) σ m = (evE C a σ m).bind sortKU := rfl
@[simp] theorem ev_dget {i : Nat} {es : Es} : evE C (.dget i es) σ m = ((getV σ i m).bind dctU).bind fun k m1 => (evEs C es σ m1).bind fun us m2 => dgetU k us m2 := rfl
@[simp] theorem ev_newD1 {k v : E} : evE C (.newD1 k v) σ m = (evE C k σ (m ++ [.dct []])).bind fun x m1 => (evE C v σ m1).bind fun y m2 => newD1U m.length x y m2 := rfl
@[simp] theorem ev_keysl {a : E} : evE C (.keysl a) σ m = (evE C a σ m).bind keysU := rfl
@[simp] theorem bA_newD1 {k v : E} : bA (.newD1 k v) f σ m = f σ m := rfl
@[simp] theorem ev_newRs {tg : Tg} {it : It} {own : List (Str × Nat)} : evE C (.newRs tg it own) σ m = ((evI C it σ m).bind sizeU).bind fun ds m1 => rsGo tg (wipeE σ (own.map (·.2))) ds m1 := rfl
@[simp] theorem bA_newRs {tg : Tg} {it : It} {own : List (Str × Nat)} : bA (.newRs tg it own) f σ m = f σ m := rfl
@[simp] theorem ev_popM {i : Nat} : evE C (.popM i) σ m = popMGo σ i m := rfl
@[simp] theorem bA_popM {i : Nat} : bA (.popM i) f σ m = f σ m := rfl
@[simp] theorem bA_ssc {elt : E} {tg : Tg} {it : It} {cond : E} {own : List (Str × Nat)} : bA (.ssc elt tg it cond own) f σ m = f σ m := rfl
@[simp] theorem ev_iteN {t a b : E} : evE C (.iteN t a b) σ m = ((evE C t σ m).bind asNz).bind fun c m1 => if c = true then evE C a σ m1 else evE C b σ m1 := rfl
@[simp] theorem asNz_int {i : Int} : asNz (.dat (.int i)) m = .ok (i != 0) m := rfl
@[simp] theorem bA_iteN {t a b : E} : bA (.iteN t a b) f σ m = f σ m := rfl
@[simp] theorem ev_dictP {a : E} : evE C (.dictP a) σ m = (evE C a σ m).bind dictPU := rfl
@[simp] theorem ev_lrng {a : E} : evE C (.lrng a) σ m = ((evE C a σ m).bind asInt).bind lrngU := rfl
@[simp] theorem bA_dictP {a : E} : bA (.dictP a) f σ m = f σ m := rfl
@[simp] theorem bA_lrng {a : E} : bA (.lrng a) f σ m = f σ m := rfl
@[simp] theorem ev_dlen {a : E} : evE C (.dlen a) σ m = (evE C a σ m).bind dlenU := rfl
@[simp] theorem ev_hear {xs : List Str} {x y : Str} {hd : HD} {e : E} : evE C (.hear xs x y hd e) σ m = @ite _ (tabsOk xs m) (Classical.propDecidable _) (hearGo hd (evE C e σ m)) .bad := rfl
@[simp] theorem bA_hear {xs : List Str} {x y : Str} {hd : HD} {e : E} : bA (.hear xs x y hd e) f σ m = f σ m := rfl
@[simp] theorem ev_idx {a b : E} : evE C (.idx a b) σ m = (evE C a σ m).bind fun x m1 => (lstU x m1).bind fun ds m2 => (evE C b σ m2).bind (d1 (idxV ds)) := rfl
@[simp] theorem bA_idx {a b : E} : bA (.idx a b) f σ m = f σ m := rfl
@[simp] theorem lstU_list {ds : List PyData} : lstU (.dat (.list ds)) m = .ok ds m := rfl
@[simp] theorem bA_dlen {a : E} : bA (.dlen a) f σ m = f σ m := rfl
@[simp] theorem bA_keysl {a : E} : bA (.keysl a) f σ m = f σ m := rfl
@[simp] theorem revD_tuple (xs : List PyData) : revD (.tuple xs) = some (.tuple xs.reverse) := rfl
@[simp] theorem ev_newD : evE C .newD σ m = .ok (.ref m.length) (m ++ [.dct []]) := rfl
@[simp] theorem ev_din {n : Bool} {a d : E} : evE C (.din n a d) σ m = (evE C a σ m).bind fun x m1 => (evE C d σ m1).bind fun y m2 => dinU n x y m2 := rfl
@[simp] theorem ev_newl {es : Es} : evE C (.newl es) σ m = (evEs C es σ m).bind asNew := rfl
@[simp] theorem ev_bin {o : BinO} {a b : E} : evE C (.bin o a b) σ m = (bA a (evE C a) σ m).bind fun x m1 => (bA b (evE C b) σ m1).bind fun y m2 => d2 (binVal o) x y m2 := rfl
@[simp] theorem ev_ladd {a b : E} : evE C (.ladd a b) σ m = (bA a (evE C a) σ m).bind fun x m1 => (bA b (evE C b) σ m1).bind fun y m2 => d2 (laddV) x y m2 := rfl
@[simp] theorem ev_neg {a : E} : evE C (.neg a) σ m = (evE C a σ m).bind (d1 negD) := rfl
@[simp] theorem ev_not {a : E} : evE C (.not a) σ m = ((evE C a σ m).bind asB).bind fun b m1 => .ok (.dat (.bool (!b))) m1 := rfl
@[simp] theorem ev_and {a b : E} : evE C (.and a b) σ m = ((evE C a σ m).bind asB).bind fun c m1 => if c = true then evE C b σ m1 else .ok (.dat (.bool false)) m1 := rfl
@[simp] theorem ev_or {a b : E} : evE C (.or a b) σ m = ((evE C a σ m).bind asB).bind fun c m1 => if c = true then .ok (.dat (.bool true)) m1 else evE C b σ m1 := rfl
@[simp] theorem ev_cmp {o : CmpO} {a b : E} : evE C (.cmp o a b) σ m = (bA a (evE C a) σ m).bind fun x m1 => (bA b (evE C b) σ m1).bind fun y m2 => d2 (cmpVal o) x y m2 := rfl
@[simp] theorem ev_chain {o o' : CmpO} {a b c : E} : evE C (.chain o o' a b c) σ m = (bA a (evE C a) σ m).bind fun x m1 => (bA b (evE C b) σ m1).bind fun y m2 => (c2 (cmpVal o) x y m2).bind fun k m3 =>
      if k = true then (bA c (evE C c) σ m3).bind fun z m4 => d2 (cmpVal o') y z m4 else .ok (.dat (.bool false)) m3 := rfl
@[simp] theorem ev_ite {t a b : E} : evE C (.ite t a b) σ m = ((evE C t σ m).bind asB).bind fun c m1 => if c = true then evE C a σ m1 else evE C b σ m1 := rfl
@[simp] theorem ev_call {f : Nat} {es : Es} : evE C (.call f es) σ m = (evEs C es σ m).bind fun us m1 => C f us m1 := rfl
@[simp] theorem ev_callk {f : Nat} {es ks : Es} {perm : List Nat} : evE C (.callk f es ks perm) σ m = (evEs C es σ m).bind fun us m1 => (evEs C ks σ m1).bind fun zs m2 => (R.ofO (permL (us ++ zs) perm) m2).bind fun ws m3 => C f ws m3 := rfl
@[simp] theorem ev_rev {a : E} : evE C (.rev a) σ m = (bA a (evE C a) σ m).bind (d1 revD) := rfl
@[simp] theorem ev_gd {o : GdO} {x : Str} {kvs : List (Str × Int)} {nks : List Str} {a : E} : evE C (.gd o x kvs nks a) σ m = (evE C a σ m).bind (d1 (gdVal o kvs nks)) := rfl
@[simp] theorem revD_list (xs : List PyData) : revD (.list xs) = some (.list xs.reverse) := rfl
@[simp] theorem ev_b1 {f : B1} {a : E} : evE C (.b1 f a) σ m = (bA a (evE C a) σ m).bind (d1 (b1Val f)) := rfl
@[simp] theorem ev_b2 {f : B2} {a b : E} : evE C (.b2 f a b) σ m = (evE C a σ m).bind fun x m1 => (evE C b σ m1).bind fun y m2 => d2 (b2Val f) x y m2 := rfl
@[simp] theorem ev_isi {a : E} {c : ClsT} : evE C (.isi a c) σ m = (evE C a σ m).bind (d1 fun d => some (.bool (clsVal c d))) := rfl
@[simp] theorem ev_isi2 {a : E} {c c' : ClsT} : evE C (.isi2 a c c') σ m = (evE C a σ m).bind (d1 fun d => some (.bool (clsVal c d || clsVal c' d))) := rfl
@[simp] theorem ev_ix {a i : E} : evE C (.ix a i) σ m = (bA a (evE C a) σ m).bind fun x m1 => (evE C i σ m1).bind fun y m2 => ixU x y m2 := rfl
@[simp] theorem ev_sl {a lo hi : E} : evE C (.sl a lo hi) σ m = (bA a (evE C a) σ m).bind fun x m1 => (oA lo (evE C lo) σ m1).bind fun l m2 => (oA hi (evE C hi) σ m2).bind fun h m3 => d1 (fun d => slVal d l h) x m3 := rfl
@[simp] theorem ev_nil : evEs C .nil σ m = .ok [] m := rfl
@[simp] theorem ev_cons {e : E} {es : Es} : evEs C (.cons e es) σ m = (evE C e σ m).bind fun u m1 => (evEs C es σ m1).bind fun us m2 => .ok (u :: us) m2 := rfl
@[simp] theorem bA_bv {i : Nat} {f : Env → Mem → R U} : bA (.bv i) f σ m = getB σ i m := rfl
@[simp] theorem it_seq {e : E} : evI C (.seq e) σ m = (evE C e σ m).bind seqU := rfl
@[simp] theorem it_rng1 {a : E} : evI C (.rng1 a) σ m = ((evE C a σ m).bind asInt).bind rng1U := rfl
@[simp] theorem it_rng2 {a b : E} : evI C (.rng2 a b) σ m = ((evE C a σ m).bind asInt).bind fun i m1 => ((evE C b σ m1).bind asInt).bind fun j m2 => rng2U i j m2 := rfl
@[simp] theorem it_enum {e : E} : evI C (.enum e) σ m = ((evE C e σ m).bind seqU).bind enumU := rfl
@[simp] theorem it_zip {a b : E} : evI C (.zip2 a b) σ m = (evE C a σ m).bind fun x m1 => (evE C b σ m1).bind fun y m2 => zipU x y m2 := rfl
section
variable {f : Env → Mem → R U}
@[simp] theorem bA_cst {d : PyData} : bA (.cst d) f σ m = f σ m := rfl
@[simp] theorem bA_rev {a : E} : bA (.rev a) f σ m = f σ m := rfl
@[simp] theorem bA_gd {o : GdO} {x : Str} {kvs : List (Str × Int)} {nks : List Str} {a : E} : bA (.gd o x kvs nks a) f σ m = f σ m := rfl
@[simp] theorem bA_glb {x : Str} {d : PyData} : bA (.glb x d) f σ m = f σ m := rfl
@[simp] theorem bA_var {i : Nat} : bA (.var i) f σ m = f σ m := rfl
@[simp] theorem bA_tup {es : Es} : bA (.tup es) f σ m = f σ m := rfl
@[simp] theorem bA_lst {es : Es} : bA (.lst es) f σ m = f σ m := rfl
@[simp] theorem bA_bin {o : BinO} {a b : E} : bA (.bin o a b) f σ m = f σ m := rfl
@[simp] theorem bA_neg {a : E} : bA (.neg a) f σ m = f σ m := rfl
@[simp] theorem bA_ite {a b c : E} : bA (.ite a b c) f σ m = f σ m := rfl
@[simp] theorem bA_cmp {o : CmpO} {a b : E} : bA (.cmp o a b) f σ m = f σ m := rfl
@[simp] theorem bA_call {k : Nat} {es : Es} : bA (.call k es) f σ m = f σ m := rfl
@[simp] theorem bA_callk {k : Nat} {es ks : Es} {p : List Nat} : bA (.callk k es ks p) f σ m = f σ m := rfl
@[simp] theorem bA_ladd {a b : E} : bA (.ladd a b) f σ m = f σ m := rfl
@[simp] theorem bA_lmul {es : Es} {k : E} : bA (.lmul es k) f σ m = f σ m := rfl
@[simp] theorem bA_dget {i : Nat} {es : Es} : bA (.dget i es) f σ m = f σ m := rfl
@[simp] theorem bA_sortk {a : E} : bA (.sortk a) f σ m = f σ m := rfl
@[simp] theorem bA_b1 {k : B1} {a : E} : bA (.b1 k a) f σ m = f σ m := rfl
@[simp] theorem bA_b2 {k : B2} {a b : E} : bA (.b2 k a b) f σ m = f σ m := rfl
@[simp] theorem bA_ix {a b : E} : bA (.ix a b) f σ m = f σ m := rfl
@[simp] theorem bA_sl {a b c : E} : bA (.sl a b c) f σ m = f σ m := rfl
end
theorem sizeU_ok {xs : List PyData} (h : xs.length ≤ sizeLine) : sizeU xs m = .ok xs m := if_pos h
/-- a list comprehension -/
theorem ev_comp {elt : E} {tg : Tg} {it : It} {cond : E} {own : List (Str × Nat)} {ds xs : List PyData} {m1 m2 : Mem} (hI : evI C it σ m = .ok ds m1) (hl : ds.length ≤ sizeLine)
    (hc : compGo (fun σ m => (evE C elt σ m).quiet) (cA cond (evE C cond)) tg (wipeE σ (own.map (·.2))) ds m1 = .ok xs m2) : evE C (.comp elt tg it cond own) σ m = .ok (.dat (.list xs)) m2 := by
  show (((evI C it σ m).bind sizeU).bind fun ds m1 => (compGo (fun σ m => (evE C elt σ m).quiet) (cA cond (evE C cond)) tg (wipeE σ (own.map (·.2))) ds m1).quiet.bind fun xs m2 => (R.ok (U.dat (.list xs)) m2 : R U)) = _
  rw [hI, R.bind_ok, sizeU_ok hl, R.bind_ok, hc]; rfl
/-! statements -/
@[simp] theorem s_asgE {i : Nat} {e : E} : evS L C (.asg i e) σ m = (evE C e σ m).bind fun u m1 => match setE σ i (.v u) with
    | some σ' => .ok (.nx, σ') m1
    | none => .bad := rfl
@[simp] theorem s_ownE {i : Nat} {e : E} : evS L C (.own i e) σ m = (evE C e σ m).bind fun u m1 => match u with
    | .dat (.list xs) => match setE σ i (.own xs) with
      | some σ' => .ok (.nx, σ') m1
      | none => .bad
    | _ => .bad := rfl
@[simp] theorem s_frzE {i : Nat} : evS L C (.frz i) σ m = match σ[i]? with
    | some (.own xs) => .ok (.nx, σ.set i (.v (.dat (.list xs)))) m
    | some (.v u) => .ok (.nx, σ) m
    | _ => .bad := rfl
@[simp] theorem s_par2E {i j : Nat} {a b : E} : evS L C (.par2 i j a b) σ m = (evE C a σ m).bind fun x m1 => (evE C b σ m1).bind fun y m2 => match (setE σ i (.v x)).bind fun σ' => setE σ' j (.v y) with
    | some σ' => .ok (.nx, σ') m2
    | none => .bad := rfl
@[simp] theorem s_par2oE {i j : Nat} {a b : E} : evS L C (.par2o i j a b) σ m = (evE C a σ m).bind fun x m1 => (evE C b σ m1).bind fun y m2 => match y with
    | .dat (.list xs) => match (setE σ i (.v x)).bind fun σ' => setE σ' j (.own xs) with
      | some σ' => .ok (.nx, σ') m2
      | none => .bad
    | _ => .bad := rfl
@[simp] theorem s_par1oE {i j : Nat} {a b : E} : evS L C (.par1o i j a b) σ m = (evE C a σ m).bind fun x m1 => match x with
    | .dat (.list xs) => (evE C b σ m1).bind fun y m2 => match (setE σ i (.own xs)).bind fun σ' => setE σ' j (.v y) with
      | some σ' => .ok (.nx, σ') m2
      | none => .bad
    | _ => .bad := rfl
@[simp] theorem s_asgToE {i j : Nat} {a b : E} : evS L C (.asgTo i j a b) σ m = (evE C a σ m).bind fun x m1 => match x with
    | .dat (.list xs) => (evE C b σ m1).bind fun y m2 => match (setE σ i (.own xs)).bind fun σ' => setE σ' j (.v y) with
      | some σ' => .ok (.nx, σ') m2
      | none => .bad
    | _ => .bad := rfl
@[simp] theorem s_par2ooE {i j : Nat} {a b : E} : evS L C (.par2oo i j a b) σ m = (evE C a σ m).bind fun x m1 => match x with
    | .dat (.list xs) => (evE C b σ m1).bind fun y m2 => match y with
      | .dat (.list ys) => match (setE σ i (.own xs)).bind fun σ' => setE σ' j (.own ys) with
        | some σ' => .ok (.nx, σ') m2
        | none => .bad
      | _ => .bad
    | _ => .bad := rfl
@[simp] theorem s_par3oE {i j l : Nat} {a b c : E} : evS L C (.par3o i j l a b c) σ m = (evE C a σ m).bind fun x m1 => match x with
    | .dat (.list xs) => (evE C b σ m1).bind fun y m2 => (evE C c σ m2).bind fun z m3 => match ((setE σ i (.own xs)).bind fun σ' => setE σ' j (.v y)).bind fun σ' => setE σ' l (.v z) with
      | some σ' => .ok (.nx, σ') m3
      | none => .bad
    | _ => .bad := rfl
@[simp] theorem s_par3zE {i j l : Nat} {a b c : E} : evS L C (.par3z i j l a b c) σ m = (evE C a σ m).bind fun x m1 => (evE C b σ m1).bind fun y m2 => (evE C c σ m2).bind fun z m3 => match z with
    | .dat (.list xs) => match ((setE σ i (.v x)).bind fun σ' => setE σ' j (.v y)).bind fun σ' => setE σ' l (.own xs) with
      | some σ' => .ok (.nx, σ') m3
      | none => .bad
    | _ => .bad := rfl
@[simp] theorem s_par3mE {i j l : Nat} {a b c : E} : evS L C (.par3m i j l a b c) σ m = (evE C a σ m).bind fun x m1 => (evE C b σ m1).bind fun y m2 => match y with
    | .dat (.list xs) => (evE C c σ m2).bind fun z m3 => match ((setE σ i (.v x)).bind fun σ' => setE σ' j (.own xs)).bind fun σ' => setE σ' l (.v z) with
      | some σ' => .ok (.nx, σ') m3
      | none => .bad
    | _ => .bad := rfl
@[simp] theorem s_augOE {i : Nat} {ix e : E} {o : BinO} : evS L C (.augO i ix o e) σ m = match σ[i]? with
    | some (.own xs) => (evE C ix σ m).bind fun y m1 => match ixO xs y with
      | some p => (evE C e σ m1).bind fun u m2 => augOGo σ i o xs p u m2
      | none => .bad
    | _ => .bad := rfl
@[simp] theorem s_setOPE {i j : Nat} {ix e : E} : evS L C (.setOP i ix j e) σ m = (evE C e σ m).bind fun u m1 => match u with
    | .dat (.tuple [d, d2]) => match σ[i]? with
      | some (.own xs) => (evE C ix σ m1).bind fun y m2 => setOPGo σ i j xs d d2 y m2
      | _ => .bad
    | _ => .bad := rfl
@[simp] theorem s_setOE {i : Nat} {ix e : E} : evS L C (.setO i ix e) σ m = (evE C e σ m).bind fun u m1 => match σ[i]? with
    | some (.own xs) => (evE C ix σ m1).bind fun y m2 => setOGo σ i xs u y m2
    | _ => .bad := rfl
@[simp] theorem s_setME {r ix e : E} : evS L C (.setM r ix e) σ m = (evE C e σ m).bind fun u m1 => (evE C r σ m1).bind fun x m2 => (evE C ix σ m2).bind fun y m3 => setMGo σ u x y m3 := rfl
@[simp] theorem s_appE {i : Nat} {e : E} : evS L C (.app i e) σ m = match σ[i]? with
    | some (.own xs) => (evE C e σ m).bind fun u m1 => appGo σ i xs u m1
    | _ => .bad := rfl
@[simp] theorem s_extE {i : Nat} {e : E} : evS L C (.ext i e) σ m = match σ[i]? with
    | some (.own xs) => (evE C e σ m).bind fun u m1 => extGo σ i xs u m1
    | _ => .bad := rfl
@[simp] theorem s_setO2E {i : Nat} {ix ix2 e : E} : evS L C (.setO2 i ix ix2 e) σ m = (evE C e σ m).bind fun u m1 => match u with
    | .dat (.tuple [d, d2]) => match σ[i]? with
      | some (.own xs) => ((evE C ix σ m1).bind fun y m2 => setOGo σ i xs (.dat d) y m2).bind (setO2Go σ i d2 (evE C ix2))
      | _ => .bad
    | _ => .bad := rfl
@[simp] theorem s_appME {i : Nat} {e : E} : evS L C (.appM i e) σ m = match σ[i]? with
    | some (.v (.ref k)) => match m[k]? with
      | some (.lst _) => (evE C e σ m).bind fun u m1 => appMGo σ k u m1
      | _ => .bad
    | _ => .bad := rfl
@[simp] theorem s_popOE {i j : Nat} : evS L C (.popO i j) σ m = match σ[j]? with
    | some (.own xs) => popGo σ i j xs m
    | _ => .bad := rfl
@[simp] theorem s_augE {i : Nat} {o : BinO} {e : E} : evS L C (.aug i o e) σ m = match σ[i]? with
    | some (.v (.dat d)) => (evE C e σ m).bind fun u m1 => augGo σ i o d u m1
    | _ => .bad := rfl
@[simp] theorem s_raiseE {k : Nat} {e : E} : evS L C (.raise k e) σ m = (evE C e σ m).bind fun u m1 => .exc k u m1 := rfl
@[simp] theorem s_tryOE {md : TM} {e : E} {k : Nat} {d : PyData} : evS L C (.tryO md e k d) σ m = tryOGo md k d σ (evE C e σ m) := rfl
@[simp] theorem s_tryE {md : TM} {e : E} {i k : Nat} {hs : List HS} : evS L C (.tryX md e i k hs) σ m = tryGo md i k hs σ (evE C e σ m) := rfl
@[simp] theorem s_ifeE {c : E} {t f : Ss} : evS L C (.ife c t f) σ m = ((evE C c σ m).bind asB).bind fun b m1 => if b = true then evSs L C t σ m1 else evSs L C f σ m1 := rfl
@[simp] theorem s_forE {tg : Tg} {it : It} {body : Ss} : evS L C (.for_ tg it body) σ m = (evI C it σ m).bind fun ds m1 => forGo (fun σ m => evSs L C body σ m) tg ds σ m1 := rfl
@[simp] theorem s_retE {e : E} : evS L C (.ret e) σ m = (evE C e σ m).bind fun u m1 => .ok (.ret u, σ) m1 := rfl
@[simp] theorem s_exprE {e : E} : evS L C (.expr e) σ m = (evE C e σ m).bind fun _ m1 => .ok (.nx, σ) m1 := rfl
@[simp] theorem s_nil : evSs L C .nil σ m = .ok (.nx, σ) m := rfl
noncomputable def thenS (L : Nat) (C : Calls) (ss : Ss) (x : F × Env) (m : Mem) : R (F × Env) := match x.1 with
  | .nx => evSs L C ss x.2 m
  | _ => .ok x m
@[simp] theorem s_cons {s : S} {ss : Ss} : evSs L C (.cons s ss) σ m = (evS L C s σ m).bind (thenS L C ss) := rfl
@[simp] theorem then_nx {ss : Ss} : thenS L C ss (.nx, σ) m = evSs L C ss σ m := rfl
@[simp] theorem then_ret {ss : Ss} {u : U} : thenS L C ss (.ret u, σ) m = .ok (.ret u, σ) m := rfl
def finS (x : F × Env) (m : Mem) : R U := match x.1 with
  | .ret u => .ok u m
  | .nx => .ok (.dat .none) m
  | _ => .bad
@[simp] theorem fin_ret {u : U} : finS (.ret u, σ) m = .ok u m := rfl
theorem call_eq {P : Prog} {n f : Nat} {fd : FD} {us : List U} (h : P f = some fd) (hl : us.length = fd.np) : callN L P (n + 1) f us m = (evSs L (callN L P n) fd.body (us.map Sl.v ++ List.replicate (fd.N.length - us.length) .no) m).bind finS := by
  rw [callN_succ h]
  unfold runFD
  rw [if_pos hl]; rfl
/-- a loop with an invariant by the turn -/
theorem forGo_inv {body : Env → Mem → R (F × Env)} {tg : Tg} (ds : List PyData) (I : Nat → Env → Mem → Prop) (h : ∀ i d σ m, ds[i]? = some d → I i σ m → ∃ σ1 σ2 m2, asgTg tg d σ = some σ1 ∧ body σ1 m = .ok (.nx, σ2) m2 ∧ I (i + 1) σ2 m2) :
    ∀ {σ : Env} {m : Mem}, I 0 σ m → ∃ σ' m', forGo body tg ds σ m = .ok (.nx, σ') m' ∧ I ds.length σ' m' := by
  induction ds generalizing I with
  | nil => intro σ m hi; exact ⟨σ, m, rfl, hi⟩
  | cons d ds ih =>
    intro σ m hi
    obtain ⟨σ1, σ2, m2, h1, h2, h3⟩ := h 0 d σ m rfl hi
    obtain ⟨σ', m', k1, k2⟩ := ih (fun i => I (i + 1)) (fun i d σ m hd hi => h (i + 1) d σ m (by simpa using hd) hi) h3
    refine ⟨σ', m', ?_, k2⟩
    unfold forGo
    rw [h1]
    simp only [h2, R.bind_ok]
    exact k1
inductive All2 {α β : Type} (R : α → β → Prop) : List α → List β → Prop
  | nil : All2 R [] []
  | cons {a : α} {b : β} {as : List α} {bs : List β} : R a b → All2 R as bs → All2 R (a :: as) (b :: bs)
theorem All2.length {α β : Type} {R : α → β → Prop} : ∀ {as : List α} {bs : List β}, All2 R as bs → bs.length = as.length
  | _, _, .nil => rfl
  | _, _, .cons _ h => by rw [List.length_cons, List.length_cons, h.length]
theorem compGo_pure {elt : Env → Mem → R U} {tg : Tg} {σ : Env} {m : Mem} {f : PyData → PyData} : ∀ {ds : List PyData}, (∀ d ∈ ds, ∃ σ', asgTg tg d σ = some σ' ∧ elt σ' m = .ok (.dat (f d)) m) → compGo elt none tg σ ds m = .ok (ds.map f) m
  | [], _ => rfl
  | d :: ds, h => by
    obtain ⟨σ', h1, h2⟩ := h d List.mem_cons_self
    unfold compGo
    rw [h1]
    simp only [condGo, R.bind_ok, if_true, h2, asD_dat]
    rw [compGo_pure fun e he => h e (List.mem_cons_of_mem _ he)]
    rfl
theorem compGo_inv {elt : Env → Mem → R U} {tg : Tg} {σ : Env} {I : Mem → Prop} {Rr : PyData → PyData → Prop} : ∀ {ds : List PyData} {m : Mem}, I m → (∀ d ∈ ds, ∀ m, I m → ∃ σ' x m', asgTg tg d σ = some σ' ∧ elt σ' m = .ok (.dat x) m' ∧ I m' ∧ Rr d x) →
    ∃ xs m', compGo elt none tg σ ds m = .ok xs m' ∧ I m' ∧ All2 Rr ds xs
  | [], m, hi, _ => ⟨[], m, rfl, hi, .nil⟩
  | d :: ds, m, hi, h => by
    obtain ⟨σ', x, m1, h1, h2, h3, h4⟩ := h d List.mem_cons_self m hi
    obtain ⟨xs, m2, k1, k2, k3⟩ := compGo_inv h3 fun e he => h e (List.mem_cons_of_mem _ he)
    refine ⟨x :: xs, m2, ?_, k2, .cons h4 k3⟩
    unfold compGo
    rw [h1]
    simp only [condGo, R.bind_ok, if_true, h2, asD_dat, k1]
end
@[simp] theorem bv_addI (i j : Int) : binVal .add (.int i) (.int j) = some (.int (i + j)) := rfl
@[simp] theorem bv_subI (i j : Int) : binVal .sub (.int i) (.int j) = some (.int (i - j)) := rfl
theorem bv_modI {i j : Int} (h : 0 < j) : binVal .mod (.int i) (.int j) = some (.int (i % j)) := if_pos h
theorem bv_mulI {i j : Int} (h : L2.CMul i j) : binVal .mul (.int i) (.int j) = some (.int (i * j)) := if_pos h
theorem bv_fdivI {i j : Int} (h : L2.CDivW i j) : binVal .fdiv (.int i) (.int j) = some (.int (i / j)) := if_pos h
theorem bv_powI {i j : Int} (h : L2.CPow i j) : binVal .pow (.int i) (.int j) = some (.int (i ^ j.toNat)) := if_pos h
@[simp] theorem cv_eqI (i j : Int) : cmpVal .eq (.int i) (.int j) = some (.bool (decide (i = j))) := rfl
@[simp] theorem cv_neI (i j : Int) : cmpVal .ne (.int i) (.int j) = some (.bool (!decide (i = j))) := rfl
@[simp] theorem cv_ltI (i j : Int) : cmpVal .lt (.int i) (.int j) = some (.bool (decide (i < j))) := rfl
@[simp] theorem cv_leI (i j : Int) : cmpVal .le (.int i) (.int j) = some (.bool (decide (i ≤ j))) := rfl
@[simp] theorem cv_gtI (i j : Int) : cmpVal .gt (.int i) (.int j) = some (.bool (decide (j < i))) := rfl
@[simp] theorem cv_geI (i j : Int) : cmpVal .ge (.int i) (.int j) = some (.bool (decide (j ≤ i))) := rfl
@[simp] theorem cv_neS (i j : Str) : cmpVal .ne (.str i) (.str j) = some (.bool (!decide (i = j))) := rfl
@[simp] theorem b2_max (i j : Int) : b2Val .max (.int i) (.int j) = some (.int (if j > i then j else i)) := rfl
@[simp] theorem b2_min (i j : Int) : b2Val .min (.int i) (.int j) = some (.int (if j < i then j else i)) := rfl
@[simp] theorem b1_absI (i : Int) : b1Val .abs (.int i) = some (.int (if i < 0 then -i else i)) := rfl
@[simp] theorem b1_intI (i : Int) : b1Val .int (.int i) = some (.int i) := rfl
@[simp] theorem oA_def {a : E} {f : Env → Mem → R U} {σ : Env} {m : Mem} : oA a f σ m = match a with
  | .no => .ok none m
  | _ => ((f σ m).bind asInt).bind fun i m1 => .ok (some i) m1 := rfl
@[simp] theorem getV_def {σ : Env} {i : Nat} {m : Mem} : getV σ i m = match σ[i]? with
  | some (.v u) => .ok u m
  | _ => .bad := rfl
@[simp] theorem getB_def {σ : Env} {i : Nat} {m : Mem} : getB σ i m = match σ[i]? with
  | some (.v u) => .ok u m
  | some (.own xs) => .ok (.dat (.list xs)) m
  | _ => .bad := rfl
@[simp] theorem asTup_def {us : List U} {m : Mem} : asTup us m = R.dat ((datL us).map .tuple) m := rfl
@[simp] theorem asLst_def {us : List U} {m : Mem} : asLst us m = R.dat ((datL us).map .list) m := rfl
@[simp] theorem datL_nil : datL [] = some [] := rfl
@[simp] theorem datL_cons {d : PyData} {r : List U} : datL (.dat d :: r) = (datL r).map (d :: ·) := rfl
@[simp] theorem clsVal_def {c : ClsT} {d : PyData} : clsVal c d = match c, d with
  | .int, .int _ => true
  | .int, .bool _ => true
  | .bool, .bool _ => true
  | .str, .str _ => true
  | .list, .list _ => true
  | .tuple, .tuple _ => true
  | _, _ => false := rfl
@[simp] theorem wipeE_nil {σ : Env} : wipeE σ [] = σ := rfl
@[simp] theorem wipeE_cons {σ : Env} {v : Nat} {vs : List Nat} : wipeE σ (v :: vs) = (wipeE σ vs).set v .no := rfl
@[simp] theorem asgTg_nm {i : Nat} {d : PyData} {σ : Env} : asgTg (.nm i) d σ = if i < σ.length then some (σ.set i (.v (.dat d))) else none := rfl
@[simp] theorem asgTg_tp {ts : List Tg} {ds : List PyData} {σ : Env} : asgTg (.tp ts) (.tuple ds) σ = asgTgs ts ds σ := rfl
@[simp] theorem asgTgs_nil {σ : Env} : asgTgs [] [] σ = some σ := rfl
@[simp] theorem asgTgs_cons {t : Tg} {ts : List Tg} {d : PyData} {ds : List PyData} {σ : Env} : asgTgs (t :: ts) (d :: ds) σ = (asgTg t d σ).bind fun σ' => asgTgs ts ds σ' := rfl
@[simp] theorem setE_def {σ : Env} {i : Nat} {s : Sl} : setE σ i s = if i < σ.length then some (σ.set i s) else none := rfl
@[simp] theorem cA_def {a : E} {f : Env → Mem → R U} : cA a f = match a with
  | .no => none
  | _ => some fun σ m => (f σ m).quiet := rfl
@[simp] theorem isNoneD_def {d : PyData} : isNoneD d = match d with
  | .none => true
  | _ => false := rfl
end Eng

set_option Elab.async false
set_option linter.all false
set_option maxRecDepth 100000
set_option maxHeartbeats 1000000
/-! List comprehensions over mapped lists; steps of a list of its own. -/
namespace Eng
open PySem PySem.Spec PyProof.Rows L2
section
variable {α : Type} {C : Calls} {elt cond : E} {tg : Tg} {it : It} {own : List (Str × Nat)} {σ : Env} {m : Mem} {g f : α → PyData} {p : α → Bool} {l : List α}
theorem comp_map {el : Env → Mem → R U} : ∀ {l : List α}, (∀ a ∈ l, ∃ σ', asgTg tg (g a) σ = some σ' ∧ el σ' m = .ok (.dat (f a)) m) → compGo el none tg σ (l.map g) m = .ok (l.map f) m
  | [], _ => rfl
  | a :: l, h => by
    obtain ⟨σ', h1, h2⟩ := h a List.mem_cons_self
    rw [List.map_cons, List.map_cons]
    unfold compGo
    rw [h1]
    simp only [condGo, R.bind_ok, if_true, h2, asD_dat]
    rw [comp_map fun e he => h e (List.mem_cons_of_mem _ he)]
    rfl
theorem comp_filt {el c : Env → Mem → R U} : ∀ {l : List α}, (∀ a ∈ l, ∃ σ', asgTg tg (g a) σ = some σ' ∧ c σ' m = .ok (.dat (.bool (p a))) m ∧ (p a = true → el σ' m = .ok (.dat (f a)) m)) → compGo el (some c) tg σ (l.map g) m = .ok ((l.filter p).map f) m
  | [], _ => rfl
  | a :: l, h => by
    obtain ⟨σ', h1, h2, h3⟩ := h a List.mem_cons_self
    rw [List.map_cons]
    unfold compGo
    rw [h1]
    have ih := comp_filt fun e he => h e (List.mem_cons_of_mem _ he)
    simp only [condGo, h2, R.bind_ok, asB_bool]
    cases hp : p a with
    | true =>
      rw [if_pos rfl, h3 hp, List.filter_cons_of_pos hp]
      simp only [R.bind_ok, asD_dat, ih, List.map_cons]
    | false =>
      rw [if_neg (by simp), List.filter_cons_of_neg (by simp [hp]), ih]
theorem ev_compM (hI : evI C it σ m = .ok (l.map g) m) (hl : l.length ≤ 1000) (h : ∀ a ∈ l, ∃ σ', asgTg tg (g a) (wipeE σ (own.map (·.2))) = some σ' ∧ evE C elt σ' m = .ok (.dat (f a)) m) : evE C (.comp elt tg it .no own) σ m = .ok (.dat (.list (l.map f))) m := by
  refine ev_comp hI (by rw [List.length_map]; exact small1001 hl) ?_
  refine comp_map fun a ha => ?_
  obtain ⟨σ', h1, h2⟩ := h a ha
  exact ⟨σ', h1, by rw [h2]; rfl⟩
theorem ev_compF (hc : cA cond (evE C cond) = some fun σ m => (evE C cond σ m).quiet) (hI : evI C it σ m = .ok (l.map g) m) (hl : l.length ≤ 1000)
    (h : ∀ a ∈ l, ∃ σ', asgTg tg (g a) (wipeE σ (own.map (·.2))) = some σ' ∧ evE C cond σ' m = .ok (.dat (.bool (p a))) m ∧ (p a = true → evE C elt σ' m = .ok (.dat (f a)) m)) : evE C (.comp elt tg it cond own) σ m = .ok (.dat (.list ((l.filter p).map f))) m := by
  refine ev_comp hI (by rw [List.length_map]; exact small1001 hl) ?_
  rw [hc]
  refine comp_filt fun a ha => ?_
  obtain ⟨σ', h1, h2, h3⟩ := h a ha
  exact ⟨σ', h1, by rw [h2]; rfl, fun hp => by rw [h3 hp]; rfl⟩
end
@[simp] theorem s_asgTE {L : Nat} {C : Calls} {ts : List Tg} {e : E} {σ : Env} {m : Mem} : evS L C (.asgT ts e) σ m = (evE C e σ m).bind fun u m1 => match u with
    | .dat (.tuple ds) => match asgTgs ts ds σ with
      | some σ' => .ok (.nx, σ') m1
      | none => .bad
    | _ => .bad := rfl
theorem ext_ok {m : Mem} {σ : Env} {i : Nat} {xs ys : List PyData} (h : xs.length + ys.length ≤ 1000) : extGo σ i xs (.dat (.list ys)) m = .ok (.nx, σ.set i (.own (xs ++ ys))) m := if_pos (small1001 h)
end Eng

set_option Elab.async false
set_option linter.all false
set_option maxRecDepth 100000
set_option maxHeartbeats 1000000
/-! What repr, ==, in ask of data. -/
namespace Eng
open PySem PySem.Spec PyProof.Rows L2
structure Fac (d : PyData) (w k : Nat) : Prop where
  lay : d.canLay0 = true
  sh : d.showable = true
  ish : d.intsShort 13 = true
  wt : d.weight ≤ w
  dp : d.depth ≤ k
structure FacA (ds : List PyData) (n w k : Nat) : Prop where
  lay : PyData.canLayAll0 ds = true
  sh : PyData.showableAll ds = true
  ish : PyData.intsShortAll 13 ds = true
  wt : PyData.weightAll ds ≤ n * (w + 1)
  dp : PyData.depthAll ds ≤ k
section
variable {d e : PyData} {ds es : List PyData} {w w' k k' n : Nat}
theorem Fac.mono (h : Fac d w k) (h1 : w ≤ w') (h2 : k ≤ k') : Fac d w' k' := ⟨h.lay, h.sh, h.ish, Nat.le_trans h.wt h1, Nat.le_trans h.dp h2⟩
theorem Fac.all : ∀ {ds : List PyData}, (∀ d ∈ ds, Fac d w k) → FacA ds ds.length w k
  | [], _ => ⟨rfl, rfl, rfl, Nat.zero_le _, Nat.zero_le _⟩
  | d :: ds, h => by
    have h1 := h d List.mem_cons_self
    have h2 := Fac.all fun e he => h e (List.mem_cons_of_mem _ he)
    refine ⟨?_, ?_, ?_, ?_, ?_⟩
    · simp only [PyData.canLayAll0, h1.lay, h2.lay, Bool.and_self]
    · simp only [PyData.showableAll, h1.sh, h2.sh, Bool.and_self]
    · simp only [PyData.intsShortAll, h1.ish, h2.ish, Bool.and_self]
    · simp only [PyData.weightAll, List.length_cons, Nat.succ_mul]
      have := h1.wt
      have := h2.wt
      omega
    · simp only [PyData.depthAll]
      have := h1.dp
      have := h2.dp
      omega
theorem Fac.list (h : ∀ d ∈ ds, Fac d w k) (hn : ds.length ≤ n) : Fac (.list ds) (n * (w + 1)) (k + 1) := by
  have a := Fac.all h
  have hm : ds.length * (w + 1) ≤ n * (w + 1) := Nat.mul_le_mul_right _ hn
  refine ⟨by simp only [PyData.canLay0]; exact a.lay, by simp only [PyData.showable]; exact a.sh, by simp only [PyData.intsShort]; exact a.ish, ?_, ?_⟩
  · simp only [PyData.weight]; exact Nat.le_trans a.wt hm
  · simp only [PyData.depth]; have := a.dp; omega
theorem Fac.tuple (h : ∀ d ∈ ds, Fac d w k) (hn : ds.length ≤ n) : Fac (.tuple ds) (n * (w + 1)) (k + 1) := by
  have a := Fac.all h
  have hm : ds.length * (w + 1) ≤ n * (w + 1) := Nat.mul_le_mul_right _ hn
  refine ⟨by simp only [PyData.canLay0]; exact a.lay, by simp only [PyData.showable]; exact a.sh, by simp only [PyData.intsShort]; exact a.ish, ?_, ?_⟩
  · simp only [PyData.weight]; exact Nat.le_trans a.wt hm
  · simp only [PyData.depth]; have := a.dp; omega
theorem short_nat : ∀ i < 1001, ((PyData.int (i : Nat)).shown).length ≤ 13 := by decide +kernel
theorem Fac.int {i : Nat} (h : i < 1001) : Fac (.int (i : Int)) 11 0 := by
  have hl : i.log2 ≤ 10 := by
    rcases Nat.eq_zero_or_pos i with e | e
    · subst e; decide
    · have := (Nat.log2_lt (n := i) (k := 11) (by omega)).mpr (by omega)
      omega
  refine ⟨rfl, ?_, ?_, ?_, Nat.le_refl _⟩
  · simp only [PyData.showable, decide_eq_true_eq, Int.natAbs_natCast]; omega
  · simp only [PyData.intsShort, decide_eq_true_eq]; exact short_nat i h
  · simp only [PyData.weight, Int.natAbs_natCast]
    split <;> omega
theorem Fac.bool (b : Bool) : Fac (.bool b) 0 0 := ⟨rfl, rfl, rfl, Nat.zero_le _, Nat.le_refl _⟩
theorem Fac.none : Fac .none 0 0 := ⟨rfl, rfl, rfl, Nat.zero_le _, Nat.le_refl _⟩
theorem Fac.str {x : Str} (h : PyData.strOk x = true) (hw : x.cps.size ≤ w) : Fac (.str x) w 0 := ⟨by simp only [PyData.canLay0]; exact h, rfl, rfl, by simp only [PyData.weight]; exact hw, Nat.le_refl _⟩
/-- its text -/
theorem Fac.repr (h : Fac d w k) (hw : w ≤ 1000000) (hk : k ≤ 60) : ∃ z : Str, b1Val .repr d = some (.str z) := by
  have e : b1Val .repr d = if d.showable && decide (d.shown.length ≤ sizeLine) && decide (d.depth ≤ 60) then some (.str d.shown) else .none := by cases d <;> rfl
  have l : PyData.layable0 d = true := by
    have : (2 : Nat) ^ 20 = 1048576 := by decide
    have := h.wt
    have := h.dp
    show (d.canLay0 && decide (d.depth ≤ 64) && decide (d.weight ≤ 2 ^ 20)) = true
    rw [h.lay]
    simp only [Bool.true_and, Bool.and_eq_true, decide_eq_true_eq]
    exact ⟨by omega, by omega⟩
  have s := PyProof.Rows.shown_le13 l h.ish
  refine ⟨d.shown, ?_⟩
  rw [e, if_pos]
  have := h.dp
  simp only [Bool.and_eq_true, decide_eq_true_eq]
  exact ⟨⟨h.sh, by rw [sizeLine_eq]; omega⟩, by omega⟩
/-- the signs of a text -/
def Sg (x : Str) : Prop := ∀ c ∈ x.cps.toList, c < 16 ^ 8
theorem Sg.ofString (s : String) : Sg (Str.ofString s) := by
  intro c hc
  rw [Str.ofString_eq_toList] at hc
  obtain ⟨ch, _, rfl⟩ := List.mem_map.mp (by simpa using hc : c ∈ s.toList.map Char.toNat)
  have := ch.valid
  have h2 : ch.toNat < 0x110000 := by
    have h3 : ch.toNat = ch.val.toNat := rfl
    rw [h3]
    rcases this with h | h
    · exact Nat.lt_trans h (by decide)
    · exact h.2
  exact Nat.lt_trans h2 (by decide)
theorem Sg.app {x y : Str} (h1 : Sg x) (h2 : Sg y) : Sg (x ++ y) := by
  intro c hc
  have e : (x ++ y).cps = x.cps ++ y.cps := rfl
  rw [e, Array.toList_append] at hc
  rcases List.mem_append.mp hc with h | h
  · exact h1 c h
  · exact h2 c h
theorem Sg.join {sep : Str} (hs : Sg sep) : ∀ {l : List Str}, (∀ x ∈ l, Sg x) → Sg (Str.join sep l)
  | [], _ => by intro c hc; exact absurd hc (by simp [Str.join, Str.empty])
  | [x], h => h x (by simp)
  | x :: y :: l, h => by
    show Sg (x ++ sep ++ Str.join sep (y :: l))
    exact ((h x (by simp)).app hs).app (Sg.join hs fun z hz => h z (List.mem_cons_of_mem _ hz))
mutual
/-- whole numbers, truth values, None; lists and tuples of these -/
def numD : PyData → Bool
  | .none | .bool _ | .int _ => true
  | .str _ => false
  | .list xs | .tuple xs => numA xs
  | .dict _ => false
def numA : List PyData → Bool
  | [] => true
  | x :: xs => numD x && numA xs
end
mutual
theorem sg_shown : ∀ {d : PyData}, numD d = true → Sg d.shown
  | .none, _ => by rw [PyData.shown_none]; exact Sg.ofString _
  | .bool b, _ => by rw [PyData.shown_bool]; split <;> exact Sg.ofString _
  | .int i, _ => by rw [PyData.shown_int]; exact Sg.ofString _
  | .str _, h => by simp [numD] at h
  | .list xs, h => by
    rw [PyData.shown_list]
    exact ((Sg.ofString _).app (Sg.join (Sg.ofString _) (sg_all (by simpa [numD] using h)))).app (Sg.ofString _)
  | .tuple xs, h => by
    rw [PyData.shown_tuple]
    exact ((Sg.ofString _).app (Sg.join (Sg.ofString _) (sg_all (by simpa [numD] using h)))).app (by split <;> exact Sg.ofString _)
  | .dict _, h => by simp [numD] at h
theorem sg_all : ∀ {ds : List PyData}, numA ds = true → ∀ x ∈ PyData.shownAll ds, Sg x
  | [], _, x, hx => by rw [PyData.shownAll_nil] at hx; exact absurd hx (by simp)
  | d :: ds, h, x, hx => by
    simp only [numA, Bool.and_eq_true] at h
    rw [PyData.shownAll_cons] at hx
    rcases List.mem_cons.mp hx with rfl | hx
    · exact sg_shown h.1
    · exact sg_all h.2 x hx
end
theorem Fac.shaped (h : Fac d w k) (hk : k ≤ 60) : SeqAt.shaped d = true := by
  have := h.dp
  show (d.canLay0 && decide (d.depth ≤ 64)) = true
  rw [h.lay, Bool.true_and, decide_eq_true_eq]; omega
/-! ### the same, exactly -/
mutual
/-- no truth value, no dict within -/
def plainD : PyData → Bool
  | .none | .int _ | .str _ => true
  | .bool _ | .dict _ => false
  | .list xs | .tuple xs => plainA xs
def plainA : List PyData → Bool
  | [] => true
  | x :: xs => plainD x && plainA xs
end
mutual
theorem eqv_iff : ∀ (d e : PyData), plainD d = true → plainD e = true → (PyData.eqv d e = true ↔ d = e)
  | .none, e, _, _ => by cases e <;> simp [PyData.eqv]
  | .int i, e, _, h => by
    cases e with
    | bool b => simp [plainD] at h
    | int j => simp [PyData.eqv]
    | _ => simp [PyData.eqv]
  | .str x, e, _, h => by
    cases e with
    | str y => simp [PyData.eqv]
    | _ => simp [PyData.eqv]
  | .bool b, e, h, _ => by simp [plainD] at h
  | .dict b, e, h, _ => by simp [plainD] at h
  | .list xs, e, h, h' => by
    simp only [plainD] at h
    cases e with
    | list ys =>
      simp only [plainD] at h'
      simp only [PyData.eqv, PyData.list.injEq]
      exact eqvA_iff xs ys h h'
    | _ => simp [PyData.eqv]
  | .tuple xs, e, h, h' => by
    simp only [plainD] at h
    cases e with
    | tuple ys =>
      simp only [plainD] at h'
      simp only [PyData.eqv, PyData.tuple.injEq]
      exact eqvA_iff xs ys h h'
    | _ => simp [PyData.eqv]
theorem eqvA_iff : ∀ (ds es : List PyData), plainA ds = true → plainA es = true → (PyData.eqvAll ds es = true ↔ ds = es)
  | [], [], _, _ => by simp [PyData.eqvAll]
  | [], _ :: _, _, _ => by simp [PyData.eqvAll]
  | _ :: _, [], _, _ => by simp [PyData.eqvAll]
  | x :: xs, y :: ys, h, h' => by
    simp only [plainA, Bool.and_eq_true] at h h'
    simp only [PyData.eqvAll, Bool.and_eq_true, List.cons.injEq]
    rw [eqv_iff x y h.1 h'.1, eqvA_iff xs ys h.2 h'.2]
end
/-- == of two data that are lists or tuples -/
def isSq : PyData → Bool
  | .list _ | .tuple _ => true
  | _ => false
theorem cmp_neS (hd : Fac d w k) (he : Fac e w' k') (hk : k ≤ 60) (hk' : k' ≤ 60) (hs : isSq d = true) : cmpVal .ne d e = some (.bool (!PyData.eqv d e)) := by
  have s1 := hd.shaped hk
  have s2 := he.shaped hk'
  cases d <;> simp only [isSq, Bool.false_eq_true] at hs
  all_goals cases e <;> exact if_pos ⟨s1, s2⟩
end
end Eng

set_option Elab.async false
set_option linter.all false
set_option maxRecDepth 100000
set_option maxHeartbeats 4000000
namespace K07
open PySem PySem.Spec PyProof.Rows L2 Eng
/-! ### the defs -/
def lams : List Str := []
def d_is_integer : FD := ⟨"is_integer", 1, ["value"],
    (.cons (.ret (.and (.isi (.var 0) .int) (.not (.isi (.var 0) .bool))))
      .nil)⟩
def d_is_number : FD := ⟨"is_number", 1, ["value"],
    (.cons (.ret (.and (.call 0 (.cons (.var 0) .nil)) (.cmp .ge (.var 0) (.cst (.int 0)))))
      .nil)⟩
def d_is_below : FD := ⟨"is_below", 2, ["value", "most"],
    (.cons (.ret (.and (.call 1 (.cons (.var 0) .nil)) (.cmp .lt (.var 0) (.var 1))))
      .nil)⟩
def d_is_positive : FD := ⟨"is_positive", 1, ["value"],
    (.cons (.ret (.and (.call 0 (.cons (.var 0) .nil)) (.cmp .ge (.var 0) (.cst (.int 1)))))
      .nil)⟩
def d_is_sequence : FD := ⟨"is_sequence", 1, ["value"],
    (.cons (.ret (.isi2 (.var 0) .list .tuple))
      .nil)⟩
def d_is_string : FD := ⟨"is_string", 1, ["value"],
    (.cons (.ret (.isi (.var 0) .str))
      .nil)⟩
def e_are_below_1 : E := (.call 2 (.cons (.var 2) (.cons (.var 1) .nil)))
def c_are_below_1 : E := (.comp e_are_below_1 (.nm 2) (.seq (.var 0)) .no [("one", 2)])
theorem bA_c_are_below_1 {f : Eng.Env → Mem → R U} {σ : Eng.Env} {m : Mem} : bA c_are_below_1 f σ m = f σ m := rfl
def d_are_below : FD := ⟨"are_below", 2, ["value", "most", "one"],
    (.cons (.ret (.and (.call 4 (.cons (.var 0) .nil)) (.b1 .all c_are_below_1)))
      .nil)⟩
def d_is_hands : FD := ⟨"is_hands", 1, ["value"],
    (.cons (.ret (.and (.call 3 (.cons (.var 0) .nil)) (.cmp .le (.var 0) (.glb "MOST_HANDS" (.int 4)))))
      .nil)⟩
def d_is_press : FD := ⟨"is_press", 1, ["value"],
    (.cons (.ife (.or (.not (.call 4 (.cons (.var 0) .nil))) (.or (.cmp .eq (.b1 .len (.var 0)) (.cst (.int 0))) (.or (.not (.call 5 (.cons (.ix (.var 0) (.cst (.int 0))) .nil))) (.gd .notin "PARTS" [("deed", 3), ("back", 2)] [] (.ix (.var 0) (.cst (.int 0))))))) (.cons (.ret (.cst (.bool false)))
      .nil) .nil)
      (.cons (.ife (.or (.cmp .ne (.b1 .len (.var 0)) (.gd .item "PARTS" [("deed", 3), ("back", 2)] [] (.ix (.var 0) (.cst (.int 0))))) (.not (.call 2 (.cons (.ix (.var 0) (.cst (.int 1))) (.cons (.glb "MOST_HANDS" (.int 4)) .nil))))) (.cons (.ret (.cst (.bool false)))
      .nil) .nil)
      (.cons (.ret (.or (.cmp .eq (.ix (.var 0) (.cst (.int 0))) (.glb "BACK" (.str "back"))) (.call 2 (.cons (.ix (.var 0) (.cst (.int 2))) (.cons (.glb "MOST_DEEDS" (.int 6)) .nil)))))
      .nil)))⟩
def d_check_press : FD := ⟨"check_press", 1, ["value"],
    (.cons (.ife (.not (.call 8 (.cons (.var 0) .nil))) (.cons (.raise 0 .no)
      .nil) .nil)
      (.cons (.ret (.b1 .tuple (.var 0)))
      .nil))⟩
def d_is_map : FD := ⟨"is_map", 2, ["value", "boards"],
    (.cons (.ret (.and (.call 6 (.cons (.var 0) (.cons (.var 1) .nil))) (.cmp .eq (.b1 .len (.var 0)) (.var 1))))
      .nil)⟩
def e_are_deeds_1 : E := (.call 10 (.cons (.var 2) (.cons (.var 1) .nil)))
def c_are_deeds_1 : E := (.comp e_are_deeds_1 (.nm 2) (.seq (.var 0)) .no [("one", 2)])
theorem bA_c_are_deeds_1 {f : Eng.Env → Mem → R U} {σ : Eng.Env} {m : Mem} : bA c_are_deeds_1 f σ m = f σ m := rfl
def d_are_deeds : FD := ⟨"are_deeds", 1, ["value", "boards", "one"],
    (.cons (.ife (.or (.not (.call 4 (.cons (.var 0) .nil))) (.or (.not (.chain .le .le (.cst (.int 1)) (.b1 .len (.var 0)) (.glb "MOST_DEEDS" (.int 6)))) (.not (.call 4 (.cons (.ix (.var 0) (.cst (.int 0))) .nil))))) (.cons (.ret (.cst (.bool false)))
      .nil) .nil)
      (.cons (.asg 1 (.b1 .len (.ix (.var 0) (.cst (.int 0)))))
      (.cons (.ret (.and (.chain .le .le (.cst (.int 1)) (.var 1) (.glb "MOST_BOARDS" (.int 8))) (.b1 .all c_are_deeds_1)))
      .nil)))⟩
def e_check_machine_1 : E := (.b1 .tuple (.var 1))
def c_check_machine_1 : E := (.comp e_check_machine_1 (.nm 1) (.seq (.ix (.var 0) (.cst (.int 1)))) .no [("one", 1)])
theorem bA_c_check_machine_1 {f : Eng.Env → Mem → R U} {σ : Eng.Env} {m : Mem} : bA c_check_machine_1 f σ m = f σ m := rfl
def d_check_machine : FD := ⟨"check_machine", 1, ["value", "one"],
    (.cons (.ife (.or (.not (.call 4 (.cons (.var 0) .nil))) (.cmp .ne (.b1 .len (.var 0)) (.cst (.int 2)))) (.cons (.raise 0 .no)
      .nil) .nil)
      (.cons (.ife (.not (.call 11 (.cons (.ix (.var 0) (.cst (.int 1))) .nil))) (.cons (.raise 0 .no)
      .nil) .nil)
      (.cons (.ife (.not (.call 2 (.cons (.ix (.var 0) (.cst (.int 0))) (.cons (.b1 .len (.ix (.ix (.var 0) (.cst (.int 1))) (.cst (.int 0)))) .nil)))) (.cons (.raise 0 .no)
      .nil) .nil)
      (.cons (.ret (.tup (.cons (.ix (.var 0) (.cst (.int 0))) (.cons (.b1 .tuple c_check_machine_1) .nil))))
      .nil))))⟩
def d_need_hands : FD := ⟨"need_hands", 1, ["value"],
    (.cons (.ife (.not (.call 7 (.cons (.var 0) .nil))) (.cons (.raise 0 .no)
      .nil) .nil)
      (.cons (.ret (.var 0))
      .nil))⟩
def d_is_letter : FD := ⟨"is_letter", 3, ["value", "hands", "deeds"],
    (.cons (.ret (.and (.call 4 (.cons (.var 0) .nil)) (.and (.cmp .eq (.b1 .len (.var 0)) (.cst (.int 2))) (.and (.call 2 (.cons (.ix (.var 0) (.cst (.int 0))) (.cons (.var 1) .nil))) (.call 2 (.cons (.ix (.var 0) (.cst (.int 1))) (.cons (.var 2) .nil)))))))
      .nil)⟩
def b_check_row_1 : Ss := (.cons (.ife (.not (.call 14 (.cons (.var 4) (.cons (.var 0) (.cons (.var 1) .nil))))) (.cons (.raise 0 .no)
      .nil) .nil)
      .nil)
def l_check_row_1 : S := (.for_ (.tp [(.nm 3), (.nm 4)]) (.enum (.var 2)) b_check_row_1)
def e_check_row_1 : E := (.b1 .tuple (.var 4))
def c_check_row_1 : E := (.comp e_check_row_1 (.nm 4) (.seq (.var 2)) .no [("letter", 4)])
theorem bA_c_check_row_1 {f : Eng.Env → Mem → R U} {σ : Eng.Env} {m : Mem} : bA c_check_row_1 f σ m = f σ m := rfl
def d_check_row : FD := ⟨"check_row", 3, ["hands", "deeds", "value", "at", "letter"],
    (.cons (.expr (.call 13 (.cons (.var 0) .nil)))
      (.cons (.ife (.not (.call 4 (.cons (.var 2) .nil))) (.cons (.raise 0 .no)
      .nil) .nil)
      (.cons l_check_row_1
      (.cons (.ret (.b1 .tuple c_check_row_1))
      .nil))))⟩
def d_check_history : FD := ⟨"check_history", 3, ["machine", "hands", "value", "rules"],
    (.cons (.asg 3 (.call 12 (.cons (.var 0) .nil)))
      (.cons (.ret (.call 15 (.cons (.var 1) (.cons (.b1 .len (.ix (.var 3) (.cst (.int 1)))) (.cons (.var 2) .nil)))))
      .nil))⟩
def e_counts_of_1 : E := (.cst (.int 1))
def t_counts_of_1 : E := (.cmp .eq (.ix (.var 4) (.cst (.int 0))) (.var 3))
def c_counts_of_1 : E := (.comp e_counts_of_1 (.nm 4) (.seq (.var 2)) t_counts_of_1 [("letter", 4)])
theorem bA_c_counts_of_1 {f : Eng.Env → Mem → R U} {σ : Eng.Env} {m : Mem} : bA c_counts_of_1 f σ m = f σ m := rfl
def e_counts_of_2 : E := (.b1 .len c_counts_of_1)
def c_counts_of_2 : E := (.comp e_counts_of_2 (.nm 3) (.rng1 (.var 0)) .no [("hand", 3)])
theorem bA_c_counts_of_2 {f : Eng.Env → Mem → R U} {σ : Eng.Env} {m : Mem} : bA c_counts_of_2 f σ m = f σ m := rfl
def d_counts_of : FD := ⟨"counts_of", 2, ["hands", "history", "told", "hand", "letter"],
    (.cons (.asg 2 (.call 15 (.cons (.var 0) (.cons (.glb "MOST_DEEDS" (.int 6)) (.cons (.var 1) .nil)))))
      (.cons (.ret (.b1 .tuple c_counts_of_2))
      .nil))⟩
def b_boards_1 : Ss := (.cons (.app 3 (.ix (.ix (.ix (.var 2) (.cst (.int 1))) (.var 5)) (.ix (.bv 3) (.neg (.cst (.int 1))))))
      .nil)
def l_boards_1 : S := (.for_ (.tp [(.nm 4), (.nm 5)]) (.seq (.call 16 (.cons (.var 2) (.cons (.glb "MOST_HANDS" (.int 4)) (.cons (.var 1) .nil))))) b_boards_1)
def d_boards : FD := ⟨"boards", 2, ["machine", "history", "rules", "found", "hand", "deed"],
    (.cons (.asg 2 (.call 12 (.cons (.var 0) .nil)))
      (.cons (.own 3 (.lst (.cons (.ix (.var 2) (.cst (.int 0))) .nil)))
      (.cons l_boards_1
      (.cons (.ret (.b1 .tuple (.bv 3)))
      .nil))))⟩
def d_board_of : FD := ⟨"board_of", 2, ["machine", "history"],
    (.cons (.ret (.ix (.call 18 (.cons (.var 0) (.cons (.var 1) .nil))) (.neg (.cst (.int 1)))))
      .nil)⟩
def d_press_here : FD := ⟨"press_here", 3, ["machine", "hands", "press", "told"],
    (.cons (.asg 3 (.call 9 (.cons (.var 2) .nil)))
      (.cons (.ife (.cmp .ge (.ix (.var 3) (.cst (.int 1))) (.var 1)) (.cons (.raise 0 .no)
      .nil) .nil)
      (.cons (.ife (.and (.cmp .eq (.ix (.var 3) (.cst (.int 0))) (.glb "DEED" (.str "deed"))) (.cmp .ge (.ix (.var 3) (.cst (.int 2))) (.b1 .len (.ix (.var 0) (.cst (.int 1)))))) (.cons (.raise 0 .no)
      .nil) .nil)
      (.cons (.ret (.var 3))
      .nil))))⟩
def b_last_place_1 : Ss := (.cons (.ife (.cmp .eq (.ix (.var 4) (.cst (.int 0))) (.var 1)) (.cons (.asg 2 (.var 3))
      .nil) .nil)
      .nil)
def l_last_place_1 : S := (.for_ (.tp [(.nm 3), (.nm 4)]) (.enum (.var 0)) b_last_place_1)
def d_last_place : FD := ⟨"last_place", 2, ["history", "hand", "found", "at", "letter"],
    (.cons (.asg 2 (.neg (.cst (.int 1))))
      (.cons l_last_place_1
      (.cons (.ret (.var 2))
      .nil)))⟩
def d_need_press : FD := ⟨"need_press", 4, ["machine", "hands", "history", "press", "told"],
    (.cons (.asg 4 (.call 20 (.cons (.var 0) (.cons (.var 1) (.cons (.var 3) .nil)))))
      (.cons (.ife (.and (.cmp .eq (.ix (.var 4) (.cst (.int 0))) (.glb "BACK" (.str "back"))) (.cmp .lt (.call 21 (.cons (.var 2) (.cons (.ix (.var 4) (.cst (.int 1))) .nil))) (.cst (.int 0)))) (.cons (.raise 0 .no)
      .nil) .nil)
      (.cons (.ret (.var 4))
      .nil)))⟩
def d_behind : FD := ⟨"behind", 2, ["history", "press", "at"],
    (.cons (.ife (.cmp .eq (.ix (.var 1) (.cst (.int 0))) (.glb "DEED" (.str "deed"))) (.cons (.ret (.bin .add (.var 0) (.tup (.cons (.tup (.cons (.ix (.var 1) (.cst (.int 1))) (.cons (.ix (.var 1) (.cst (.int 2))) .nil))) .nil))))
      .nil) .nil)
      (.cons (.asg 2 (.call 21 (.cons (.var 0) (.cons (.ix (.var 1) (.cst (.int 1))) .nil))))
      (.cons (.ret (.bin .add (.sl (.var 0) .no (.var 2)) (.sl (.var 0) (.bin .add (.var 2) (.cst (.int 1))) .no)))
      .nil)))⟩
def d_pressed : FD := ⟨"pressed", 4, ["machine", "hands", "history", "press", "rules", "told"],
    (.cons (.asg 4 (.call 12 (.cons (.var 0) .nil)))
      (.cons (.asg 5 (.call 16 (.cons (.var 4) (.cons (.var 1) (.cons (.var 2) .nil)))))
      (.cons (.ret (.call 23 (.cons (.var 5) (.cons (.call 22 (.cons (.var 4) (.cons (.var 1) (.cons (.var 5) (.cons (.var 3) .nil))))) .nil))))
      .nil)))⟩
def b_histories_of_1 : Ss := (.cons (.app 4 (.call 22 (.cons (.var 0) (.cons (.var 1) (.cons (.ix (.bv 5) (.neg (.cst (.int 1)))) (.cons (.var 3) .nil))))))
      (.cons (.app 5 (.call 23 (.cons (.ix (.bv 5) (.neg (.cst (.int 1)))) (.cons (.ix (.bv 4) (.neg (.cst (.int 1)))) .nil))))
      .nil))
def l_histories_of_1 : S := (.for_ (.nm 3) (.seq (.var 2)) b_histories_of_1)
def d_histories_of : FD := ⟨"histories_of", 3, ["machine", "hands", "presses", "press", "line", "found"],
    (.cons (.expr (.call 13 (.cons (.var 1) .nil)))
      (.cons (.ife (.not (.call 4 (.cons (.var 2) .nil))) (.cons (.raise 0 .no)
      .nil) .nil)
      (.cons (.par2oo 4 5 (.lst .nil) (.lst (.cons (.tup .nil) .nil)))
      (.cons l_histories_of_1
      (.cons (.ret (.tup (.cons (.b1 .tuple (.bv 4)) (.cons (.b1 .tuple (.bv 5)) .nil))))
      .nil)))))⟩
def d_check_presses : FD := ⟨"check_presses", 3, ["machine", "hands", "presses"],
    (.cons (.ret (.ix (.call 25 (.cons (.call 12 (.cons (.var 0) .nil)) (.cons (.var 1) (.cons (.var 2) .nil)))) (.cst (.int 0))))
      .nil)⟩
def d_history_of : FD := ⟨"history_of", 3, ["machine", "hands", "presses"],
    (.cons (.ret (.ix (.ix (.call 25 (.cons (.call 12 (.cons (.var 0) .nil)) (.cons (.var 1) (.cons (.var 2) .nil)))) (.cst (.int 1))) (.neg (.cst (.int 1)))))
      .nil)⟩
def e_boards_shown_1 : E := (.call 19 (.cons (.var 3) (.cons (.var 4) .nil)))
def c_boards_shown_1 : E := (.comp e_boards_shown_1 (.nm 4) (.seq (.ix (.call 25 (.cons (.var 3) (.cons (.var 1) (.cons (.var 2) .nil)))) (.cst (.int 1)))) .no [("one", 4)])
theorem bA_c_boards_shown_1 {f : Eng.Env → Mem → R U} {σ : Eng.Env} {m : Mem} : bA c_boards_shown_1 f σ m = f σ m := rfl
def d_boards_shown : FD := ⟨"boards_shown", 3, ["machine", "hands", "presses", "rules", "one"],
    (.cons (.asg 3 (.call 12 (.cons (.var 0) .nil)))
      (.cons (.ret (.b1 .tuple c_boards_shown_1))
      .nil))⟩
def b_struck_1 : Ss := (.cons (.asg 8 (.ix (.var 3) (.ix (.var 7) (.cst (.int 1)))))
      (.cons (.ife (.cmp .eq (.ix (.var 7) (.cst (.int 0))) (.glb "DEED" (.str "deed"))) (.cons (.appM 8 (.var 6))
      .nil) (.cons (.app 5 (.tup (.cons (.popM 8) (.cons (.var 6) .nil))))
      .nil))
      .nil))
def l_struck_1 : S := (.for_ (.tp [(.nm 6), (.nm 7)]) (.enum (.var 4)) b_struck_1)
def d_struck : FD := ⟨"struck", 3, ["machine", "hands", "presses", "standing", "line", "found", "at", "press", "row", "hand"],
    (.cons (.par2o 4 5 (.call 26 (.cons (.var 0) (.cons (.var 1) (.cons (.var 2) .nil)))) (.lst .nil))
      (.cons (.asg 3 (.newRs (.nm 9) (.rng1 (.var 1)) [("hand", 9)]))
      (.cons l_struck_1
      (.cons (.ret (.b1 .tuple (.b1 .sorted (.bv 5))))
      .nil))))⟩
def d__law_box : FD := ⟨"_law_box", 2, ["_law_script", "_law_k", "_law_cell", "_law_great"],
    (.cons (.asg 2 (.bin .add (.bin .mul (.cst (.int 8803)) (.var 1)) (.cst (.int 1873))))
      (.cons (.ife (.cmp .lt (.var 1) (.b1 .len (.var 0))) (.cons (.asg 2 (.b1 .abs (.b1 .int (.ix (.var 0) (.var 1)))))
      .nil) (.cons (.ife (.cmp .gt (.b1 .len (.var 0)) (.cst (.int 0))) (.cons (.asg 2 (.bin .add (.var 2) (.bin .mul (.bin .mod (.b1 .int (.b1 .abs (.b1 .int (.ix (.var 0) (.bin .mod (.b1 .int (.var 1)) (.b1 .len (.var 0))))))) (.cst (.int 2147483587))) (.cst (.int 51257)))))
      .nil) .nil)
      .nil))
      (.cons (.asg 3 (.ite (.cmp .ge (.var 2) (.bin .pow (.cst (.int 10)) (.cst (.int 18)))) (.var 2) (.cst (.int 0))))
      (.cons (.ret (.newl (.cons (.var 3) (.cons (.bin .add (.bin .mod (.b1 .int (.bin .add (.bin .mul (.bin .mod (.b1 .int (.var 2)) (.cst (.int 2147483587))) (.cst (.int 70289))) (.bin .mul (.cst (.int 1873)) (.var 1)))) (.cst (.int 2147483587))) (.cst (.int 1))) .nil))))
      .nil))))⟩
def d__law_take : FD := ⟨"_law_take", 2, ["_law_box_here", "_law_many", "_law_raw", "_law_digit"],
    (.cons (.ife (.cmp .gt (.ix (.var 0) (.cst (.int 0))) (.cst (.int 0))) (.cons (.asg 3 (.bin .mod (.b1 .int (.ix (.var 0) (.cst (.int 0)))) (.var 1)))
      (.cons (.setM (.var 0) (.cst (.int 0)) (.bin .fdiv (.ix (.var 0) (.cst (.int 0))) (.var 1)))
      (.cons (.ret (.var 3))
      .nil))) .nil)
      (.cons (.asg 2 (.bin .mod (.b1 .int (.bin .add (.bin .mul (.ix (.var 0) (.cst (.int 1))) (.cst (.int 40692))) (.cst (.int 353)))) (.cst (.int 2147483399))))
      (.cons (.setM (.var 0) (.cst (.int 1)) (.bin .add (.bin .mod (.b1 .int (.bin .add (.bin .mul (.var 2) (.cst (.int 39373))) (.cst (.int 285)))) (.cst (.int 2147483587))) (.cst (.int 1))))
      (.cons (.ret (.bin .mod (.b1 .int (.bin .fdiv (.bin .add (.bin .mul (.var 2) (.cst (.int 2147483629))) (.ix (.var 0) (.cst (.int 1)))) (.cst (.int 8191)))) (.var 1)))
      .nil))))⟩
def d__law_pick : FD := ⟨"_law_pick", 2, ["_law_box_here", "_law_some"],
    (.cons (.ret (.ix (.var 1) (.call 31 (.cons (.var 0) (.cons (.b1 .len (.var 1)) .nil)))))
      .nil)⟩
def e__law_machine_1 : E := (.var 5)
def c__law_machine_1 : E := (.comp e__law_machine_1 (.nm 6) (.rng1 (.var 1)) .no [("_law_board", 6)])
theorem bA_c__law_machine_1 {f : Eng.Env → Mem → R U} {σ : Eng.Env} {m : Mem} : bA c__law_machine_1 f σ m = f σ m := rfl
def e__law_machine_2 : E := (.bin .mod (.bin .add (.var 6) (.var 5)) (.var 1))
def c__law_machine_2 : E := (.comp e__law_machine_2 (.nm 6) (.rng1 (.var 1)) .no [("_law_board", 6)])
theorem bA_c__law_machine_2 {f : Eng.Env → Mem → R U} {σ : Eng.Env} {m : Mem} : bA c__law_machine_2 f σ m = f σ m := rfl
def e__law_machine_3 : E := (.call 31 (.cons (.var 0) (.cons (.var 1) .nil)))
def c__law_machine_3 : E := (.comp e__law_machine_3 (.nm 6) (.rng1 (.var 1)) .no [("_law_board", 6)])
theorem bA_c__law_machine_3 {f : Eng.Env → Mem → R U} {σ : Eng.Env} {m : Mem} : bA c__law_machine_3 f σ m = f σ m := rfl
def b__law_machine_1 : Ss := (.cons (.asgT [(.nm 4), (.nm 5)] (.tup (.cons (.call 31 (.cons (.var 0) (.cons (.cst (.int 5)) .nil))) (.cons (.call 31 (.cons (.var 0) (.cons (.var 1) .nil))) .nil))))
      (.cons (.ife (.cmp .eq (.var 4) (.cst (.int 0))) (.cons (.app 2 (.b1 .tuple c__law_machine_1))
      .nil) (.cons (.ife (.cmp .eq (.var 4) (.cst (.int 1))) (.cons (.app 2 (.b1 .tuple c__law_machine_2))
      .nil) (.cons (.app 2 (.b1 .tuple c__law_machine_3))
      .nil))
      .nil))
      .nil))
def l__law_machine_1 : S := (.for_ (.nm 3) (.rng1 (.call 32 (.cons (.var 0) (.cons (.lst (.cons (.cst (.int 1)) (.cons (.cst (.int 2)) (.cons (.cst (.int 2)) (.cons (.cst (.int 3)) (.cons (.cst (.int 4)) (.cons (.cst (.int 6)) .nil))))))) .nil)))) b__law_machine_1)
def d__law_machine : FD := ⟨"_law_machine", 1, ["_law_box_here", "_law_many", "_law_deeds", "_law_turn", "_law_form", "_law_one", "_law_board"],
    (.cons (.asg 1 (.call 32 (.cons (.var 0) (.cons (.lst (.cons (.cst (.int 1)) (.cons (.cst (.int 2)) (.cons (.cst (.int 2)) (.cons (.cst (.int 3)) (.cons (.cst (.int 3)) (.cons (.cst (.int 4)) (.cons (.cst (.int 5)) (.cons (.cst (.int 8)) .nil))))))))) .nil))))
      (.cons (.own 2 (.lst .nil))
      (.cons l__law_machine_1
      (.cons (.ret (.tup (.cons (.call 31 (.cons (.var 0) (.cons (.var 1) .nil))) (.cons (.b1 .tuple (.bv 2)) .nil))))
      .nil))))⟩
def e__law_presses_1 : E := (.cst (.int 0))
def c__law_presses_1 : E := (.comp e__law_presses_1 (.nm 7) (.rng1 (.var 1)) .no [("_law_hand", 7)])
def b__law_presses_1 : Ss := (.cons (.asg 7 (.call 31 (.cons (.var 0) (.cons (.var 1) .nil))))
      (.cons (.ife (.and (.cmp .gt (.ix (.bv 6) (.var 7)) (.cst (.int 0))) (.cmp .eq (.call 31 (.cons (.var 0) (.cons (.var 3) .nil))) (.cst (.int 0)))) (.cons (.app 5 (.tup (.cons (.cst (.str "back")) (.cons (.var 7) .nil))))
      (.cons (.setO 6 (.var 7) (.bin .sub (.ix (.bv 6) (.var 7)) (.cst (.int 1))))
      .nil)) (.cons (.app 5 (.tup (.cons (.cst (.str "deed")) (.cons (.var 7) (.cons (.call 31 (.cons (.var 0) (.cons (.var 2) .nil))) .nil)))))
      (.cons (.setO 6 (.var 7) (.bin .add (.ix (.bv 6) (.var 7)) (.cst (.int 1))))
      .nil)))
      .nil))
def l__law_presses_1 : S := (.for_ (.nm 4) (.rng1 (.call 31 (.cons (.var 0) (.cons (.cst (.int 15)) .nil)))) b__law_presses_1)
def d__law_presses : FD := ⟨"_law_presses", 3, ["_law_box_here", "_law_hands", "_law_deeds", "_law_more", "_law_turn", "_law_found", "_law_standing_here", "_law_hand"],
    (.cons (.par2oo 5 6 (.lst .nil) c__law_presses_1)
      (.cons (.asg 3 (.call 32 (.cons (.var 0) (.cons (.lst (.cons (.cst (.int 2)) (.cons (.cst (.int 3)) (.cons (.cst (.int 5)) .nil)))) .nil))))
      (.cons l__law_presses_1
      (.cons (.frz 5)
      (.cons (.ret (.var 5))
      .nil)))))⟩
def b__law_taken_1 : Ss := (.cons (.asg 4 (.ix (.var 0) (.bin .sub (.var 1) (.var 3))))
      (.cons (.ife (.cmp .eq (.ix (.var 4) (.cst (.int 1))) (.ix (.ix (.var 0) (.var 1)) (.cst (.int 1)))) (.cons (.ife (.cmp .eq (.ix (.var 4) (.cst (.int 0))) (.cst (.str "back"))) (.cons (.asg 2 (.bin .add (.var 2) (.cst (.int 1))))
      .nil) (.cons (.ife (.cmp .eq (.var 2) (.cst (.int 0))) (.cons (.ret (.bin .sub (.var 1) (.var 3)))
      .nil) (.cons (.asg 2 (.bin .sub (.var 2) (.cst (.int 1))))
      .nil))
      .nil))
      .nil) .nil)
      .nil))
def l__law_taken_1 : S := (.for_ (.nm 3) (.rng2 (.cst (.int 1)) (.bin .add (.var 1) (.cst (.int 1)))) b__law_taken_1)
def d__law_taken : FD := ⟨"_law_taken", 2, ["_law_presses_here", "_law_at", "_law_over", "_law_back", "_law_one"],
    (.cons (.asg 2 (.cst (.int 0)))
      (.cons l__law_taken_1
      (.cons (.ret (.bin .sub (.cst (.int 0)) (.cst (.int 1))))
      .nil)))⟩
def e__law_standing_1 : E := (.call 35 (.cons (.var 0) (.cons (.var 3) .nil)))
def t__law_standing_1 : E := (.cmp .eq (.ix (.ix (.var 0) (.var 3)) (.cst (.int 0))) (.cst (.str "back")))
def c__law_standing_1 : E := (.comp e__law_standing_1 (.nm 3) (.rng1 (.var 1)) t__law_standing_1 [("_law_at", 3)])
def e__law_standing_2 : E := (.sl (.ix (.var 0) (.var 3)) (.cst (.int 1)) .no)
def t__law_standing_2 : E := (.and (.cmp .eq (.ix (.ix (.var 0) (.var 3)) (.cst (.int 0))) (.cst (.str "deed"))) (.cmp .notin (.var 3) (.var 2)))
def c__law_standing_2 : E := (.comp e__law_standing_2 (.nm 3) (.rng1 (.var 1)) t__law_standing_2 [("_law_at", 3)])
theorem bA_c__law_standing_2 {f : Eng.Env → Mem → R U} {σ : Eng.Env} {m : Mem} : bA c__law_standing_2 f σ m = f σ m := rfl
def d__law_standing : FD := ⟨"_law_standing", 2, ["_law_presses_here", "_law_many", "_law_gone", "_law_at"],
    (.cons (.own 2 c__law_standing_1)
      (.cons (.frz 2)
      (.cons (.ret (.b1 .tuple c__law_standing_2))
      .nil)))⟩
def b__law_walk_1 : Ss := (.cons (.asg 2 (.ix (.ix (.ix (.var 0) (.cst (.int 1))) (.var 4)) (.var 2)))
      .nil)
def l__law_walk_1 : S := (.for_ (.tp [(.nm 3), (.nm 4)]) (.seq (.var 1)) b__law_walk_1)
def d__law_walk : FD := ⟨"_law_walk", 2, ["_law_machine_here", "_law_history", "_law_here", "_law_hand", "_law_deed"],
    (.cons (.asg 2 (.ix (.var 0) (.cst (.int 0))))
      (.cons l__law_walk_1
      (.cons (.ret (.var 2))
      .nil)))⟩
def e__law_steps_right_1 : E := (.b1 .list (.var 9))
def c__law_steps_right_1 : E := (.comp e__law_steps_right_1 (.nm 9) (.seq (.ix (.var 3) (.var 4))) .no [("_law_one", 9)])
def e__law_steps_right_2 : E := (.var 9)
def t__law_steps_right_1 : E := (.cmp .eq (.ix (.var 9) (.cst (.int 0))) (.var 8))
def c__law_steps_right_2 : E := (.comp e__law_steps_right_2 (.nm 9) (.seq (.ix (.var 3) (.bin .add (.var 4) (.cst (.int 1))))) t__law_steps_right_1 [("_law_one", 9)])
theorem bA_c__law_steps_right_2 {f : Eng.Env → Mem → R U} {σ : Eng.Env} {m : Mem} : bA c__law_steps_right_2 f σ m = f σ m := rfl
def e__law_steps_right_3 : E := (.b1 .len c__law_steps_right_2)
def c__law_steps_right_3 : E := (.comp e__law_steps_right_3 (.nm 8) (.rng1 (.var 1)) .no [("_law_hand", 8)])
theorem bA_c__law_steps_right_3 {f : Eng.Env → Mem → R U} {σ : Eng.Env} {m : Mem} : bA c__law_steps_right_3 f σ m = f σ m := rfl
def e__law_steps_right_4 : E := (.b1 .list (.var 9))
def c__law_steps_right_4 : E := (.comp e__law_steps_right_4 (.nm 9) (.seq (.ix (.var 3) (.bin .add (.var 4) (.cst (.int 1))))) .no [("_law_one", 9)])
def b__law_steps_right_1 : Ss := (.cons (.own 6 (.lst (.cons (.call 24 (.cons (.var 0) (.cons (.var 1) (.cons (.ix (.var 3) (.var 4)) (.cons (.var 5) .nil))))) .nil)))
      (.cons (.app 6 (.callk 24 .nil (.cons (.b1 .list (.var 5)) (.cons c__law_steps_right_1 (.cons (.var 1) (.cons (.b1 .list (.var 0)) .nil)))) [3, 2, 1, 0]))
      (.cons (.ife (.cmp .ne (.b1 .repr (.bv 6)) (.b1 .repr (.lmul (.cons (.ix (.var 3) (.bin .add (.var 4) (.cst (.int 1)))) .nil) (.cst (.int 2))))) (.cons (.ret (.cst (.bool false)))
      .nil) .nil)
      (.cons (.asg 7 (.b1 .tuple c__law_steps_right_3))
      (.cons (.ife (.cmp .ne (.b1 .repr (.lst (.cons (.call 17 (.cons (.var 1) (.cons (.ix (.var 3) (.bin .add (.var 4) (.cst (.int 1)))) .nil))) (.cons (.callk 17 .nil (.cons (.b1 .list (.ix (.var 3) (.bin .add (.var 4) (.cst (.int 1))))) (.cons (.var 1) .nil)) [1, 0]) .nil)))) (.b1 .repr (.lmul (.cons (.var 7) .nil) (.cst (.int 2))))) (.cons (.ret (.cst (.bool false)))
      .nil) .nil)
      (.cons (.ife (.cmp .ne (.b1 .repr (.call 16 (.cons (.var 0) (.cons (.var 1) (.cons c__law_steps_right_4 .nil))))) (.b1 .repr (.ix (.var 3) (.bin .add (.var 4) (.cst (.int 1)))))) (.cons (.ret (.cst (.bool false)))
      .nil) .nil)
      (.cons (.ife (.cmp .ne (.call 19 (.cons (.var 0) (.cons (.ix (.var 3) (.bin .add (.var 4) (.cst (.int 1)))) .nil))) (.call 37 (.cons (.var 0) (.cons (.ix (.var 3) (.bin .add (.var 4) (.cst (.int 1)))) .nil)))) (.cons (.ret (.cst (.bool false)))
      .nil) .nil)
      .nil)))))))
def l__law_steps_right_1 : S := (.for_ (.tp [(.nm 4), (.nm 5)]) (.enum (.var 2)) b__law_steps_right_1)
def d__law_steps_right : FD := ⟨"_law_steps_right", 4, ["_law_machine_here", "_law_hands", "_law_presses_here", "_law_due", "_law_at", "_law_press", "_law_told", "_law_counts", "_law_hand", "_law_one"],
    (.cons l__law_steps_right_1
      (.cons (.ret (.cst (.bool true)))
      .nil))⟩
def e__law_less_right_1 : E := (.var 6)
def t__law_less_right_1 : E := (.cmp .eq (.ix (.ix (.var 3) (.var 6)) (.cst (.int 0))) (.cst (.str "back")))
def c__law_less_right_1 : E := (.comp e__law_less_right_1 (.nm 6) (.rng1 (.b1 .len (.var 3))) t__law_less_right_1 [("_law_at", 6)])
def e__law_less_right_2 : E := (.ix (.var 3) (.var 8))
def t__law_less_right_2 : E := (.cmp .notin (.var 8) (.tup (.cons (.var 6) (.cons (.call 35 (.cons (.var 3) (.cons (.var 6) .nil))) .nil))))
def c__law_less_right_2 : E := (.comp e__law_less_right_2 (.nm 8) (.rng1 (.b1 .len (.var 3))) t__law_less_right_2 [("_law_place", 8)])
def d__law_less_right : FD := ⟨"_law_less_right", 5, ["_law_box_here", "_law_machine_here", "_law_hands", "_law_presses_here", "_law_seen_boards", "_law_backs", "_law_at", "_law_less", "_law_place"],
    (.cons (.own 5 c__law_less_right_1)
      (.cons (.frz 5)
      (.cons (.ife (.cmp .eq (.var 5) (.lst .nil)) (.cons (.ret (.cst (.bool true)))
      .nil) .nil)
      (.cons (.asg 6 (.call 32 (.cons (.var 0) (.cons (.var 5) .nil))))
      (.cons (.own 7 c__law_less_right_2)
      (.cons (.frz 7)
      (.cons (.ife (.cmp .ne (.sl (.call 28 (.cons (.var 1) (.cons (.var 2) (.cons (.var 7) .nil)))) (.bin .sub (.var 6) (.cst (.int 1))) .no) (.sl (.var 4) (.bin .add (.var 6) (.cst (.int 1))) .no)) (.cons (.ret (.cst (.bool false)))
      .nil) .nil)
      (.cons (.ret (.cmp .eq (.call 27 (.cons (.var 1) (.cons (.var 2) (.cons (.var 7) .nil)))) (.call 27 (.cons (.var 1) (.cons (.var 2) (.cons (.var 3) .nil))))))
      .nil))))))))⟩
def e_law_1 : E := (.call 36 (.cons (.var 3) (.cons (.var 11) .nil)))
def c_law_1 : E := (.comp e_law_1 (.nm 11) (.rng1 (.bin .add (.b1 .len (.var 3)) (.cst (.int 1)))) .no [("_law_many", 11)])
def e_law_2 : E := (.b1 .list (.var 13))
def c_law_2 : E := (.comp e_law_2 (.nm 13) (.seq (.var 3)) .no [("_law_press", 13)])
def e_law_3 : E := (.call 37 (.cons (.var 9) (.cons (.var 14) .nil)))
def c_law_3 : E := (.comp e_law_3 (.nm 14) (.seq (.var 4)) .no [("_law_one", 14)])
def e_law_4 : E := (.tup (.cons (.call 35 (.cons (.var 3) (.cons (.var 12) .nil))) (.cons (.var 12) .nil)))
def t_law_1 : E := (.cmp .eq (.ix (.ix (.var 3) (.var 12)) (.cst (.int 0))) (.cst (.str "back")))
def c_law_4 : E := (.comp e_law_4 (.nm 12) (.rng1 (.b1 .len (.var 3))) t_law_1 [("_law_at", 12)])
def e_law_5 : E := (.call 37 (.cons (.var 9) (.cons (.sl (.ix (.var 4) (.neg (.cst (.int 1)))) .no (.var 11)) .nil)))
def c_law_5 : E := (.comp e_law_5 (.nm 11) (.rng1 (.bin .add (.b1 .len (.ix (.var 4) (.neg (.cst (.int 1))))) (.cst (.int 1)))) .no [("_law_many", 11)])
def b_law_1 : Ss := (.cons (.asg 2 (.call 30 (.cons (.var 0) (.cons (.var 1) .nil))))
      (.cons (.asgT [(.nm 9), (.nm 10)] (.tup (.cons (.call 33 (.cons (.var 2) .nil)) (.cons (.call 32 (.cons (.var 2) (.cons (.lst (.cons (.cst (.int 1)) (.cons (.cst (.int 2)) (.cons (.cst (.int 2)) (.cons (.cst (.int 3)) (.cons (.cst (.int 4)) .nil)))))) .nil))) .nil))))
      (.cons (.asg 3 (.call 34 (.cons (.var 2) (.cons (.var 10) (.cons (.b1 .len (.ix (.var 9) (.cst (.int 1)))) .nil)))))
      (.cons (.own 4 c_law_1)
      (.cons (.frz 4)
      (.cons (.asg 5 (.lst (.cons (.call 27 (.cons (.var 9) (.cons (.var 10) (.cons (.var 3) .nil)))) (.cons (.callk 27 .nil (.cons (.b1 .tuple (.var 3)) (.cons (.var 9) (.cons (.var 10) .nil))) [1, 2, 0]) .nil))))
      (.cons (.ife (.cmp .ne (.b1 .repr (.var 5)) (.b1 .repr (.lmul (.cons (.ix (.var 4) (.neg (.cst (.int 1)))) .nil) (.cst (.int 2))))) (.cons (.ret (.cst (.bool false)))
      .nil) .nil)
      (.cons (.asg 5 (.call 26 (.cons (.var 9) (.cons (.var 10) (.cons c_law_2 .nil)))))
      (.cons (.ife (.cmp .ne (.b1 .repr (.lst (.cons (.var 5) (.cons (.callk 26 .nil (.cons (.var 3) (.cons (.var 10) (.cons (.var 9) .nil))) [2, 1, 0]) .nil)))) (.b1 .repr (.lmul (.cons (.b1 .tuple (.var 3)) .nil) (.cst (.int 2))))) (.cons (.ret (.cst (.bool false)))
      .nil) .nil)
      (.cons (.asg 6 (.b1 .tuple c_law_3))
      (.cons (.asg 5 (.lst (.cons (.call 28 (.cons (.var 9) (.cons (.var 10) (.cons (.var 3) .nil)))) (.cons (.callk 28 .nil (.cons (.var 10) (.cons (.var 3) (.cons (.var 9) .nil))) [2, 0, 1]) .nil))))
      (.cons (.ife (.cmp .ne (.b1 .repr (.var 5)) (.b1 .repr (.lmul (.cons (.var 6) .nil) (.cst (.int 2))))) (.cons (.ret (.cst (.bool false)))
      .nil) .nil)
      (.cons (.own 7 c_law_4)
      (.cons (.frz 7)
      (.cons (.asg 5 (.lst (.cons (.call 29 (.cons (.var 9) (.cons (.var 10) (.cons (.var 3) .nil)))) (.cons (.callk 29 .nil (.cons (.var 3) (.cons (.var 9) (.cons (.var 10) .nil))) [1, 2, 0]) .nil))))
      (.cons (.ife (.cmp .ne (.b1 .repr (.var 5)) (.b1 .repr (.lmul (.cons (.b1 .tuple (.b1 .sorted (.var 7))) .nil) (.cst (.int 2))))) (.cons (.ret (.cst (.bool false)))
      .nil) .nil)
      (.cons (.asg 8 (.b1 .tuple c_law_5))
      (.cons (.ife (.cmp .ne (.b1 .repr (.lst (.cons (.call 18 (.cons (.var 9) (.cons (.ix (.var 4) (.neg (.cst (.int 1)))) .nil))) (.cons (.callk 18 .nil (.cons (.b1 .list (.ix (.var 4) (.neg (.cst (.int 1))))) (.cons (.var 9) .nil)) [1, 0]) .nil)))) (.b1 .repr (.lmul (.cons (.var 8) .nil) (.cst (.int 2))))) (.cons (.ret (.cst (.bool false)))
      .nil) .nil)
      (.cons (.ife (.or (.not (.call 38 (.cons (.var 9) (.cons (.var 10) (.cons (.var 3) (.cons (.var 4) .nil)))))) (.not (.call 39 (.cons (.var 2) (.cons (.var 9) (.cons (.var 10) (.cons (.var 3) (.cons (.var 6) .nil)))))))) (.cons (.ret (.cst (.bool false)))
      .nil) .nil)
      .nil)))))))))))))))))))
def l_law_1 : S := (.for_ (.nm 1) (.rng1 (.cst (.int 3))) b_law_1)
def d_law : FD := ⟨"law", 1, ["_law_script", "_law_k", "_law_box_here", "_law_presses_here", "_law_due", "_law_told", "_law_seen_boards", "_law_pairs", "_law_line", "_law_machine_here", "_law_hands", "_law_many", "_law_at", "_law_press", "_law_one"],
    (.cons l_law_1
      (.cons (.ret (.cst (.bool true)))
      .nil))⟩
def topS (i : Nat) : Stmt := PySem.Challenge.pw_ownback_k07_whole_presses_and_what_stand.main.body.getD i (.Pass ⟨0, 0, 0, 0⟩)
abbrev s_is_integer : Stmt := topS 11
abbrev s_is_number : Stmt := topS 12
abbrev s_is_below : Stmt := topS 13
abbrev s_is_positive : Stmt := topS 14
abbrev s_is_sequence : Stmt := topS 15
abbrev s_is_string : Stmt := topS 16
abbrev s_are_below : Stmt := topS 17
abbrev s_is_hands : Stmt := topS 18
abbrev s_is_press : Stmt := topS 23
abbrev s_check_press : Stmt := topS 24
abbrev s_is_map : Stmt := topS 26
abbrev s_are_deeds : Stmt := topS 27
abbrev s_check_machine : Stmt := topS 28
abbrev s_need_hands : Stmt := topS 30
abbrev s_is_letter : Stmt := topS 31
abbrev s_check_row : Stmt := topS 32
abbrev s_check_history : Stmt := topS 33
abbrev s_counts_of : Stmt := topS 34
abbrev s_boards : Stmt := topS 35
abbrev s_board_of : Stmt := topS 36
abbrev s_press_here : Stmt := topS 37
abbrev s_last_place : Stmt := topS 38
abbrev s_need_press : Stmt := topS 39
abbrev s_behind : Stmt := topS 40
abbrev s_pressed : Stmt := topS 41
abbrev s_histories_of : Stmt := topS 42
abbrev s_check_presses : Stmt := topS 43
abbrev s_history_of : Stmt := topS 44
abbrev s_boards_shown : Stmt := topS 45
abbrev s_struck : Stmt := topS 46
abbrev s__law_box : Stmt := topS 48
abbrev s__law_take : Stmt := topS 49
abbrev s__law_pick : Stmt := topS 50
abbrev s__law_machine : Stmt := topS 51
abbrev s__law_presses : Stmt := topS 52
abbrev s__law_taken : Stmt := topS 53
abbrev s__law_standing : Stmt := topS 54
abbrev s__law_walk : Stmt := topS 55
abbrev s__law_steps_right : Stmt := topS 56
abbrev s__law_less_right : Stmt := topS 57
abbrev s_law : Stmt := topS 58
def tb : Tb := [(0, d_is_integer, s_is_integer), (1, d_is_number, s_is_number), (2, d_is_below, s_is_below), (3, d_is_positive, s_is_positive), (4, d_is_sequence, s_is_sequence), (5, d_is_string, s_is_string), (6, d_are_below, s_are_below), (7, d_is_hands, s_is_hands), (8, d_is_press, s_is_press), (9, d_check_press, s_check_press), (10, d_is_map, s_is_map), (11, d_are_deeds, s_are_deeds), (12, d_check_machine, s_check_machine), (13, d_need_hands, s_need_hands), (14, d_is_letter, s_is_letter), (15, d_check_row, s_check_row), (16, d_check_history, s_check_history), (17, d_counts_of, s_counts_of), (18, d_boards, s_boards), (19, d_board_of, s_board_of), (20, d_press_here, s_press_here), (21, d_last_place, s_last_place), (22, d_need_press, s_need_press), (23, d_behind, s_behind), (24, d_pressed, s_pressed), (25, d_histories_of, s_histories_of), (26, d_check_presses, s_check_presses), (27, d_history_of, s_history_of), (28, d_boards_shown, s_boards_shown), (29, d_struck, s_struck), (30, d__law_box, s__law_box), (31, d__law_take, s__law_take), (32, d__law_pick, s__law_pick), (33, d__law_machine, s__law_machine), (34, d__law_presses, s__law_presses), (35, d__law_taken, s__law_taken), (36, d__law_standing, s__law_standing), (37, d__law_walk, s__law_walk), (38, d__law_steps_right, s__law_steps_right), (39, d__law_less_right, s__law_less_right), (40, d_law, s_law)]
abbrev P : Prog := tb.prog
def gl : List (Str × PyData) := [("DEED", .str "deed"), ("BACK", .str "back"), ("MOST_HANDS", .int 4), ("MOST_DEEDS", .int 6), ("MOST_BOARDS", .int 8)]
def gdt : List (Str × List (Str × Int) × List Str) := [("PARTS", [("deed", 3), ("back", 2)], [])]
def kb : List (Nat × Nat × List Str × List Nat) := [(24, 0, ["press", "history", "hands", "machine"], [3, 2, 1, 0]), (17, 0, ["history", "hands"], [1, 0]), (27, 0, ["presses", "machine", "hands"], [1, 2, 0]), (26, 0, ["presses", "hands", "machine"], [2, 1, 0]), (28, 0, ["hands", "presses", "machine"], [2, 0, 1]), (29, 0, ["presses", "machine", "hands"], [1, 2, 0]), (18, 0, ["history", "machine"], [1, 0])]
def cl : List (Str × Str) := []
def ci : List (Nat × Str × Bool) := []
def kwo : List Nat := []
def df : List (Str × Stmt × List Str) := []
def G : Cfg := ⟨tb.nm, gl, kb, gdt, cl, ci, kwo, df, lams⟩
/-! ### the checks -/
set_option maxRecDepth 100000 in
theorem ok_is_integer : okSs G d_is_integer.N ⟨defScope s_is_integer, fun _ => true, lamOf G d_is_integer.name⟩ d_is_integer.body (defBody s_is_integer) = true := by decide +kernel
theorem sc_is_integer : FnScope d_is_integer.N (d_is_integer.N.take d_is_integer.np) (defScope s_is_integer) := ⟨rfl, rfl, rfl, by decide +kernel, rfl, by decide +kernel, by decide +kernel⟩
theorem sd_is_integer : SD G 0 d_is_integer s_is_integer := ⟨rfl, sc_is_integer, ok_is_integer, fun _ _ _ _ _ _ _ us hl => match us, hl with | [_], _ => rfl, fun kV doc pm an cdv ct na ks perm h => by
    simp only [G, kb, List.mem_cons, List.not_mem_nil, or_false, Prod.mk.injEq, Nat.reduceEqDiff, false_and] at h
    done⟩
set_option maxRecDepth 100000 in
theorem ok_is_number : okSs G d_is_number.N ⟨defScope s_is_number, fun _ => true, lamOf G d_is_number.name⟩ d_is_number.body (defBody s_is_number) = true := by decide +kernel
theorem sc_is_number : FnScope d_is_number.N (d_is_number.N.take d_is_number.np) (defScope s_is_number) := ⟨rfl, rfl, rfl, by decide +kernel, rfl, by decide +kernel, by decide +kernel⟩
theorem sd_is_number : SD G 1 d_is_number s_is_number := ⟨rfl, sc_is_number, ok_is_number, fun _ _ _ _ _ _ _ us hl => match us, hl with | [_], _ => rfl, fun kV doc pm an cdv ct na ks perm h => by
    simp only [G, kb, List.mem_cons, List.not_mem_nil, or_false, Prod.mk.injEq, Nat.reduceEqDiff, false_and] at h
    done⟩
set_option maxRecDepth 100000 in
theorem ok_is_below : okSs G d_is_below.N ⟨defScope s_is_below, fun _ => true, lamOf G d_is_below.name⟩ d_is_below.body (defBody s_is_below) = true := by decide +kernel
theorem sc_is_below : FnScope d_is_below.N (d_is_below.N.take d_is_below.np) (defScope s_is_below) := ⟨rfl, rfl, rfl, by decide +kernel, rfl, by decide +kernel, by decide +kernel⟩
theorem sd_is_below : SD G 2 d_is_below s_is_below := ⟨rfl, sc_is_below, ok_is_below, fun _ _ _ _ _ _ _ us hl => match us, hl with | [_, _], _ => rfl, fun kV doc pm an cdv ct na ks perm h => by
    simp only [G, kb, List.mem_cons, List.not_mem_nil, or_false, Prod.mk.injEq, Nat.reduceEqDiff, false_and] at h
    done⟩
set_option maxRecDepth 100000 in
theorem ok_is_positive : okSs G d_is_positive.N ⟨defScope s_is_positive, fun _ => true, lamOf G d_is_positive.name⟩ d_is_positive.body (defBody s_is_positive) = true := by decide +kernel
theorem sc_is_positive : FnScope d_is_positive.N (d_is_positive.N.take d_is_positive.np) (defScope s_is_positive) := ⟨rfl, rfl, rfl, by decide +kernel, rfl, by decide +kernel, by decide +kernel⟩
theorem sd_is_positive : SD G 3 d_is_positive s_is_positive := ⟨rfl, sc_is_positive, ok_is_positive, fun _ _ _ _ _ _ _ us hl => match us, hl with | [_], _ => rfl, fun kV doc pm an cdv ct na ks perm h => by
    simp only [G, kb, List.mem_cons, List.not_mem_nil, or_false, Prod.mk.injEq, Nat.reduceEqDiff, false_and] at h
    done⟩
set_option maxRecDepth 100000 in
theorem ok_is_sequence : okSs G d_is_sequence.N ⟨defScope s_is_sequence, fun _ => true, lamOf G d_is_sequence.name⟩ d_is_sequence.body (defBody s_is_sequence) = true := by decide +kernel
theorem sc_is_sequence : FnScope d_is_sequence.N (d_is_sequence.N.take d_is_sequence.np) (defScope s_is_sequence) := ⟨rfl, rfl, rfl, by decide +kernel, rfl, by decide +kernel, by decide +kernel⟩
theorem sd_is_sequence : SD G 4 d_is_sequence s_is_sequence := ⟨rfl, sc_is_sequence, ok_is_sequence, fun _ _ _ _ _ _ _ us hl => match us, hl with | [_], _ => rfl, fun kV doc pm an cdv ct na ks perm h => by
    simp only [G, kb, List.mem_cons, List.not_mem_nil, or_false, Prod.mk.injEq, Nat.reduceEqDiff, false_and] at h
    done⟩
set_option maxRecDepth 100000 in
theorem ok_is_string : okSs G d_is_string.N ⟨defScope s_is_string, fun _ => true, lamOf G d_is_string.name⟩ d_is_string.body (defBody s_is_string) = true := by decide +kernel
theorem sc_is_string : FnScope d_is_string.N (d_is_string.N.take d_is_string.np) (defScope s_is_string) := ⟨rfl, rfl, rfl, by decide +kernel, rfl, by decide +kernel, by decide +kernel⟩
theorem sd_is_string : SD G 5 d_is_string s_is_string := ⟨rfl, sc_is_string, ok_is_string, fun _ _ _ _ _ _ _ us hl => match us, hl with | [_], _ => rfl, fun kV doc pm an cdv ct na ks perm h => by
    simp only [G, kb, List.mem_cons, List.not_mem_nil, or_false, Prod.mk.injEq, Nat.reduceEqDiff, false_and] at h
    done⟩
set_option maxRecDepth 100000 in
theorem ok_are_below : okSs G d_are_below.N ⟨defScope s_are_below, fun _ => true, lamOf G d_are_below.name⟩ d_are_below.body (defBody s_are_below) = true := by decide +kernel
theorem sc_are_below : FnScope d_are_below.N (d_are_below.N.take d_are_below.np) (defScope s_are_below) := ⟨rfl, rfl, rfl, by decide +kernel, rfl, by decide +kernel, by decide +kernel⟩
theorem sd_are_below : SD G 6 d_are_below s_are_below := ⟨rfl, sc_are_below, ok_are_below, fun _ _ _ _ _ _ _ us hl => match us, hl with | [_, _], _ => rfl, fun kV doc pm an cdv ct na ks perm h => by
    simp only [G, kb, List.mem_cons, List.not_mem_nil, or_false, Prod.mk.injEq, Nat.reduceEqDiff, false_and] at h
    done⟩
set_option maxRecDepth 100000 in
theorem ok_is_hands : okSs G d_is_hands.N ⟨defScope s_is_hands, fun _ => true, lamOf G d_is_hands.name⟩ d_is_hands.body (defBody s_is_hands) = true := by decide +kernel
theorem sc_is_hands : FnScope d_is_hands.N (d_is_hands.N.take d_is_hands.np) (defScope s_is_hands) := ⟨rfl, rfl, rfl, by decide +kernel, rfl, by decide +kernel, by decide +kernel⟩
theorem sd_is_hands : SD G 7 d_is_hands s_is_hands := ⟨rfl, sc_is_hands, ok_is_hands, fun _ _ _ _ _ _ _ us hl => match us, hl with | [_], _ => rfl, fun kV doc pm an cdv ct na ks perm h => by
    simp only [G, kb, List.mem_cons, List.not_mem_nil, or_false, Prod.mk.injEq, Nat.reduceEqDiff, false_and] at h
    done⟩
set_option maxRecDepth 100000 in
theorem ok_is_press : okSs G d_is_press.N ⟨defScope s_is_press, fun _ => true, lamOf G d_is_press.name⟩ d_is_press.body (defBody s_is_press) = true := by decide +kernel
theorem sc_is_press : FnScope d_is_press.N (d_is_press.N.take d_is_press.np) (defScope s_is_press) := ⟨rfl, rfl, rfl, by decide +kernel, rfl, by decide +kernel, by decide +kernel⟩
theorem sd_is_press : SD G 8 d_is_press s_is_press := ⟨rfl, sc_is_press, ok_is_press, fun _ _ _ _ _ _ _ us hl => match us, hl with | [_], _ => rfl, fun kV doc pm an cdv ct na ks perm h => by
    simp only [G, kb, List.mem_cons, List.not_mem_nil, or_false, Prod.mk.injEq, Nat.reduceEqDiff, false_and] at h
    done⟩
set_option maxRecDepth 100000 in
theorem ok_check_press : okSs G d_check_press.N ⟨defScope s_check_press, fun _ => true, lamOf G d_check_press.name⟩ d_check_press.body (defBody s_check_press) = true := by decide +kernel
theorem sc_check_press : FnScope d_check_press.N (d_check_press.N.take d_check_press.np) (defScope s_check_press) := ⟨rfl, rfl, rfl, by decide +kernel, rfl, by decide +kernel, by decide +kernel⟩
theorem sd_check_press : SD G 9 d_check_press s_check_press := ⟨rfl, sc_check_press, ok_check_press, fun _ _ _ _ _ _ _ us hl => match us, hl with | [_], _ => rfl, fun kV doc pm an cdv ct na ks perm h => by
    simp only [G, kb, List.mem_cons, List.not_mem_nil, or_false, Prod.mk.injEq, Nat.reduceEqDiff, false_and] at h
    done⟩
set_option maxRecDepth 100000 in
theorem ok_is_map : okSs G d_is_map.N ⟨defScope s_is_map, fun _ => true, lamOf G d_is_map.name⟩ d_is_map.body (defBody s_is_map) = true := by decide +kernel
theorem sc_is_map : FnScope d_is_map.N (d_is_map.N.take d_is_map.np) (defScope s_is_map) := ⟨rfl, rfl, rfl, by decide +kernel, rfl, by decide +kernel, by decide +kernel⟩
theorem sd_is_map : SD G 10 d_is_map s_is_map := ⟨rfl, sc_is_map, ok_is_map, fun _ _ _ _ _ _ _ us hl => match us, hl with | [_, _], _ => rfl, fun kV doc pm an cdv ct na ks perm h => by
    simp only [G, kb, List.mem_cons, List.not_mem_nil, or_false, Prod.mk.injEq, Nat.reduceEqDiff, false_and] at h
    done⟩
set_option maxRecDepth 100000 in
theorem ok_are_deeds : okSs G d_are_deeds.N ⟨defScope s_are_deeds, fun _ => true, lamOf G d_are_deeds.name⟩ d_are_deeds.body (defBody s_are_deeds) = true := by decide +kernel
theorem sc_are_deeds : FnScope d_are_deeds.N (d_are_deeds.N.take d_are_deeds.np) (defScope s_are_deeds) := ⟨rfl, rfl, rfl, by decide +kernel, rfl, by decide +kernel, by decide +kernel⟩
theorem sd_are_deeds : SD G 11 d_are_deeds s_are_deeds := ⟨rfl, sc_are_deeds, ok_are_deeds, fun _ _ _ _ _ _ _ us hl => match us, hl with | [_], _ => rfl, fun kV doc pm an cdv ct na ks perm h => by
    simp only [G, kb, List.mem_cons, List.not_mem_nil, or_false, Prod.mk.injEq, Nat.reduceEqDiff, false_and] at h
    done⟩
set_option maxRecDepth 100000 in
theorem ok_check_machine : okSs G d_check_machine.N ⟨defScope s_check_machine, fun _ => true, lamOf G d_check_machine.name⟩ d_check_machine.body (defBody s_check_machine) = true := by decide +kernel
theorem sc_check_machine : FnScope d_check_machine.N (d_check_machine.N.take d_check_machine.np) (defScope s_check_machine) := ⟨rfl, rfl, rfl, by decide +kernel, rfl, by decide +kernel, by decide +kernel⟩
theorem sd_check_machine : SD G 12 d_check_machine s_check_machine := ⟨rfl, sc_check_machine, ok_check_machine, fun _ _ _ _ _ _ _ us hl => match us, hl with | [_], _ => rfl, fun kV doc pm an cdv ct na ks perm h => by
    simp only [G, kb, List.mem_cons, List.not_mem_nil, or_false, Prod.mk.injEq, Nat.reduceEqDiff, false_and] at h
    done⟩
set_option maxRecDepth 100000 in
theorem ok_need_hands : okSs G d_need_hands.N ⟨defScope s_need_hands, fun _ => true, lamOf G d_need_hands.name⟩ d_need_hands.body (defBody s_need_hands) = true := by decide +kernel
theorem sc_need_hands : FnScope d_need_hands.N (d_need_hands.N.take d_need_hands.np) (defScope s_need_hands) := ⟨rfl, rfl, rfl, by decide +kernel, rfl, by decide +kernel, by decide +kernel⟩
theorem sd_need_hands : SD G 13 d_need_hands s_need_hands := ⟨rfl, sc_need_hands, ok_need_hands, fun _ _ _ _ _ _ _ us hl => match us, hl with | [_], _ => rfl, fun kV doc pm an cdv ct na ks perm h => by
    simp only [G, kb, List.mem_cons, List.not_mem_nil, or_false, Prod.mk.injEq, Nat.reduceEqDiff, false_and] at h
    done⟩
set_option maxRecDepth 100000 in
theorem ok_is_letter : okSs G d_is_letter.N ⟨defScope s_is_letter, fun _ => true, lamOf G d_is_letter.name⟩ d_is_letter.body (defBody s_is_letter) = true := by decide +kernel
theorem sc_is_letter : FnScope d_is_letter.N (d_is_letter.N.take d_is_letter.np) (defScope s_is_letter) := ⟨rfl, rfl, rfl, by decide +kernel, rfl, by decide +kernel, by decide +kernel⟩
theorem sd_is_letter : SD G 14 d_is_letter s_is_letter := ⟨rfl, sc_is_letter, ok_is_letter, fun _ _ _ _ _ _ _ us hl => match us, hl with | [_, _, _], _ => rfl, fun kV doc pm an cdv ct na ks perm h => by
    simp only [G, kb, List.mem_cons, List.not_mem_nil, or_false, Prod.mk.injEq, Nat.reduceEqDiff, false_and] at h
    done⟩
set_option maxRecDepth 100000 in
theorem ok_check_row : okSs G d_check_row.N ⟨defScope s_check_row, fun _ => true, lamOf G d_check_row.name⟩ d_check_row.body (defBody s_check_row) = true := by decide +kernel
theorem sc_check_row : FnScope d_check_row.N (d_check_row.N.take d_check_row.np) (defScope s_check_row) := ⟨rfl, rfl, rfl, by decide +kernel, rfl, by decide +kernel, by decide +kernel⟩
theorem sd_check_row : SD G 15 d_check_row s_check_row := ⟨rfl, sc_check_row, ok_check_row, fun _ _ _ _ _ _ _ us hl => match us, hl with | [_, _, _], _ => rfl, fun kV doc pm an cdv ct na ks perm h => by
    simp only [G, kb, List.mem_cons, List.not_mem_nil, or_false, Prod.mk.injEq, Nat.reduceEqDiff, false_and] at h
    done⟩
set_option maxRecDepth 100000 in
theorem ok_check_history : okSs G d_check_history.N ⟨defScope s_check_history, fun _ => true, lamOf G d_check_history.name⟩ d_check_history.body (defBody s_check_history) = true := by decide +kernel
theorem sc_check_history : FnScope d_check_history.N (d_check_history.N.take d_check_history.np) (defScope s_check_history) := ⟨rfl, rfl, rfl, by decide +kernel, rfl, by decide +kernel, by decide +kernel⟩
theorem sd_check_history : SD G 16 d_check_history s_check_history := ⟨rfl, sc_check_history, ok_check_history, fun _ _ _ _ _ _ _ us hl => match us, hl with | [_, _, _], _ => rfl, fun kV doc pm an cdv ct na ks perm h => by
    simp only [G, kb, List.mem_cons, List.not_mem_nil, or_false, Prod.mk.injEq, Nat.reduceEqDiff, false_and] at h
    done⟩
set_option maxRecDepth 100000 in
theorem ok_counts_of : okSs G d_counts_of.N ⟨defScope s_counts_of, fun _ => true, lamOf G d_counts_of.name⟩ d_counts_of.body (defBody s_counts_of) = true := by decide +kernel
theorem sc_counts_of : FnScope d_counts_of.N (d_counts_of.N.take d_counts_of.np) (defScope s_counts_of) := ⟨rfl, rfl, rfl, by decide +kernel, rfl, by decide +kernel, by decide +kernel⟩
theorem sd_counts_of : SD G 17 d_counts_of s_counts_of := ⟨rfl, sc_counts_of, ok_counts_of, fun _ _ _ _ _ _ _ us hl => match us, hl with | [_, _], _ => rfl, fun kV doc pm an cdv ct na ks perm h => by
    simp only [G, kb, List.mem_cons, List.not_mem_nil, or_false, Prod.mk.injEq, Nat.reduceEqDiff, false_and, true_and, eq_self, false_or] at h
    rcases h with ⟨rfl, rfl, rfl⟩
    · exact fun us hl => match us, hl with | [x0, x1], _ => ⟨[x1, x0], rfl, rfl, rfl⟩
    ⟩
set_option maxRecDepth 100000 in
theorem ok_boards : okSs G d_boards.N ⟨defScope s_boards, fun _ => true, lamOf G d_boards.name⟩ d_boards.body (defBody s_boards) = true := by decide +kernel
theorem sc_boards : FnScope d_boards.N (d_boards.N.take d_boards.np) (defScope s_boards) := ⟨rfl, rfl, rfl, by decide +kernel, rfl, by decide +kernel, by decide +kernel⟩
theorem sd_boards : SD G 18 d_boards s_boards := ⟨rfl, sc_boards, ok_boards, fun _ _ _ _ _ _ _ us hl => match us, hl with | [_, _], _ => rfl, fun kV doc pm an cdv ct na ks perm h => by
    simp only [G, kb, List.mem_cons, List.not_mem_nil, or_false, Prod.mk.injEq, Nat.reduceEqDiff, false_and, true_and, eq_self, false_or] at h
    rcases h with ⟨rfl, rfl, rfl⟩
    · exact fun us hl => match us, hl with | [x0, x1], _ => ⟨[x1, x0], rfl, rfl, rfl⟩
    ⟩
set_option maxRecDepth 100000 in
theorem ok_board_of : okSs G d_board_of.N ⟨defScope s_board_of, fun _ => true, lamOf G d_board_of.name⟩ d_board_of.body (defBody s_board_of) = true := by decide +kernel
theorem sc_board_of : FnScope d_board_of.N (d_board_of.N.take d_board_of.np) (defScope s_board_of) := ⟨rfl, rfl, rfl, by decide +kernel, rfl, by decide +kernel, by decide +kernel⟩
theorem sd_board_of : SD G 19 d_board_of s_board_of := ⟨rfl, sc_board_of, ok_board_of, fun _ _ _ _ _ _ _ us hl => match us, hl with | [_, _], _ => rfl, fun kV doc pm an cdv ct na ks perm h => by
    simp only [G, kb, List.mem_cons, List.not_mem_nil, or_false, Prod.mk.injEq, Nat.reduceEqDiff, false_and] at h
    done⟩
set_option maxRecDepth 100000 in
theorem ok_press_here : okSs G d_press_here.N ⟨defScope s_press_here, fun _ => true, lamOf G d_press_here.name⟩ d_press_here.body (defBody s_press_here) = true := by decide +kernel
theorem sc_press_here : FnScope d_press_here.N (d_press_here.N.take d_press_here.np) (defScope s_press_here) := ⟨rfl, rfl, rfl, by decide +kernel, rfl, by decide +kernel, by decide +kernel⟩
theorem sd_press_here : SD G 20 d_press_here s_press_here := ⟨rfl, sc_press_here, ok_press_here, fun _ _ _ _ _ _ _ us hl => match us, hl with | [_, _, _], _ => rfl, fun kV doc pm an cdv ct na ks perm h => by
    simp only [G, kb, List.mem_cons, List.not_mem_nil, or_false, Prod.mk.injEq, Nat.reduceEqDiff, false_and] at h
    done⟩
set_option maxRecDepth 100000 in
theorem ok_last_place : okSs G d_last_place.N ⟨defScope s_last_place, fun _ => true, lamOf G d_last_place.name⟩ d_last_place.body (defBody s_last_place) = true := by decide +kernel
theorem sc_last_place : FnScope d_last_place.N (d_last_place.N.take d_last_place.np) (defScope s_last_place) := ⟨rfl, rfl, rfl, by decide +kernel, rfl, by decide +kernel, by decide +kernel⟩
theorem sd_last_place : SD G 21 d_last_place s_last_place := ⟨rfl, sc_last_place, ok_last_place, fun _ _ _ _ _ _ _ us hl => match us, hl with | [_, _], _ => rfl, fun kV doc pm an cdv ct na ks perm h => by
    simp only [G, kb, List.mem_cons, List.not_mem_nil, or_false, Prod.mk.injEq, Nat.reduceEqDiff, false_and] at h
    done⟩
set_option maxRecDepth 100000 in
theorem ok_need_press : okSs G d_need_press.N ⟨defScope s_need_press, fun _ => true, lamOf G d_need_press.name⟩ d_need_press.body (defBody s_need_press) = true := by decide +kernel
theorem sc_need_press : FnScope d_need_press.N (d_need_press.N.take d_need_press.np) (defScope s_need_press) := ⟨rfl, rfl, rfl, by decide +kernel, rfl, by decide +kernel, by decide +kernel⟩
theorem sd_need_press : SD G 22 d_need_press s_need_press := ⟨rfl, sc_need_press, ok_need_press, fun _ _ _ _ _ _ _ us hl => match us, hl with | [_, _, _, _], _ => rfl, fun kV doc pm an cdv ct na ks perm h => by
    simp only [G, kb, List.mem_cons, List.not_mem_nil, or_false, Prod.mk.injEq, Nat.reduceEqDiff, false_and] at h
    done⟩
set_option maxRecDepth 100000 in
theorem ok_behind : okSs G d_behind.N ⟨defScope s_behind, fun _ => true, lamOf G d_behind.name⟩ d_behind.body (defBody s_behind) = true := by decide +kernel
theorem sc_behind : FnScope d_behind.N (d_behind.N.take d_behind.np) (defScope s_behind) := ⟨rfl, rfl, rfl, by decide +kernel, rfl, by decide +kernel, by decide +kernel⟩
theorem sd_behind : SD G 23 d_behind s_behind := ⟨rfl, sc_behind, ok_behind, fun _ _ _ _ _ _ _ us hl => match us, hl with | [_, _], _ => rfl, fun kV doc pm an cdv ct na ks perm h => by
    simp only [G, kb, List.mem_cons, List.not_mem_nil, or_false, Prod.mk.injEq, Nat.reduceEqDiff, false_and] at h
    done⟩
set_option maxRecDepth 100000 in
theorem ok_pressed : okSs G d_pressed.N ⟨defScope s_pressed, fun _ => true, lamOf G d_pressed.name⟩ d_pressed.body (defBody s_pressed) = true := by decide +kernel
theorem sc_pressed : FnScope d_pressed.N (d_pressed.N.take d_pressed.np) (defScope s_pressed) := ⟨rfl, rfl, rfl, by decide +kernel, rfl, by decide +kernel, by decide +kernel⟩
theorem sd_pressed : SD G 24 d_pressed s_pressed := ⟨rfl, sc_pressed, ok_pressed, fun _ _ _ _ _ _ _ us hl => match us, hl with | [_, _, _, _], _ => rfl, fun kV doc pm an cdv ct na ks perm h => by
    simp only [G, kb, List.mem_cons, List.not_mem_nil, or_false, Prod.mk.injEq, Nat.reduceEqDiff, false_and, true_and, eq_self, false_or] at h
    rcases h with ⟨rfl, rfl, rfl⟩
    · exact fun us hl => match us, hl with | [x0, x1, x2, x3], _ => ⟨[x3, x2, x1, x0], rfl, rfl, rfl⟩
    ⟩
set_option maxRecDepth 100000 in
theorem ok_histories_of : okSs G d_histories_of.N ⟨defScope s_histories_of, fun _ => true, lamOf G d_histories_of.name⟩ d_histories_of.body (defBody s_histories_of) = true := by decide +kernel
theorem sc_histories_of : FnScope d_histories_of.N (d_histories_of.N.take d_histories_of.np) (defScope s_histories_of) := ⟨rfl, rfl, rfl, by decide +kernel, rfl, by decide +kernel, by decide +kernel⟩
theorem sd_histories_of : SD G 25 d_histories_of s_histories_of := ⟨rfl, sc_histories_of, ok_histories_of, fun _ _ _ _ _ _ _ us hl => match us, hl with | [_, _, _], _ => rfl, fun kV doc pm an cdv ct na ks perm h => by
    simp only [G, kb, List.mem_cons, List.not_mem_nil, or_false, Prod.mk.injEq, Nat.reduceEqDiff, false_and] at h
    done⟩
set_option maxRecDepth 100000 in
theorem ok_check_presses : okSs G d_check_presses.N ⟨defScope s_check_presses, fun _ => true, lamOf G d_check_presses.name⟩ d_check_presses.body (defBody s_check_presses) = true := by decide +kernel
theorem sc_check_presses : FnScope d_check_presses.N (d_check_presses.N.take d_check_presses.np) (defScope s_check_presses) := ⟨rfl, rfl, rfl, by decide +kernel, rfl, by decide +kernel, by decide +kernel⟩
theorem sd_check_presses : SD G 26 d_check_presses s_check_presses := ⟨rfl, sc_check_presses, ok_check_presses, fun _ _ _ _ _ _ _ us hl => match us, hl with | [_, _, _], _ => rfl, fun kV doc pm an cdv ct na ks perm h => by
    simp only [G, kb, List.mem_cons, List.not_mem_nil, or_false, Prod.mk.injEq, Nat.reduceEqDiff, false_and, true_and, eq_self, false_or] at h
    rcases h with ⟨rfl, rfl, rfl⟩
    · exact fun us hl => match us, hl with | [x0, x1, x2], _ => ⟨[x2, x1, x0], rfl, rfl, rfl⟩
    ⟩
set_option maxRecDepth 100000 in
theorem ok_history_of : okSs G d_history_of.N ⟨defScope s_history_of, fun _ => true, lamOf G d_history_of.name⟩ d_history_of.body (defBody s_history_of) = true := by decide +kernel
theorem sc_history_of : FnScope d_history_of.N (d_history_of.N.take d_history_of.np) (defScope s_history_of) := ⟨rfl, rfl, rfl, by decide +kernel, rfl, by decide +kernel, by decide +kernel⟩
theorem sd_history_of : SD G 27 d_history_of s_history_of := ⟨rfl, sc_history_of, ok_history_of, fun _ _ _ _ _ _ _ us hl => match us, hl with | [_, _, _], _ => rfl, fun kV doc pm an cdv ct na ks perm h => by
    simp only [G, kb, List.mem_cons, List.not_mem_nil, or_false, Prod.mk.injEq, Nat.reduceEqDiff, false_and, true_and, eq_self, false_or] at h
    rcases h with ⟨rfl, rfl, rfl⟩
    · exact fun us hl => match us, hl with | [x0, x1, x2], _ => ⟨[x1, x2, x0], rfl, rfl, rfl⟩
    ⟩
set_option maxRecDepth 100000 in
theorem ok_boards_shown : okSs G d_boards_shown.N ⟨defScope s_boards_shown, fun _ => true, lamOf G d_boards_shown.name⟩ d_boards_shown.body (defBody s_boards_shown) = true := by decide +kernel
theorem sc_boards_shown : FnScope d_boards_shown.N (d_boards_shown.N.take d_boards_shown.np) (defScope s_boards_shown) := ⟨rfl, rfl, rfl, by decide +kernel, rfl, by decide +kernel, by decide +kernel⟩
theorem sd_boards_shown : SD G 28 d_boards_shown s_boards_shown := ⟨rfl, sc_boards_shown, ok_boards_shown, fun _ _ _ _ _ _ _ us hl => match us, hl with | [_, _, _], _ => rfl, fun kV doc pm an cdv ct na ks perm h => by
    simp only [G, kb, List.mem_cons, List.not_mem_nil, or_false, Prod.mk.injEq, Nat.reduceEqDiff, false_and, true_and, eq_self, false_or] at h
    rcases h with ⟨rfl, rfl, rfl⟩
    · exact fun us hl => match us, hl with | [x0, x1, x2], _ => ⟨[x2, x0, x1], rfl, rfl, rfl⟩
    ⟩
set_option maxRecDepth 100000 in
theorem ok_struck : okSs G d_struck.N ⟨defScope s_struck, fun _ => true, lamOf G d_struck.name⟩ d_struck.body (defBody s_struck) = true := by decide +kernel
theorem sc_struck : FnScope d_struck.N (d_struck.N.take d_struck.np) (defScope s_struck) := ⟨rfl, rfl, rfl, by decide +kernel, rfl, by decide +kernel, by decide +kernel⟩
theorem sd_struck : SD G 29 d_struck s_struck := ⟨rfl, sc_struck, ok_struck, fun _ _ _ _ _ _ _ us hl => match us, hl with | [_, _, _], _ => rfl, fun kV doc pm an cdv ct na ks perm h => by
    simp only [G, kb, List.mem_cons, List.not_mem_nil, or_false, Prod.mk.injEq, Nat.reduceEqDiff, false_and, true_and, eq_self, false_or] at h
    rcases h with ⟨rfl, rfl, rfl⟩
    · exact fun us hl => match us, hl with | [x0, x1, x2], _ => ⟨[x1, x2, x0], rfl, rfl, rfl⟩
    ⟩
set_option maxRecDepth 100000 in
theorem ok__law_box : okSs G d__law_box.N ⟨defScope s__law_box, fun _ => true, lamOf G d__law_box.name⟩ d__law_box.body (defBody s__law_box) = true := by decide +kernel
theorem sc__law_box : FnScope d__law_box.N (d__law_box.N.take d__law_box.np) (defScope s__law_box) := ⟨rfl, rfl, rfl, by decide +kernel, rfl, by decide +kernel, by decide +kernel⟩
theorem sd__law_box : SD G 30 d__law_box s__law_box := ⟨rfl, sc__law_box, ok__law_box, fun _ _ _ _ _ _ _ us hl => match us, hl with | [_, _], _ => rfl, fun kV doc pm an cdv ct na ks perm h => by
    simp only [G, kb, List.mem_cons, List.not_mem_nil, or_false, Prod.mk.injEq, Nat.reduceEqDiff, false_and] at h
    done⟩
set_option maxRecDepth 100000 in
theorem ok__law_take : okSs G d__law_take.N ⟨defScope s__law_take, fun _ => true, lamOf G d__law_take.name⟩ d__law_take.body (defBody s__law_take) = true := by decide +kernel
theorem sc__law_take : FnScope d__law_take.N (d__law_take.N.take d__law_take.np) (defScope s__law_take) := ⟨rfl, rfl, rfl, by decide +kernel, rfl, by decide +kernel, by decide +kernel⟩
theorem sd__law_take : SD G 31 d__law_take s__law_take := ⟨rfl, sc__law_take, ok__law_take, fun _ _ _ _ _ _ _ us hl => match us, hl with | [_, _], _ => rfl, fun kV doc pm an cdv ct na ks perm h => by
    simp only [G, kb, List.mem_cons, List.not_mem_nil, or_false, Prod.mk.injEq, Nat.reduceEqDiff, false_and] at h
    done⟩
set_option maxRecDepth 100000 in
theorem ok__law_pick : okSs G d__law_pick.N ⟨defScope s__law_pick, fun _ => true, lamOf G d__law_pick.name⟩ d__law_pick.body (defBody s__law_pick) = true := by decide +kernel
theorem sc__law_pick : FnScope d__law_pick.N (d__law_pick.N.take d__law_pick.np) (defScope s__law_pick) := ⟨rfl, rfl, rfl, by decide +kernel, rfl, by decide +kernel, by decide +kernel⟩
theorem sd__law_pick : SD G 32 d__law_pick s__law_pick := ⟨rfl, sc__law_pick, ok__law_pick, fun _ _ _ _ _ _ _ us hl => match us, hl with | [_, _], _ => rfl, fun kV doc pm an cdv ct na ks perm h => by
    simp only [G, kb, List.mem_cons, List.not_mem_nil, or_false, Prod.mk.injEq, Nat.reduceEqDiff, false_and] at h
    done⟩
set_option maxRecDepth 100000 in
theorem ok__law_machine : okSs G d__law_machine.N ⟨defScope s__law_machine, fun _ => true, lamOf G d__law_machine.name⟩ d__law_machine.body (defBody s__law_machine) = true := by decide +kernel
theorem sc__law_machine : FnScope d__law_machine.N (d__law_machine.N.take d__law_machine.np) (defScope s__law_machine) := ⟨rfl, rfl, rfl, by decide +kernel, rfl, by decide +kernel, by decide +kernel⟩
theorem sd__law_machine : SD G 33 d__law_machine s__law_machine := ⟨rfl, sc__law_machine, ok__law_machine, fun _ _ _ _ _ _ _ us hl => match us, hl with | [_], _ => rfl, fun kV doc pm an cdv ct na ks perm h => by
    simp only [G, kb, List.mem_cons, List.not_mem_nil, or_false, Prod.mk.injEq, Nat.reduceEqDiff, false_and] at h
    done⟩
set_option maxRecDepth 100000 in
theorem ok__law_presses : okSs G d__law_presses.N ⟨defScope s__law_presses, fun _ => true, lamOf G d__law_presses.name⟩ d__law_presses.body (defBody s__law_presses) = true := by decide +kernel
theorem sc__law_presses : FnScope d__law_presses.N (d__law_presses.N.take d__law_presses.np) (defScope s__law_presses) := ⟨rfl, rfl, rfl, by decide +kernel, rfl, by decide +kernel, by decide +kernel⟩
theorem sd__law_presses : SD G 34 d__law_presses s__law_presses := ⟨rfl, sc__law_presses, ok__law_presses, fun _ _ _ _ _ _ _ us hl => match us, hl with | [_, _, _], _ => rfl, fun kV doc pm an cdv ct na ks perm h => by
    simp only [G, kb, List.mem_cons, List.not_mem_nil, or_false, Prod.mk.injEq, Nat.reduceEqDiff, false_and] at h
    done⟩
set_option maxRecDepth 100000 in
theorem ok__law_taken : okSs G d__law_taken.N ⟨defScope s__law_taken, fun _ => true, lamOf G d__law_taken.name⟩ d__law_taken.body (defBody s__law_taken) = true := by decide +kernel
theorem sc__law_taken : FnScope d__law_taken.N (d__law_taken.N.take d__law_taken.np) (defScope s__law_taken) := ⟨rfl, rfl, rfl, by decide +kernel, rfl, by decide +kernel, by decide +kernel⟩
theorem sd__law_taken : SD G 35 d__law_taken s__law_taken := ⟨rfl, sc__law_taken, ok__law_taken, fun _ _ _ _ _ _ _ us hl => match us, hl with | [_, _], _ => rfl, fun kV doc pm an cdv ct na ks perm h => by
    simp only [G, kb, List.mem_cons, List.not_mem_nil, or_false, Prod.mk.injEq, Nat.reduceEqDiff, false_and] at h
    done⟩
set_option maxRecDepth 100000 in
theorem ok__law_standing : okSs G d__law_standing.N ⟨defScope s__law_standing, fun _ => true, lamOf G d__law_standing.name⟩ d__law_standing.body (defBody s__law_standing) = true := by decide +kernel
theorem sc__law_standing : FnScope d__law_standing.N (d__law_standing.N.take d__law_standing.np) (defScope s__law_standing) := ⟨rfl, rfl, rfl, by decide +kernel, rfl, by decide +kernel, by decide +kernel⟩
theorem sd__law_standing : SD G 36 d__law_standing s__law_standing := ⟨rfl, sc__law_standing, ok__law_standing, fun _ _ _ _ _ _ _ us hl => match us, hl with | [_, _], _ => rfl, fun kV doc pm an cdv ct na ks perm h => by
    simp only [G, kb, List.mem_cons, List.not_mem_nil, or_false, Prod.mk.injEq, Nat.reduceEqDiff, false_and] at h
    done⟩
set_option maxRecDepth 100000 in
theorem ok__law_walk : okSs G d__law_walk.N ⟨defScope s__law_walk, fun _ => true, lamOf G d__law_walk.name⟩ d__law_walk.body (defBody s__law_walk) = true := by decide +kernel
theorem sc__law_walk : FnScope d__law_walk.N (d__law_walk.N.take d__law_walk.np) (defScope s__law_walk) := ⟨rfl, rfl, rfl, by decide +kernel, rfl, by decide +kernel, by decide +kernel⟩
theorem sd__law_walk : SD G 37 d__law_walk s__law_walk := ⟨rfl, sc__law_walk, ok__law_walk, fun _ _ _ _ _ _ _ us hl => match us, hl with | [_, _], _ => rfl, fun kV doc pm an cdv ct na ks perm h => by
    simp only [G, kb, List.mem_cons, List.not_mem_nil, or_false, Prod.mk.injEq, Nat.reduceEqDiff, false_and] at h
    done⟩
set_option maxRecDepth 100000 in
theorem ok__law_steps_right : okSs G d__law_steps_right.N ⟨defScope s__law_steps_right, fun _ => true, lamOf G d__law_steps_right.name⟩ d__law_steps_right.body (defBody s__law_steps_right) = true := by decide +kernel
theorem sc__law_steps_right : FnScope d__law_steps_right.N (d__law_steps_right.N.take d__law_steps_right.np) (defScope s__law_steps_right) := ⟨rfl, rfl, rfl, by decide +kernel, rfl, by decide +kernel, by decide +kernel⟩
theorem sd__law_steps_right : SD G 38 d__law_steps_right s__law_steps_right := ⟨rfl, sc__law_steps_right, ok__law_steps_right, fun _ _ _ _ _ _ _ us hl => match us, hl with | [_, _, _, _], _ => rfl, fun kV doc pm an cdv ct na ks perm h => by
    simp only [G, kb, List.mem_cons, List.not_mem_nil, or_false, Prod.mk.injEq, Nat.reduceEqDiff, false_and] at h
    done⟩
set_option maxRecDepth 100000 in
theorem ok__law_less_right : okSs G d__law_less_right.N ⟨defScope s__law_less_right, fun _ => true, lamOf G d__law_less_right.name⟩ d__law_less_right.body (defBody s__law_less_right) = true := by decide +kernel
theorem sc__law_less_right : FnScope d__law_less_right.N (d__law_less_right.N.take d__law_less_right.np) (defScope s__law_less_right) := ⟨rfl, rfl, rfl, by decide +kernel, rfl, by decide +kernel, by decide +kernel⟩
theorem sd__law_less_right : SD G 39 d__law_less_right s__law_less_right := ⟨rfl, sc__law_less_right, ok__law_less_right, fun _ _ _ _ _ _ _ us hl => match us, hl with | [_, _, _, _, _], _ => rfl, fun kV doc pm an cdv ct na ks perm h => by
    simp only [G, kb, List.mem_cons, List.not_mem_nil, or_false, Prod.mk.injEq, Nat.reduceEqDiff, false_and] at h
    done⟩
set_option maxRecDepth 100000 in
theorem ok_law : okSs G d_law.N ⟨defScope s_law, fun _ => true, lamOf G d_law.name⟩ d_law.body (defBody s_law) = true := by decide +kernel
theorem sc_law : FnScope d_law.N (d_law.N.take d_law.np) (defScope s_law) := ⟨rfl, rfl, rfl, by decide +kernel, rfl, by decide +kernel, by decide +kernel⟩
theorem sd_law : SD G 40 d_law s_law := ⟨rfl, sc_law, ok_law, fun _ _ _ _ _ _ _ us hl => match us, hl with | [_], _ => rfl, fun kV doc pm an cdv ct na ks perm h => by
    simp only [G, kb, List.mem_cons, List.not_mem_nil, or_false, Prod.mk.injEq, Nat.reduceEqDiff, false_and] at h
    done⟩
theorem sd : allSD G tb := ⟨sd_is_integer, sd_is_number, sd_is_below, sd_is_positive, sd_is_sequence, sd_is_string, sd_are_below, sd_is_hands, sd_is_press, sd_check_press, sd_is_map, sd_are_deeds, sd_check_machine, sd_need_hands, sd_is_letter, sd_check_row, sd_check_history, sd_counts_of, sd_boards, sd_board_of, sd_press_here, sd_last_place, sd_need_press, sd_behind, sd_pressed, sd_histories_of, sd_check_presses, sd_history_of, sd_boards_shown, sd_struck, sd__law_box, sd__law_take, sd__law_pick, sd__law_machine, sd__law_presses, sd__law_taken, sd__law_standing, sd__law_walk, sd__law_steps_right, sd__law_less_right, sd_law, trivial⟩
theorem sdf : allSDF G.df := trivial
theorem P_is_integer : P 0 = some d_is_integer := rfl
theorem P_is_number : P 1 = some d_is_number := rfl
theorem P_is_below : P 2 = some d_is_below := rfl
theorem P_is_positive : P 3 = some d_is_positive := rfl
theorem P_is_sequence : P 4 = some d_is_sequence := rfl
theorem P_is_string : P 5 = some d_is_string := rfl
theorem P_are_below : P 6 = some d_are_below := rfl
theorem P_is_hands : P 7 = some d_is_hands := rfl
theorem P_is_press : P 8 = some d_is_press := rfl
theorem P_check_press : P 9 = some d_check_press := rfl
theorem P_is_map : P 10 = some d_is_map := rfl
theorem P_are_deeds : P 11 = some d_are_deeds := rfl
theorem P_check_machine : P 12 = some d_check_machine := rfl
theorem P_need_hands : P 13 = some d_need_hands := rfl
theorem P_is_letter : P 14 = some d_is_letter := rfl
theorem P_check_row : P 15 = some d_check_row := rfl
theorem P_check_history : P 16 = some d_check_history := rfl
theorem P_counts_of : P 17 = some d_counts_of := rfl
theorem P_boards : P 18 = some d_boards := rfl
theorem P_board_of : P 19 = some d_board_of := rfl
theorem P_press_here : P 20 = some d_press_here := rfl
theorem P_last_place : P 21 = some d_last_place := rfl
theorem P_need_press : P 22 = some d_need_press := rfl
theorem P_behind : P 23 = some d_behind := rfl
theorem P_pressed : P 24 = some d_pressed := rfl
theorem P_histories_of : P 25 = some d_histories_of := rfl
theorem P_check_presses : P 26 = some d_check_presses := rfl
theorem P_history_of : P 27 = some d_history_of := rfl
theorem P_boards_shown : P 28 = some d_boards_shown := rfl
theorem P_struck : P 29 = some d_struck := rfl
theorem P__law_box : P 30 = some d__law_box := rfl
theorem P__law_take : P 31 = some d__law_take := rfl
theorem P__law_pick : P 32 = some d__law_pick := rfl
theorem P__law_machine : P 33 = some d__law_machine := rfl
theorem P__law_presses : P 34 = some d__law_presses := rfl
theorem P__law_taken : P 35 = some d__law_taken := rfl
theorem P__law_standing : P 36 = some d__law_standing := rfl
theorem P__law_walk : P 37 = some d__law_walk := rfl
theorem P__law_steps_right : P 38 = some d__law_steps_right := rfl
theorem P__law_less_right : P 39 = some d__law_less_right := rfl
theorem P_law : P 40 = some d_law := rfl
end K07
-- DEFS 41 GL 5

set_option Elab.async false
set_option linter.all false
set_option maxRecDepth 100000
set_option maxHeartbeats 2000000
namespace K07
open PySem PySem.Spec PyProof.Rows L2 Eng
variable {L n : Nat} {m : Mem}
def isI : PyData → Bool
  | .int _ => true
  | _ => false
theorem is_integer_ok (d : PyData) : callN L P (n + 1) 0 [.dat d] m = .ok (.dat (.bool (isI d))) m := by
  rw [call_eq P_is_integer rfl]
  cases d <;> simp [d_is_integer, isI]
theorem is_number_int (i : Int) : callN L P (n + 2) 1 [.dat (.int i)] m = .ok (.dat (.bool (decide (0 ≤ i)))) m := by
  rw [call_eq P_is_number rfl]
  simp [d_is_number, is_integer_ok, isI]
theorem is_below_int (i j : Int) : callN L P (n + 3) 2 [.dat (.int i), .dat (.int j)] m = .ok (.dat (.bool (decide (0 ≤ i) && decide (i < j)))) m := by
  rw [call_eq P_is_below rfl]
  simp [d_is_below, is_number_int]
  by_cases h : 0 ≤ i <;> simp [h]
def iD (l : List Nat) : List PyData := l.map fun (x : Nat) => .int (x : Int)
def tI (l : List Nat) : PyData := .tuple (iD l)
def mkS (t : Bool) (xs : List PyData) : PyData := if t then .tuple xs else .list xs
@[simp] theorem iD_len (l : List Nat) : (iD l).length = l.length := by unfold iD; rw [List.length_map]
theorem is_sequence_S (t : Bool) (xs : List PyData) : callN L P (n + 1) 4 [.dat (mkS t xs)] m = .ok (.dat (.bool true)) m := by
  rw [call_eq P_is_sequence rfl]
  cases t <;> simp [d_is_sequence, mkS]
@[simp] theorem len_S (t : Bool) (xs : List PyData) : b1Val .len (mkS t xs) = some (.int xs.length) := by cases t <;> rfl
@[simp] theorem tup_S (t : Bool) (xs : List PyData) : b1Val .tuple (mkS t xs) = some (.tuple xs) := by cases t <;> rfl
@[simp] theorem lst_S (t : Bool) (xs : List PyData) : b1Val .list (mkS t xs) = some (.list xs) := by cases t <;> rfl
@[simp] theorem seq_S (t : Bool) (xs : List PyData) (m : Mem) : seqU (.dat (mkS t xs)) m = .ok xs m := by cases t <;> rfl
@[simp] theorem ix_S (t : Bool) (xs : List PyData) (i : Int) : ixVal (mkS t xs) (.int i) = L2.atI xs i := by cases t <;> rfl
@[simp] theorem len_T (xs : List PyData) : b1Val .len (.tuple xs) = some (.int xs.length) := rfl
@[simp] theorem len_L (xs : List PyData) : b1Val .len (.list xs) = some (.int xs.length) := rfl
@[simp] theorem tup_L (xs : List PyData) : b1Val .tuple (.list xs) = some (.tuple xs) := rfl
@[simp] theorem tup_T (xs : List PyData) : b1Val .tuple (.tuple xs) = some (.tuple xs) := rfl
@[simp] theorem ix_T (xs : List PyData) (i : Int) : ixVal (.tuple xs) (.int i) = L2.atI xs i := rfl
@[simp] theorem ix_L (xs : List PyData) (i : Int) : ixVal (.list xs) (.int i) = L2.atI xs i := rfl
theorem atI_nat {xs : List PyData} {i : Nat} {d : PyData} (h : xs[i]? = some d) : L2.atI xs (i : Int) = some d := by
  have hi := (List.getElem?_eq_some_iff.mp h).1
  unfold L2.atI L2.ixN
  rw [if_pos (by omega), if_pos (by omega)]
  simpa using h
@[simp] theorem atI_0 (d : PyData) (xs : List PyData) : L2.atI (d :: xs) 0 = some d := atI_nat (i := 0) rfl
@[simp] theorem atI_1 (c d : PyData) (xs : List PyData) : L2.atI (c :: d :: xs) 1 = some d := atI_nat (i := 1) rfl
theorem asBools_rep (k : Nat) : asBools (List.replicate k (PyData.bool true)) = some (List.replicate k true) := by
  induction k with
  | zero => rfl
  | succ k ih => rw [List.replicate_succ]; simp [asBools, ih, List.replicate_succ]
theorem all_true {α : Type} (l : List α) : b1Val .all (.list (l.map fun _ => PyData.bool true)) = some (.bool true) := by
  rw [List.map_const']
  simp [b1Val, asBools_rep]
theorem all_comp {C : Calls} {elt e : E} {σ : Eng.Env} {i : Nat} {own : List (Str × Nat)} {ds : List PyData} (hI : evE C e σ m = .ok (.dat d) m) (hs : seqU (.dat d) m = .ok ds m) (hl : ds.length ≤ 1000)
    (hi : ∀ x ∈ ds, ∃ σ', asgTg (.nm i) x (wipeE σ (own.map (·.2))) = some σ' ∧ evE C elt σ' m = .ok (.dat (.bool true)) m) : evE C (.comp elt (.nm i) (.seq e) .no own) σ m = .ok (.dat (.list (ds.map fun _ => .bool true))) m := by
  refine ev_comp (ds := ds) (m1 := m) (by rw [it_seq, hI, R.bind_ok, hs]) (small1001 hl) (compGo_pure fun x hx => ?_)
  obtain ⟨σ', h1, h2⟩ := hi x hx
  exact ⟨σ', h1, by rw [h2]; rfl⟩
theorem are_below_S (t : Bool) (xs : List Nat) (b : Nat) (hl : xs.length ≤ 1000) (h : ∀ x ∈ xs, x < b) : callN L P (n + 4) 6 [.dat (mkS t (iD xs)), .dat (.int b)] m = .ok (.dat (.bool true)) m := by
  rw [call_eq P_are_below rfl]
  have key : evE (callN L P (n + 3)) c_are_below_1 [.v (.dat (mkS t (iD xs))), .v (.dat (.int b)), .no] m = .ok (.dat (.list ((iD xs).map fun _ => .bool true))) m := by
    refine all_comp (d := mkS t (iD xs)) rfl (seq_S _ _ _) (by simpa using hl) fun d hd => ?_
    obtain ⟨x, hx, rfl⟩ := List.mem_map.mp hd
    have := h x hx
    refine ⟨_, rfl, ?_⟩
    simp [e_are_below_1, is_below_int]
    omega
  simp [d_are_below, is_sequence_S, bA_c_are_below_1, key, all_true]
theorem is_map_ok (r : List Nat) (b : Nat) (hl : r.length = b) (hb : b ≤ 1000) (h : ∀ x ∈ r, x < b) : callN L P (n + 5) 10 [.dat (tI r), .dat (.int b)] m = .ok (.dat (.bool true)) m := by
  rw [call_eq P_is_map rfl]
  have k := are_below_S (L := L) (n := n) (m := m) true r b (by omega) h
  simp only [mkS, if_true] at k
  simp [d_is_map, tI, k, hl]
structure MOk (b s : Nat) (rules : List (List Nat)) : Prop where
  sb : s < b
  b8 : b ≤ 8
  ne : rules ≠ []
  l6 : rules.length ≤ 6
  each : ∀ r ∈ rules, r.length = b ∧ ∀ x ∈ r, x < b
def rD (rules : List (List Nat)) : List PyData := rules.map tI
@[simp] theorem rD_len (l : List (List Nat)) : (rD l).length = l.length := by unfold rD; rw [List.length_map]
def mD (t : Bool) (s : Nat) (rules : List (List Nat)) : PyData := mkS t [.int s, .tuple (rD rules)]
theorem are_deeds_ok {b s : Nat} {rules : List (List Nat)} (h : MOk b s rules) : callN L P (n + 6) 11 [.dat (.tuple (rD rules))] m = .ok (.dat (.bool true)) m := by
  obtain ⟨r0, rs, rfl⟩ : ∃ r0 rs, rules = r0 :: rs := by
    cases rules with
    | nil => exact absurd rfl h.ne
    | cons a l => exact ⟨a, l, rfl⟩
  have h0 := h.each r0 List.mem_cons_self
  have hl := h.l6
  have h8 := h.b8
  have hsb := h.sb
  rw [call_eq P_are_deeds rfl]
  have k1 := is_sequence_S (L := L) (n := n + 4) (m := m) true (rD (r0 :: rs))
  have k2 := is_sequence_S (L := L) (n := n + 4) (m := m) true (iD r0)
  simp only [mkS, if_true] at k1 k2
  have e0 : L2.atI (rD (r0 :: rs)) 0 = some (tI r0) := atI_0 _ _
  have key : evE (callN L P (n + 5)) c_are_deeds_1 [.v (.dat (.tuple (rD (r0 :: rs)))), .v (.dat (.int b)), .no] m = .ok (.dat (.list ((rD (r0 :: rs)).map fun _ => .bool true))) m := by
    refine all_comp (d := .tuple (rD (r0 :: rs))) rfl rfl (by simp only [rD_len]; omega) fun d hd => ?_
    obtain ⟨x, hx, rfl⟩ := List.mem_map.mp hd
    have q := h.each x hx
    refine ⟨_, rfl, ?_⟩
    simp [e_are_deeds_1, is_map_ok x b q.1 (by omega) q.2]
  have hl' : ((rs.length : Int) + 1 ≤ 6) := by simp only [List.length_cons] at hl; omega
  have hl1 : (1 : Int) ≤ (rs.length : Int) + 1 := by omega
  have hb1 : (1 : Int) ≤ b := by omega
  have hb8 : (b : Int) ≤ 8 := by omega
  simp [d_are_deeds, k1, k2, e0, tI, h0.1, bA_c_are_deeds_1, key, all_true, hl', hl1, hb1, hb8]
theorem check_machine_ok {b s : Nat} {rules : List (List Nat)} (t : Bool) (h : MOk b s rules) : callN L P (n + 7) 12 [.dat (mD t s rules)] m = .ok (.dat (mD true s rules)) m := by
  obtain ⟨r0, rs, e⟩ : ∃ r0 rs, rules = r0 :: rs := by
    cases rules with
    | nil => exact absurd rfl h.ne
    | cons a l => exact ⟨a, l, rfl⟩
  have h0 := h.each r0 (by rw [e]; exact List.mem_cons_self)
  have hl := h.l6
  have hsb := h.sb
  rw [call_eq P_check_machine rfl]
  have k1 := is_sequence_S (L := L) (n := n + 5) (m := m) t [.int s, .tuple (rD rules)]
  have k2 := are_deeds_ok (L := L) (n := n) (m := m) h
  have k3 := is_below_int (L := L) (n := n + 3) (m := m) s b
  have e0 : L2.atI (rD rules) 0 = some (tI r0) := by rw [e]; exact atI_0 _ _
  have hlt : (s : Int) < b := by omega
  have key : evE (callN L P (n + 6)) c_check_machine_1 [.v (.dat (mkS t [.int s, .tuple (rD rules)])), .no] m = .ok (.dat (.list (rD rules))) m := by
    refine ev_comp (ds := rD rules) (m1 := m) (by simp) (small1001 (by simp only [rD_len]; omega)) ?_
    have := compGo_pure (elt := fun σ m => (evE (callN L P (n + 6)) e_check_machine_1 σ m).quiet) (tg := .nm 1) (σ := [.v (.dat (mkS t [.int s, .tuple (rD rules)])), .no]) (m := m) (f := id) (ds := rD rules) fun d hd => by
      obtain ⟨x, hx, rfl⟩ := List.mem_map.mp hd
      exact ⟨_, rfl, by simp [e_check_machine_1, tI]⟩
    rw [List.map_id] at this
    exact this
  simp [d_check_machine, mD, k1, k2, e0, tI, h0.1, k3, hlt, bA_c_check_machine_1, key, tup_L]
  simp [mkS]
structure COk (cs : List Nat) : Prop where
  ne : 1 ≤ cs.length
  l4 : cs.length ≤ 4
  big : ∀ c ∈ cs, c ≤ 1000
theorem take_snoc {α : Type} {l : List α} {i : Nat} {x : α} (h : l[i]? = some x) : l.take (i + 1) = l.take i ++ [x] := by
  rw [List.take_add_one, h]; rfl
theorem rng0 (k : Nat) : rngD 0 k = (List.range k).map fun (x : Nat) => .int (x : Int) := by
  unfold rngD; congr 1; funext i; simp
theorem rng1_nat {k : Nat} (h : k ≤ 100000) : rng1U (k : Int) m = .ok (rngD 0 k) m := by
  unfold rng1U
  rw [if_pos ⟨by omega, by omega⟩, Int.toNat_natCast]
def InV (cs v : List Nat) : Prop := v.length = cs.length ∧ ∀ (i : Nat) (x c : Nat), v[i]? = some x → cs[i]? = some c → x ≤ c
theorem app_ok {σ : Eng.Env} {i : Nat} {xs : List PyData} {d : PyData} (h : xs.length < sizeLine) : appGo σ i xs (.dat d) m = .ok (.nx, σ.set i (.own (xs ++ [d]))) m := if_pos h
def stepR (rules : List (List Nat)) (d b : Nat) : Nat := (rules.getD d []).getD b 0
theorem iD_at {v : List Nat} {a : Nat} (h : a < v.length) : L2.atI (iD v) (a : Int) = some (.int (v.getD a 0 : Nat)) := by
  refine atI_nat ?_
  unfold iD
  rw [List.getElem?_map, List.getElem?_eq_getElem h]
  simp [List.getD_eq_getElem?_getD, List.getElem?_eq_getElem h]
theorem cut_hi {v : List Nat} {a : Nat} (h : a ≤ v.length) : slVal (tI v) (some (a : Int)) none = some (tI (v.drop a)) := by
  show some (PyData.tuple (Eng.cutD (iD v) (some (a : Int)) none)) = some (.tuple (iD (v.drop a)))
  unfold Eng.cutD
  rw [HT.sIx_none, HT.sIx_nat, iD_len, Nat.min_eq_left h]
  have : (v.drop a).length = v.length - a := List.length_drop ..
  have e : List.take (v.length - a) (List.drop a (iD v)) = iD (v.drop a) := by
    unfold iD
    rw [← List.map_drop, ← List.map_take, List.take_of_length_le (by rw [this]; exact Nat.le_refl _)]
  rw [e]
def Bx (q : Nat) (m : Mem) : Prop := ∃ g s : Int, m[q]? = some (.lst [.int g, .int s])
theorem Bx.set {q : Nat} (h : Bx q m) {g s : Int} : (m.set q (.lst [.int g, .int s]))[q]? = some (.lst [.int g, .int s]) := by
  obtain ⟨_, _, h⟩ := h
  rw [List.getElem?_set, if_pos rfl, if_pos (List.getElem?_eq_some_iff.mp h).1]
theorem ixR0 {q : Nat} {a b : PyData} (h : m[q]? = some (.lst [a, b])) : ixU (.ref q) (.dat (.int 0)) m = .ok (.dat a) m := by
  simp only [ixU, h]; rfl
theorem ixR1 {q : Nat} {a b : PyData} (h : m[q]? = some (.lst [a, b])) : ixU (.ref q) (.dat (.int 1)) m = .ok (.dat b) m := by
  simp only [ixU, h]; rfl
theorem setR0 {q : Nat} {a b d : PyData} {σ : Eng.Env} (h : m[q]? = some (.lst [a, b])) : setMGo σ (.dat d) (.ref q) (.dat (.int 0)) m = .ok (.nx, σ) (m.set q (.lst [d, b])) := by
  simp only [setMGo, h]; rfl
theorem setR1 {q : Nat} {a b d : PyData} {σ : Eng.Env} (h : m[q]? = some (.lst [a, b])) : setMGo σ (.dat d) (.ref q) (.dat (.int 1)) m = .ok (.nx, σ) (m.set q (.lst [a, d])) := by
  simp only [setMGo, h]; rfl
theorem divW {g : Int} {k : Nat} (h : 1 ≤ k) (h2 : k ≤ 8191) : L2.CDivW g k := ⟨by omega, by
  rw [Int.natAbs_natCast]
  exact Nat.lt_of_le_of_lt (Nat.log2_le_self k) (by omega)⟩
theorem mulC (i : Int) {j : Int} (h : 0 ≤ j) (h2 : j < 2 ^ 40) : L2.CMul i j := .inr ⟨by omega, by omega⟩
theorem take_ok2 {q k : Nat} (hB : Bx q m) (hk : 1 ≤ k) (hk2 : k ≤ 8000) : ∃ (r : Nat) (m' : Mem), r < k ∧ callN L P (n + 1) 31 [.ref q, .dat (.int k)] m = .ok (.dat (.int r)) m' ∧ Bx q m' ∧ ∀ j, j ≠ q → m'[j]? = m[j]? := by
  have hB' := hB
  obtain ⟨g, s, hm⟩ := hB'
  have hk0 : (0 : Int) < k := by omega
  by_cases hg : 0 < g
  · refine ⟨(g % k).toNat, m.set q (.lst [.int (g / k), .int s]), ?_, ?_, ⟨g / k, s, hB.set⟩, fun j hj => List.getElem?_set_ne (Ne.symm hj)⟩
    · have h1 := Int.emod_lt_of_pos g hk0
      have h2 := Int.emod_nonneg g (show (k : Int) ≠ 0 by omega)
      omega
    · have h2 := Int.emod_nonneg g (show (k : Int) ≠ 0 by omega)
      have e : ((g % k).toNat : Int) = g % k := by omega
      rw [call_eq P__law_take rfl, e]
      have hk0' : 0 < k := hk
      simp [d__law_take, ixR0 hm, hg, bv_modI hk0, bv_fdivI (divW (g := g) hk (by omega)), setR0 hm]
  · have hx1 := mulC s (j := 40692) (by omega) (by omega)
    generalize hraw : (s * 40692 + 353) % 2147483399 = raw
    have hx2 := mulC raw (j := 39373) (by omega) (by omega)
    have hx3 := mulC raw (j := 2147483629) (by omega) (by omega)
    have b1 : binVal .mod (.int (s * 40692 + 353)) (.int 2147483399) = some (.int raw) := by rw [bv_modI (by omega), hraw]
    have b2 : ∀ z : Int, binVal .mod (.int z) (.int 2147483587) = some (.int (z % 2147483587)) := fun z => bv_modI (by omega)
    generalize hs' : (raw * 39373 + 285) % 2147483587 + 1 = s' at *
    have hm' : (m.set q (.lst [.int g, .int s']))[q]? = some (.lst [.int g, .int s']) := hB.set
    generalize hz : ((raw * 2147483629 + s') / 8191) = z
    have b3 : binVal .fdiv (.int (raw * 2147483629 + s')) (.int 8191) = some (.int z) := by
      have hd : L2.CDivW (raw * 2147483629 + s') 8191 := divW (k := 8191) (by omega) (by omega)
      rw [bv_fdivI hd, hz]
    refine ⟨(z % k).toNat, m.set q (.lst [.int g, .int s']), ?_, ?_, ⟨g, s', hB.set⟩, fun j hj => List.getElem?_set_ne (Ne.symm hj)⟩
    · have h1 := Int.emod_lt_of_pos z hk0
      have h2 := Int.emod_nonneg z (show (k : Int) ≠ 0 by omega)
      omega
    · have h2 := Int.emod_nonneg z (show (k : Int) ≠ 0 by omega)
      have e : ((z % k).toNat : Int) = z % k := by omega
      rw [call_eq P__law_take rfl, e]
      simp [d__law_take, ixR0 hm, ixR1 hm, hg, bv_mulI hx1, bv_mulI hx2, bv_mulI hx3, b1, b2, hs', setR1 hm, ixR1 hm', b3, bv_modI hk0]
theorem take_ok {q k : Nat} (hB : Bx q m) (hk : 1 ≤ k) (hk2 : k ≤ 1000) : ∃ (r : Nat) (m' : Mem), r < k ∧ callN L P (n + 1) 31 [.ref q, .dat (.int k)] m = .ok (.dat (.int r)) m' ∧ Bx q m' := by
  obtain ⟨r, m', h1, h2, h3, _⟩ := take_ok2 (L := L) (n := n) hB hk (by omega)
  exact ⟨r, m', h1, h2, h3⟩
theorem pick_box {q : Nat} {xs : List PyData} (hB : Bx q m) (hn : xs ≠ []) (hl : xs.length ≤ 1000) : ∃ (d : PyData) (m' : Mem), d ∈ xs ∧ callN L P (n + 2) 32 [.ref q, .dat (.list xs)] m = .ok (.dat d) m' ∧ Bx q m' := by
  have hp : 1 ≤ xs.length := by cases xs with | nil => exact absurd rfl hn | cons _ _ => simp
  obtain ⟨r, m', h1, h2, h3⟩ := take_ok (L := L) (n := n) hB hp hl
  refine ⟨xs[r], m', List.getElem_mem h1, ?_, h3⟩
  rw [call_eq P__law_pick rfl]
  have e := atI_nat (List.getElem?_eq_getElem h1)
  simp [d__law_pick, h2, e]
def tailB : Ss := match d__law_box.body with
  | .cons _ (.cons _ t) => t
  | _ => .nil
def s2B : S := match d__law_box.body with
  | .cons _ (.cons s _) => s
  | _ => .pass
theorem box_tail {C : Calls} {u : U} {k : Nat} (hk : k ≤ 1000) (cell : Int) : ∃ g s : Int, (evSs L C tailB [.v u, .v (.dat (.int k)), .v (.dat (.int cell)), .no] m).bind finS = .ok (.ref m.length) (m ++ [.lst [.int g, .int s]]) := by
  have h1 : binVal .pow (.int 10) (.int 18) = some (.int (10 ^ 18)) := bv_powI ⟨by omega, by omega, by decide⟩
  have h2 : ∀ z : Int, binVal .mod (.int z) (.int 2147483587) = some (.int (z % 2147483587)) := fun z => bv_modI (by omega)
  have h3 : ∀ z : Int, binVal .mul (.int z) (.int 70289) = some (.int (z * 70289)) := fun z => bv_mulI (mulC z (by omega) (by omega))
  have h4 : binVal .mul (.int 1873) (.int k) = some (.int (1873 * k)) := bv_mulI (mulC _ (by omega) (by omega))
  refine ⟨if (10 : Int) ^ 18 ≤ cell then cell else 0, (cell % 2147483587 * 70289 + 1873 * k) % 2147483587 + 1, ?_⟩
  by_cases hc : (10 : Int) ^ 18 ≤ cell
  · rw [if_pos hc]
    simp only [show (10 : Int) ^ 18 = 1000000000000000000 from by decide] at hc h1
    simp [tailB, d__law_box, h1, hc, h2, h3, h4, asNew]
  · rw [if_neg hc]
    simp only [show (10 : Int) ^ 18 = 1000000000000000000 from by decide] at hc h1
    simp [tailB, d__law_box, h1, hc, h2, h3, h4, asNew]
theorem box_s2 {C : Calls} {ns : List Int} {k : Nat} (c0 : Int) (hk : k ≤ 1000) (hl : ns.length ≤ 63) : ∃ cell : Int, evS L C s2B [.v (.dat (.list (ns.map .int))), .v (.dat (.int k)), .v (.dat (.int c0)), .no] m = .ok (.nx, [.v (.dat (.list (ns.map .int))), .v (.dat (.int k)), .v (.dat (.int cell)), .no]) m := by
  by_cases h : k < ns.length
  · have e : L2.atI (ns.map PyData.int) (k : Int) = some (.int ns[k]) := atI_nat (by rw [List.getElem?_map, List.getElem?_eq_getElem h]; rfl)
    refine ⟨if ns[k] < 0 then -ns[k] else ns[k], ?_⟩
    simp [s2B, d__law_box, h, e]
  · by_cases h0 : ns = []
    · subst h0
      have hk0 : ¬ ((k : Int) < 0) := by omega
      exact ⟨c0, by simp [s2B, d__law_box, hk0]⟩
    · have hp : 0 < ns.length := List.length_pos_iff.mpr h0
      have hp' : (0 : Int) < ns.length := by omega
      have hi : k % ns.length < ns.length := Nat.mod_lt _ hp
      have e : L2.atI (ns.map PyData.int) ((k : Int) % (ns.length : Int)) = some (.int ns[k % ns.length]) := by
        rw [show (k : Int) % (ns.length : Int) = ((k % ns.length : Nat) : Int) by simp]
        exact atI_nat (by rw [List.getElem?_map, List.getElem?_eq_getElem hi]; rfl)
      have h2 : ∀ z : Int, binVal .mod (.int z) (.int 2147483587) = some (.int (z % 2147483587)) := fun z => bv_modI (by omega)
      have h3 : ∀ z : Int, binVal .mul (.int z) (.int 51257) = some (.int (z * 51257)) := fun z => bv_mulI (mulC z (by omega) (by omega))
      generalize ns[k % ns.length] = y at e
      refine ⟨c0 + (if y < 0 then -y else y) % 2147483587 * 51257, ?_⟩
      simp [s2B, d__law_box, h, hp, bv_modI hp', e, h2, h3]
theorem box_ok {ns : List Int} {k : Nat} (hk : k ≤ 1000) (hl : ns.length ≤ 63) : ∃ m' : Mem, callN L P (n + 1) 30 [.dat (.list (ns.map .int)), .dat (.int k)] m = .ok (.ref m.length) m' ∧ Bx m.length m' := by
  rw [call_eq P__law_box rfl]
  have h4 : binVal .mul (.int 8803) (.int k) = some (.int (8803 * k)) := bv_mulI (mulC _ (by omega) (by omega))
  obtain ⟨cell, h1⟩ := box_s2 (L := L) (C := callN L P n) (m := m) (ns := ns) (8803 * k + 1873) hk hl
  obtain ⟨g, s, h2⟩ := box_tail (L := L) (C := callN L P n) (m := m) (u := .dat (.list (ns.map .int))) hk cell
  refine ⟨m ++ [.lst [.int g, .int s]], ?_, g, s, by simp⟩
  have hb : d__law_box.body = .cons (.asg 2 (.bin .add (.bin .mul (.cst (.int 8803)) (.var 1)) (.cst (.int 1873)))) (.cons s2B tailB) := rfl
  rw [hb]
  have e0 : (([.dat (.list (ns.map .int)), .dat (.int k)] : List U).map Sl.v ++ List.replicate (d__law_box.N.length - ([.dat (.list (ns.map .int)), .dat (.int k)] : List U).length) Sl.no) = [.v (.dat (.list (ns.map .int))), .v (.dat (.int k)), .no, .no] := rfl
  rw [e0]
  simp [h4, h1, h2]
theorem all2_nat {k : Nat} : ∀ {ds xs : List PyData}, All2 (fun _ x => ∃ y : Nat, y < k ∧ x = PyData.int y) ds xs → ∃ r : List Nat, xs = iD r ∧ r.length = ds.length ∧ ∀ y ∈ r, y < k
  | _, _, .nil => ⟨[], rfl, rfl, fun _ h => absurd h (by simp)⟩
  | _, _, .cons ⟨y, h1, h2⟩ h => by
    obtain ⟨r, rfl, h3, h4⟩ := all2_nat h
    refine ⟨y :: r, by rw [h2]; rfl, by simp [h3], fun z hz => ?_⟩
    rcases List.mem_cons.mp hz with e | hz
    · omega
    · exact h4 z hz
theorem rng_len (lo : Int) (k : Nat) : (rngD lo k).length = k := by unfold rngD; simp
abbrev Hi := List (Nat × Nat)
def pD (p : Nat × Nat) : PyData := .tuple [.int p.1, .int p.2]
def hDl (h : Hi) : List PyData := h.map pD
def hD (h : Hi) : PyData := .tuple (hDl h)
@[simp] theorem hDl_len (h : Hi) : (hDl h).length = h.length := by unfold hDl; rw [List.length_map]
def HOk (a R : Nat) (h : Hi) : Prop := ∀ p ∈ h, p.1 < a ∧ p.2 < R
def cnt (h : Hi) (a : Nat) : Nat := (h.filter fun p => p.1 == a).length
def cnts (k : Nat) (h : Hi) : List Nat := (List.range k).map (cnt h)
theorem cnt_cons (p : Nat × Nat) (h : Hi) (a : Nat) : cnt (p :: h) a = (if p.1 = a then 1 else 0) + cnt h a := by
  unfold cnt
  by_cases hp : p.1 = a
  · rw [List.filter_cons_of_pos (by simp [hp]), if_pos hp, List.length_cons]; omega
  · rw [List.filter_cons_of_neg (by simp [hp]), if_neg hp]; omega
theorem cnts_len (k : Nat) (h : Hi) : (cnts k h).length = k := by unfold cnts; simp
theorem setO_ok {σ : Eng.Env} {i a : Nat} {xs : List PyData} {d : PyData} (h : a < xs.length) : setOGo σ i xs (.dat d) (.dat (.int (a : Int))) m = .ok (.nx, σ.set i (.own (xs.set a d))) m := by
  have e : L2.ixN xs.length (a : Int) = some a := by
    unfold L2.ixN
    rw [if_pos (by omega), if_pos (by omega), Int.toNat_natCast]
  simp only [setOGo, e]
theorem iD_set (l : List Nat) (a x : Nat) : (iD l).set a (.int (x : Int)) = iD (l.set a x) := by unfold iD; rw [List.map_set]
theorem cutP_lo {xs : List PyData} {a : Nat} (h : a ≤ xs.length) : slVal (.tuple xs) none (some (a : Int)) = some (.tuple (xs.take a)) := by
  show some (PyData.tuple (Eng.cutD xs none (some (a : Int)))) = _
  unfold Eng.cutD
  rw [HT.sIx_none, HT.sIx_nat, Nat.min_eq_left h]; rfl
theorem cutP_hi {xs : List PyData} {a : Nat} (h : a ≤ xs.length) : slVal (.tuple xs) (some (a : Int)) none = some (.tuple (xs.drop a)) := by
  show some (PyData.tuple (Eng.cutD xs (some (a : Int)) none)) = _
  unfold Eng.cutD
  rw [HT.sIx_none, HT.sIx_nat, Nat.min_eq_left h, List.take_of_length_le (by rw [List.length_drop]; exact Nat.le_refl _)]
theorem asInts_map (l : List Int) : asInts (l.map PyData.int) = some l := by
  induction l with
  | nil => rfl
  | cons a l ih => simp [asInts, ih]
theorem short16 : ∀ i < 16, ((PyData.int (i : Nat)).shown).length ≤ 13 := by decide +kernel
theorem small_all : ∀ {l : List Nat}, (∀ x ∈ l, x < 16) → PyData.canLayAll0 (iD l) = true ∧ PyData.intsShortAll 13 (iD l) = true ∧ PyData.showableAll (iD l) = true ∧ PyData.weightAll (iD l) ≤ 17 * l.length ∧ PyData.depthAll (iD l) = 0
  | [], _ => ⟨rfl, rfl, rfl, Nat.zero_le _, rfl⟩
  | x :: l, h => by
    obtain ⟨h1, h2, h3, h4, h5⟩ := small_all fun y hy => h y (List.mem_cons_of_mem _ hy)
    have hx := h x List.mem_cons_self
    have hs := short16 x hx
    have hlog : x.log2 ≤ x := Nat.log2_le_self x
    have e : iD (x :: l) = .int (x : Int) :: iD l := rfl
    rw [e]
    refine ⟨?_, ?_, ?_, ?_, ?_⟩
    · simp only [PyData.canLayAll0, PyData.canLay0, h1, Bool.and_true]
    · simp only [PyData.intsShortAll, PyData.intsShort, h2, Bool.and_true, decide_eq_true_eq]; exact hs
    · simp only [PyData.showableAll, PyData.showable, h3, Bool.and_true, decide_eq_true_eq, Int.natAbs_natCast]; omega
    · have hw : PyData.weight (.int (x : Int)) ≤ 16 := by
        simp only [PyData.weight, Int.natAbs_natCast]
        split
        · omega
        · omega
      simp only [PyData.weightAll, List.length_cons]; omega
    · simp only [PyData.depthAll, PyData.depth, h5]; rfl
theorem cnts_big {k : Nat} {h : Hi} {N : Nat} (hh : h.length ≤ N) : ∀ c ∈ cnts k h, c ≤ N := fun c hc => by
  unfold cnts at hc
  obtain ⟨i, _, rfl⟩ := List.mem_map.mp hc
  exact Nat.le_trans (List.length_filter_le _ _) hh
theorem cok {k : Nat} {h : Hi} (h1 : 1 ≤ k) (hk : k ≤ 4) (hh : h.length ≤ 10) : COk (cnts k h) := ⟨by rw [cnts_len]; exact h1, by rw [cnts_len]; exact hk, cnts_big (by omega)⟩
theorem eqv_ints : ∀ a b : List Nat, PyData.eqvAll (iD a) (iD b) = decide (a = b)
  | [], [] => rfl
  | [], _ :: _ => rfl
  | _ :: _, [] => rfl
  | x :: a, y :: b => by
    have ih := eqv_ints a b
    show (PyData.eqv (.int (x : Int)) (.int (y : Int)) && PyData.eqvAll (iD a) (iD b)) = _
    rw [ih]
    show (((x : Int) == (y : Int)) && decide (a = b)) = _
    rw [Bool.eq_iff_iff]
    simp only [Bool.and_eq_true, beq_iff_eq, decide_eq_true_eq, List.cons.injEq]
    constructor
    · rintro ⟨h1, h2⟩; exact ⟨by omega, h2⟩
    · rintro ⟨h1, h2⟩; exact ⟨by omega, h2⟩
def zeros (cs : List Nat) : List Nat := List.replicate cs.length 0
theorem asBools_map {α : Type} (g : α → Bool) (l : List α) : asBools (l.map fun x => PyData.bool (g x)) = some (l.map g) := by
  induction l with
  | nil => rfl
  | cons x l ih => rw [List.map_cons, List.map_cons]; simp [asBools, ih]
theorem is_hands_ok {K : Nat} (h1 : 1 ≤ K) (h4 : K ≤ 4) : callN L P (n + 3) 7 [.dat (.int K)] m = .ok (.dat (.bool true)) m := by
  rw [call_eq P_is_hands rfl]
  have k : callN L P (n + 2) 3 [.dat (.int K)] m = .ok (.dat (.bool true)) m := by
    rw [call_eq P_is_positive rfl]
    have : (1 : Int) ≤ K := by omega
    simp [d_is_positive, is_integer_ok, isI, this]
  have : (K : Int) ≤ 4 := by omega
  simp [d_is_hands, k, this]
theorem need_hands_ok {K : Nat} (h1 : 1 ≤ K) (h4 : K ≤ 4) : callN L P (n + 4) 13 [.dat (.int K)] m = .ok (.dat (.int K)) m := by
  rw [call_eq P_need_hands rfl]
  simp [d_need_hands, is_hands_ok h1 h4]
def hG (t t1 : Bool) (h : Hi) : PyData := mkS t (h.map fun p => mkS t1 [.int p.1, .int p.2])
theorem hG_true (h : Hi) : hG true true h = hD h := rfl
theorem is_letter_ok {t1 : Bool} {p : Nat × Nat} {K D : Nat} (h1 : p.1 < K) (h2 : p.2 < D) : callN L P (n + 4) 14 [.dat (mkS t1 [.int p.1, .int p.2]), .dat (.int K), .dat (.int D)] m = .ok (.dat (.bool true)) m := by
  rw [call_eq P_is_letter rfl]
  have k := is_sequence_S (L := L) (n := n + 2) (m := m) t1 [.int p.1, .int p.2]
  simp [d_is_letter, k, is_below_int, h1, h2]
theorem check_row_ok {t t1 : Bool} {K D : Nat} {h : Hi} (k1 : 1 ≤ K) (k4 : K ≤ 4) (ho : HOk K D h) (hl : h.length ≤ 1000) : callN L P (n + 5) 15 [.dat (.int K), .dat (.int D), .dat (hG t t1 h)] m = .ok (.dat (hD h)) m := by
  rw [call_eq P_check_row rfl]
  obtain ⟨ds, hds⟩ : ∃ ds : List PyData, ds = h.map fun p => mkS t1 [.int p.1, .int p.2] := ⟨_, rfl⟩
  have hlen : ds.length = h.length := by rw [hds, List.length_map]
  have eG : hG t t1 h = mkS t ds := by unfold hG; rw [hds]
  have ks := is_sequence_S (L := L) (n := n + 3) (m := m) t ds
  have := forGo_inv (body := fun σ m => evSs L (callN L P (n + 4)) b_check_row_1 σ m) (tg := .tp [.nm 3, .nm 4]) (enumD 0 ds) (fun i σ m' => m' = m ∧ ∃ s3 s4, σ = [.v (.dat (.int K)), .v (.dat (.int D)), .v (.dat (mkS t ds)), s3, s4])
    (fun i d σ m' hd ⟨hm, s3, s4, hσ⟩ => by
      subst hm hσ
      obtain ⟨x, h1, rfl⟩ := Eng.enum_get hd
      rw [hds, List.getElem?_map, Option.map_eq_some_iff] at h1
      obtain ⟨p, hp, rfl⟩ := h1
      have hpo := ho p (List.mem_of_getElem? hp)
      have k := is_letter_ok (L := L) (n := n) (m := m') (t1 := t1) hpo.1 hpo.2
      refine ⟨[.v (.dat (.int K)), .v (.dat (.int D)), .v (.dat (mkS t ds)), .v (.dat (.int ((0 + i : Nat) : Int))), .v (.dat (mkS t1 [.int p.1, .int p.2]))], [.v (.dat (.int K)), .v (.dat (.int D)), .v (.dat (mkS t ds)), .v (.dat (.int ((0 + i : Nat) : Int))), .v (.dat (mkS t1 [.int p.1, .int p.2]))], _, rfl, ?_, rfl, _, _, rfl⟩
      simp [b_check_row_1, k])
    (m := m) (σ := [.v (.dat (.int K)), .v (.dat (.int D)), .v (.dat (mkS t ds)), .no, .no]) ⟨rfl, .no, .no, rfl⟩
  obtain ⟨σ', m', h1, rfl, s3, s4, rfl⟩ := this
  have loop : evS L (callN L P (n + 4)) l_check_row_1 [.v (.dat (.int K)), .v (.dat (.int D)), .v (.dat (mkS t ds)), .no, .no] m' = .ok (.nx, [.v (.dat (.int K)), .v (.dat (.int D)), .v (.dat (mkS t ds)), s3, s4]) m' := by
    show evS L _ (.for_ _ _ _) _ _ = _
    have es : seqU (.dat (mkS t ds)) m' = .ok ds m' := by cases t <;> rfl
    simp only [s_forE, it_enum, ev_var, getV, List.getElem?_cons_zero, List.getElem?_cons_succ, R.bind_ok, es, enumU]
    exact h1
  have key : evE (callN L P (n + 4)) c_check_row_1 [.v (.dat (.int K)), .v (.dat (.int D)), .v (.dat (mkS t ds)), s3, s4] m' = .ok (.dat (.list (hDl h))) m' := by
    refine ev_comp (ds := ds) (m1 := m') (by cases t <;> simp [mkS]) (small1001 (by rw [hlen]; exact hl)) ?_
    have e : hDl h = ds.map fun d => match d with
      | .tuple xs => .tuple xs
      | .list xs => .tuple xs
      | d => d := by
      rw [hds]
      unfold hDl
      rw [List.map_map]
      refine List.map_congr_left fun p _ => ?_
      cases t1 <;> rfl
    rw [e]
    refine compGo_pure fun d hd => ?_
    rw [hds] at hd
    obtain ⟨p, hp, rfl⟩ := List.mem_map.mp hd
    refine ⟨_, rfl, ?_⟩
    cases t1 <;> simp [e_check_row_1, mkS]
  rw [eG]
  have et : b1Val .tuple (.list (hDl h)) = some (hD h) := rfl
  simp [d_check_row, need_hands_ok k1 k4, ks, loop, bA_c_check_row_1, key, et]
theorem check_history_G {b s K : Nat} {rules : List (List Nat)} {h : Hi} (t t' t1 : Bool) (hm : MOk b s rules) (k1 : 1 ≤ K) (k4 : K ≤ 4) (ho : HOk K rules.length h) (hl : h.length ≤ 1000) : callN L P (n + 8) 16 [.dat (mD t s rules), .dat (.int K), .dat (hG t' t1 h)] m = .ok (.dat (hD h)) m := by
  rw [call_eq P_check_history rfl]
  have e1 : ixVal (mD true s rules) (.int 1) = some (.tuple (rD rules)) := rfl
  have k := check_machine_ok (L := L) (n := n) (m := m) t hm
  have k2 := check_row_ok (L := L) (n := n + 2) (m := m) (t := t') (t1 := t1) k1 k4 ho hl
  simp [d_check_history, k, e1, k2]
theorem check_history_ok {b s K : Nat} {rules : List (List Nat)} {h : Hi} (t : Bool) (hm : MOk b s rules) (k1 : 1 ≤ K) (k4 : K ≤ 4) (ho : HOk K rules.length h) (hl : h.length ≤ 1000) : callN L P (n + 8) 16 [.dat (mD t s rules), .dat (.int K), .dat (hD h)] m = .ok (.dat (hD h)) m := check_history_G t true true hm k1 k4 ho hl
theorem atI_last {xs : List PyData} {d : PyData} (h : xs.getLast? = some d) : L2.atI xs (-1) = some d := by
  have hl : 0 < xs.length := by
    cases xs with
    | nil => simp at h
    | cons _ _ => simp
  unfold L2.atI L2.ixN
  rw [if_neg (by omega), if_pos (by omega)]
  show xs[(-1 + (xs.length : Int)).toNat]? = some d
  rw [show (-1 + (xs.length : Int)).toNat = xs.length - 1 by omega, ← List.getLast?_eq_getElem?]
  exact h
theorem any_map {α : Type} (g : α → Bool) (l : List α) : b1Val .any (.list (l.map fun x => PyData.bool (g x))) = some (.bool (l.any g)) := by
  show (match asBools _ with | some bs => some (PyData.bool (bs.any id)) | none => (asInts _).map fun (ns : List Int) => PyData.bool (ns.any fun i => i != 0)) = _
  rw [asBools_map]
  show some (PyData.bool _) = _
  congr 2
  rw [List.any_map]; rfl
def Small (h : Hi) : Prop := ∀ p ∈ h, p.1 < 16 ∧ p.2 < 16
theorem small_hist : ∀ {h : Hi}, Small h → PyData.canLayAll0 (hDl h) = true ∧ PyData.intsShortAll 13 (hDl h) = true ∧ PyData.showableAll (hDl h) = true ∧ PyData.weightAll (hDl h) ≤ 60 * h.length ∧ PyData.depthAll (hDl h) ≤ 1
  | [], _ => ⟨rfl, rfl, rfl, Nat.zero_le _, Nat.zero_le _⟩
  | p :: h, hs => by
    obtain ⟨h1, h2, h3, h4, h5⟩ := small_hist (h := h) fun y hy => hs y (List.mem_cons_of_mem _ hy)
    have hp := hs p List.mem_cons_self
    obtain ⟨a1, a2, a3, a4, a5⟩ := small_all (l := [p.1, p.2]) fun x hx => by
      simp only [List.mem_cons, List.not_mem_nil, or_false] at hx
      rcases hx with rfl | rfl
      · exact hp.1
      · exact hp.2
    have e : hDl (p :: h) = .tuple (iD [p.1, p.2]) :: hDl h := rfl
    rw [e]
    refine ⟨?_, ?_, ?_, ?_, ?_⟩
    · simp only [PyData.canLayAll0, PyData.canLay0, h1, a1, Bool.and_true]
    · simp only [PyData.intsShortAll, PyData.intsShort, h2, a2, Bool.and_true]
    · simp only [PyData.showableAll, PyData.showable, h3, a3, Bool.and_true]
    · simp only [PyData.weightAll, PyData.weight, List.length_cons]
      simp only [List.length_cons, List.length_nil] at a4
      omega
    · simp only [PyData.depthAll, PyData.depth, a5]; omega
theorem shaped_hist {h : Hi} (hs : Small h) : SeqAt.shaped (hD h) = true := by
  obtain ⟨h1, h2, h3, h4, h5⟩ := small_hist hs
  have c0 : PyData.canLay0 (.tuple (hDl h)) = true := by simp only [PyData.canLay0, h1]
  show (PyData.canLay0 (.tuple (hDl h)) && decide (PyData.depth (.tuple (hDl h)) ≤ 64)) = true
  rw [c0, Bool.true_and, decide_eq_true_eq]
  simp only [PyData.depth]; omega
def prB (t : Bool) (a : Nat) : PyData := mkS t [.str "back", .int a]
def prF (t : Bool) (a d : Nat) : PyData := mkS t [.str "deed", .int a, .int d]
theorem cv_eqS (x y : Str) : cmpVal .eq (.str x) (.str y) = some (.bool (decide (x = y))) := rfl
theorem eq_bb : cmpVal .eq (.str "back") (.str "back") = some (.bool true) := by rw [cv_eqS]; rfl
theorem eq_dd : cmpVal .eq (.str "deed") (.str "deed") = some (.bool true) := by rw [cv_eqS]; rfl
theorem eq_bd : cmpVal .eq (.str "back") (.str "deed") = some (.bool false) := by rw [cv_eqS]; rfl
theorem eq_db : cmpVal .eq (.str "deed") (.str "back") = some (.bool false) := by rw [cv_eqS]; rfl
theorem gd_nb : gdVal .notin [("deed", 3), ("back", 2)] [] (.str "back") = some (.bool false) := rfl
theorem gd_nd : gdVal .notin [("deed", 3), ("back", 2)] [] (.str "deed") = some (.bool false) := rfl
theorem gd_ib : gdVal .item [("deed", 3), ("back", 2)] [] (.str "back") = some (.int 2) := rfl
theorem gd_id : gdVal .item [("deed", 3), ("back", 2)] [] (.str "deed") = some (.int 3) := rfl
theorem is_string_ok (x : Str) : callN L P (n + 1) 5 [.dat (.str x)] m = .ok (.dat (.bool true)) m := by
  rw [call_eq P_is_string rfl]
  simp [d_is_string]
theorem atI_2 (c d e : PyData) (xs : List PyData) : L2.atI (c :: d :: e :: xs) 2 = some e := atI_nat (i := 2) rfl
theorem check_pressB {t : Bool} {a : Nat} (ha : a < 4) : callN L P (n + 5) 9 [.dat (prB t a)] m = .ok (.dat (prB true a)) m := by
  rw [call_eq P_check_press rfl]
  have k : callN L P (n + 4) 8 [.dat (prB t a)] m = .ok (.dat (.bool true)) m := by
    rw [call_eq P_is_press rfl]
    have ks := is_sequence_S (L := L) (n := n + 2) (m := m) t [.str "back", .int a]
    have kb : callN L P (n + 3) 2 [.dat (.int a), .dat (.int 4)] m = .ok (.dat (.bool (decide ((0 : Int) ≤ a) && decide ((a : Int) < 4)))) m := is_below_int (n := n) _ _
    have hl : (a : Int) < 4 := by omega
    simp [d_is_press, prB, ks, is_string_ok, gd_nb, gd_ib, kb, hl, eq_bb]
  have et : b1Val .tuple (prB t a) = some (prB true a) := by cases t <;> rfl
  simp [d_check_press, k, et]
theorem check_pressF {t : Bool} {a d : Nat} (ha : a < 4) (hd : d < 6) : callN L P (n + 5) 9 [.dat (prF t a d)] m = .ok (.dat (prF true a d)) m := by
  rw [call_eq P_check_press rfl]
  have k : callN L P (n + 4) 8 [.dat (prF t a d)] m = .ok (.dat (.bool true)) m := by
    rw [call_eq P_is_press rfl]
    have ks := is_sequence_S (L := L) (n := n + 2) (m := m) t [.str "deed", .int a, .int d]
    have kb : callN L P (n + 3) 2 [.dat (.int a), .dat (.int 4)] m = .ok (.dat (.bool (decide ((0 : Int) ≤ a) && decide ((a : Int) < 4)))) m := is_below_int (n := n) _ _
    have kc : callN L P (n + 3) 2 [.dat (.int d), .dat (.int 6)] m = .ok (.dat (.bool (decide ((0 : Int) ≤ d) && decide ((d : Int) < 6)))) m := is_below_int (n := n) _ _
    have hl : (a : Int) < 4 := by omega
    have hl2 : (d : Int) < 6 := by omega
    simp [d_is_press, prF, ks, is_string_ok, gd_nd, gd_id, kb, kc, hl, hl2, eq_db, atI_2]
  have et : b1Val .tuple (prF t a d) = some (prF true a d) := by cases t <;> rfl
  simp [d_check_press, k, et]
theorem press_hereB {t : Bool} {a K s : Nat} {rules : List (List Nat)} (ha : a < K) (hK : K ≤ 4) : callN L P (n + 6) 20 [.dat (mD true s rules), .dat (.int K), .dat (prB t a)] m = .ok (.dat (prB true a)) m := by
  rw [call_eq P_press_here rfl]
  have k := check_pressB (L := L) (n := n) (m := m) (t := t) (show a < 4 by omega)
  have e1 : ixVal (prB true a) (.int 1) = some (.int a) := atI_1 _ _ _
  have e0 : ixVal (prB true a) (.int 0) = some (.str "back") := atI_0 _ _
  have hlt : ¬ ((K : Int) ≤ a) := by omega
  simp [d_press_here, k, e1, e0, hlt, eq_bd]
theorem press_hereF {t : Bool} {a d K s : Nat} {rules : List (List Nat)} (ha : a < K) (hK : K ≤ 4) (hd : d < rules.length) (hR : rules.length ≤ 6) : callN L P (n + 6) 20 [.dat (mD true s rules), .dat (.int K), .dat (prF t a d)] m = .ok (.dat (prF true a d)) m := by
  rw [call_eq P_press_here rfl]
  have k := check_pressF (L := L) (n := n) (m := m) (t := t) (show a < 4 by omega) (show d < 6 by omega)
  have e1 : ixVal (prF true a d) (.int 1) = some (.int a) := atI_1 _ _ _
  have e0 : ixVal (prF true a d) (.int 0) = some (.str "deed") := atI_0 _ _
  have e2 : ixVal (prF true a d) (.int 2) = some (.int d) := atI_2 _ _ _ _
  have e3 : ixVal (mD true s rules) (.int 1) = some (.tuple (rD rules)) := rfl
  have hlt : ¬ ((K : Int) ≤ a) := by omega
  have hlt2 : ¬ ((rules.length : Int) ≤ d) := by omega
  simp [d_press_here, k, e1, e0, e2, e3, hlt, hlt2, eq_dd]
def ext (F : List (List Nat)) (c : Nat) : List (List Nat) := F.flatMap fun v => (List.range (c + 1)).map fun x => v ++ [x]
def vecs (cs : List Nat) : List (List Nat) := cs.foldl ext [[]]
theorem vecs_snoc (cs : List Nat) (c : Nat) : vecs (cs ++ [c]) = ext (vecs cs) c := by unfold vecs; rw [List.foldl_append]; rfl
def prod1 (cs : List Nat) : Nat := (cs.map (· + 1)).foldl (· * ·) 1
theorem prod1_snoc (cs : List Nat) (c : Nat) : prod1 (cs ++ [c]) = prod1 cs * (c + 1) := by unfold prod1; rw [List.map_append, List.foldl_append]; rfl
theorem ext_len (F : List (List Nat)) (c : Nat) : (ext F c).length = F.length * (c + 1) := by
  unfold ext
  induction F with
  | nil => simp
  | cons v F ih => rw [List.flatMap_cons, List.length_append, ih]; simp [Nat.add_mul]; omega
theorem vecs_len (cs : List Nat) : (vecs cs).length = prod1 cs := by
  have : ∀ i, i ≤ cs.length → (vecs (cs.take i)).length = prod1 (cs.take i) := fun i => by
    induction i with
    | zero => intro _; rfl
    | succ i ih =>
      intro hi
      have hx := List.getElem?_eq_getElem (show i < cs.length by omega)
      rw [take_snoc hx, vecs_snoc, ext_len, prod1_snoc, ih (by omega)]
  have := this cs.length (Nat.le_refl _)
  rwa [List.take_length] at this
def place (cs v : List Nat) : Nat := (v.zip cs).foldl (fun f p => f * (p.2 + 1) + p.1) 0
structure TOk (cs bs : List Nat) (b : Nat) : Prop where
  c : COk cs
  len : bs.length = prod1 cs
  small : prod1 cs ≤ 1000
  lt : ∀ x ∈ bs, x < b
def tD (t t1 : Bool) (cs bs : List Nat) : PyData := mkS t [mkS t1 (iD cs), mkS t1 (iD bs)]
def bump (cs : List Nat) (a : Nat) : List Nat := cs.set a (cs.getD a 0 + 1)
def drop1 (cs : List Nat) (a : Nat) : List Nat := cs.set a (cs.getD a 0 - 1)
def grow (f : List Nat → Nat) (rules : List (List Nat)) (cs' : List Nat) (a d : Nat) (w : List Nat) : Nat := if w.getD a 0 < cs'.getD a 0 then f w else stepR rules d (f (w.set a (w.getD a 0 - 1)))
def rstep (rules : List (List Nat)) (st : Nat × List Nat) (p : Nat × Nat) : Nat × List Nat := if 0 < st.2.getD p.1 0 then (stepR rules p.2 st.1, st.2.set p.1 (st.2.getD p.1 0 - 1)) else st
def replay (rules : List (List Nat)) (h : Hi) (st : Nat × List Nat) : Nat × List Nat := h.foldl (rstep rules) st
def board (s : Nat) (rules : List (List Nat)) (h : Hi) (v : List Nat) : Nat := (replay rules h (s, v)).1
theorem getD_set (l : List Nat) (a x i : Nat) : (l.set a x).getD i 0 = if i = a ∧ a < l.length then x else l.getD i 0 := by
  rw [List.getD_eq_getElem?_getD, List.getD_eq_getElem?_getD, List.getElem?_set]
  by_cases h : a = i
  · subst h
    by_cases hl : a < l.length
    · simp [hl]
    · simp [hl]
  · rw [if_neg h, if_neg (fun z => h z.1.symm)]
theorem four_dec : ∀ a < 11, ∀ b < 11, ∀ c < 11, ∀ d < 11, a + b + c + d ≤ 10 → (a + 1) * (b + 1) * (c + 1) * (d + 1) ≤ 1000 := by decide +kernel
theorem four {a b c d : Nat} (h : a + b + c + d ≤ 10) : (a + 1) * (b + 1) * (c + 1) * (d + 1) ≤ 1000 := four_dec a (by omega) b (by omega) c (by omega) d (by omega) h
theorem cnt_four : ∀ h : Hi, cnt h 0 + cnt h 1 + cnt h 2 + cnt h 3 ≤ h.length
  | [] => Nat.le_refl _
  | p :: h => by
    have := cnt_four h
    rw [cnt_cons, cnt_cons, cnt_cons, cnt_cons, List.length_cons]
    split <;> split <;> split <;> split <;> omega
theorem prod_ok {k : Nat} {h : Hi} (hk : k ≤ 4) (hh : h.length ≤ 10) : prod1 (cnts k h) ≤ 1000 := by
  have h4 := cnt_four h
  rcases (by omega : k = 0 ∨ k = 1 ∨ k = 2 ∨ k = 3 ∨ k = 4) with rfl | rfl | rfl | rfl | rfl
  · show 1 ≤ 1000; omega
  · show 1 * (cnt h 0 + 1) ≤ 1000; omega
  · show 1 * (cnt h 0 + 1) * (cnt h 1 + 1) ≤ 1000
    have := four (a := cnt h 0) (b := cnt h 1) (c := 0) (d := 0) (by omega)
    simpa using this
  · show 1 * (cnt h 0 + 1) * (cnt h 1 + 1) * (cnt h 2 + 1) ≤ 1000
    have := four (a := cnt h 0) (b := cnt h 1) (c := cnt h 2) (d := 0) (by omega)
    simpa using this
  · show 1 * (cnt h 0 + 1) * (cnt h 1 + 1) * (cnt h 2 + 1) * (cnt h 3 + 1) ≤ 1000
    have := four (a := cnt h 0) (b := cnt h 1) (c := cnt h 2) (d := cnt h 3) (by omega)
    simpa using this
theorem board_lt {b s k : Nat} {rules : List (List Nat)} {h : Hi} {v : List Nat} (hm : MOk b s rules) (ho : HOk k rules.length h) : board s rules h v < b := by
  have : ∀ (h : Hi) (st : Nat × List Nat), HOk k rules.length h → st.1 < b → (replay rules h st).1 < b := fun h => by
    induction h with
    | nil => intro st _ hs; exact hs
    | cons p h ih =>
      intro st ho hs
      show (replay rules h (rstep rules st p)).1 < b
      refine ih _ (fun q hq => ho q (List.mem_cons_of_mem _ hq)) ?_
      unfold rstep
      split
      · have hd := (ho p List.mem_cons_self).2
        have hr := List.getElem?_eq_getElem hd
        have hrb := hm.each _ (List.getElem_mem hd)
        show stepR rules p.2 st.1 < b
        unfold stepR
        have e : rules.getD p.2 [] = rules[p.2] := by rw [List.getD_eq_getElem?_getD, hr]; rfl
        rw [e, List.getD_eq_getElem?_getD, List.getElem?_eq_getElem (by rw [hrb.1]; exact hs)]
        exact hrb.2 _ (List.getElem_mem _)
      · exact hs
  exact this h (s, v) ho hm.sb
theorem tok {b s K : Nat} {rules : List (List Nat)} {h : Hi} (hm : MOk b s rules) (ho : HOk K rules.length h) (h1 : 1 ≤ K) (hK : K ≤ 4) (hh : h.length ≤ 10) (B : Nat) (hB : b ≤ B) : TOk (cnts K h) ((vecs (cnts K h)).map (board s rules h)) B :=
  ⟨cok h1 hK hh, by rw [List.length_map, vecs_len], prod_ok hK hh, fun x hx => by
    obtain ⟨v, _, rfl⟩ := List.mem_map.mp hx
    exact Nat.lt_of_lt_of_le (board_lt hm ho) hB⟩
def fOf (cs bs : List Nat) (v : List Nat) : Nat := bs.getD (place cs v) 0
def Fits (f : List Nat → Nat) (rules : List (List Nat)) (cs : List Nat) (a d : Nat) : Prop := ∀ v, InV cs v → v.getD a 0 = cs.getD a 0 → stepR rules d (f (v.set a (v.getD a 0 - 1))) = f v
inductive Red (f : List Nat → Nat) (rules : List (List Nat)) : List Nat → List Nat → Prop
  | refl (cs : List Nat) : Red f rules cs cs
  | step {cs cs' : List Nat} {a d : Nat} : a < cs.length → 0 < cs.getD a 0 → d < rules.length → Fits f rules cs a d → Red f rules (drop1 cs a) cs' → Red f rules cs cs'
def doing (rules : List (List Nat)) (ps : Hi) : List Nat := (List.range rules.length).filter fun d => ps.all fun p => stepR rules d p.1 == p.2
def lpOf (f : List Nat → Nat) (cs : List Nat) (a : Nat) (vs : List (List Nat)) : Hi := (vs.filter fun v => v.getD a 0 == cs.getD a 0).map fun v => (f (v.set a (v.getD a 0 - 1)), f v)
def lastL (f : List Nat → Nat) (rules : List (List Nat)) (cs : List Nat) (a : Nat) : Hi := if 0 < cs.getD a 0 then ((doing rules (lpOf f cs a (vecs cs))).take 1).map fun d => (a, d) else []
def lastsL (f : List Nat → Nat) (rules : List (List Nat)) (cs : List Nat) : Hi := (List.range cs.length).flatMap (lastL f rules cs)
end K07

set_option Elab.async false
set_option linter.all false
set_option maxRecDepth 100000
set_option maxHeartbeats 2000000
namespace K07
open PySem PySem.Spec PyProof.Rows L2 Eng
variable {L n : Nat} {m : Mem}
theorem compGo_map {α : Type} {elt : Eng.Env → Mem → R U} {tg : Tg} {σ : Eng.Env} {D F : α → PyData} : ∀ {l : List α}, (∀ a ∈ l, ∃ σ', asgTg tg (D a) σ = some σ' ∧ elt σ' m = .ok (.dat (F a)) m) → compGo elt none tg σ (l.map D) m = .ok (l.map F) m
  | [], _ => rfl
  | a :: l, h => by
    obtain ⟨σ', h1, h2⟩ := h a List.mem_cons_self
    rw [List.map_cons]
    unfold compGo
    rw [h1]
    simp only [condGo, R.bind_ok, if_true, h2, asD_dat]
    rw [compGo_map fun e he => h e (List.mem_cons_of_mem _ he)]
    rfl
theorem compGo_mapf {α : Type} {elt c : Eng.Env → Mem → R U} {tg : Tg} {σ : Eng.Env} {D F : α → PyData} {p : α → Bool} : ∀ {l : List α}, (∀ a ∈ l, ∃ σ', asgTg tg (D a) σ = some σ' ∧ c σ' m = .ok (.dat (.bool (p a))) m ∧ (p a = true → elt σ' m = .ok (.dat (F a)) m)) → compGo elt (some c) tg σ (l.map D) m = .ok ((l.filter p).map F) m
  | [], _ => rfl
  | a :: l, h => by
    obtain ⟨σ', h1, h2, h3⟩ := h a List.mem_cons_self
    rw [List.map_cons]
    unfold compGo
    rw [h1]
    have ih := compGo_mapf fun e he => h e (List.mem_cons_of_mem _ he)
    simp only [condGo, h2, R.bind_ok, asB_bool]
    cases hp : p a with
    | true =>
      rw [if_pos rfl, h3 hp, List.filter_cons_of_pos hp]
      simp only [R.bind_ok, asD_dat, ih, List.map_cons]
    | false =>
      rw [if_neg (by simp), List.filter_cons_of_neg (by simp [hp]), ih]
theorem neg1 : negD (.int 1) = some (.int (-1)) := rfl
theorem pD0 (p : Nat × Nat) : ixVal (pD p) (.int 0) = some (.int p.1) := atI_0 _ _
theorem hok_le {K D E : Nat} {h : Hi} (ho : HOk K D h) (hd : D ≤ E) : HOk K E h := fun p hp => ⟨(ho p hp).1, Nat.lt_of_lt_of_le (ho p hp).2 hd⟩
theorem hok_k {K K' D : Nat} {h : Hi} (ho : HOk K D h) (hk : K ≤ K') : HOk K' D h := fun p hp => ⟨Nat.lt_of_lt_of_le (ho p hp).1 hk, (ho p hp).2⟩
def runB (rules : List (List Nat)) (s : Nat) (h : Hi) : Nat := h.foldl (fun b p => stepR rules p.2 b) s
theorem step_lt {b s d x : Nat} {rules : List (List Nat)} (hm : MOk b s rules) (hd : d < rules.length) (hx : x < b) : stepR rules d x < b ∧ ixVal (.tuple (rD rules)) (.int d) = some (tI (rules.getD d [])) ∧ ixVal (tI (rules.getD d [])) (.int x) = some (.int (stepR rules d x : Nat)) := by
  obtain ⟨r, hr⟩ : ∃ r, rules[d]? = some r := ⟨_, List.getElem?_eq_getElem hd⟩
  have hrb := hm.each r (List.mem_of_getElem? hr)
  have ee : rules.getD d [] = r := by rw [List.getD_eq_getElem?_getD, hr]; rfl
  have hxr : x < r.length := by rw [hrb.1]; exact hx
  have er : stepR rules d x = r.getD x 0 := by unfold stepR; rw [ee]
  rw [ee, er]
  refine ⟨?_, atI_nat (by unfold rD; rw [List.getElem?_map, hr]; rfl), iD_at hxr⟩
  rw [List.getD_eq_getElem?_getD, List.getElem?_eq_getElem hxr]
  exact hrb.2 _ (List.getElem_mem hxr)
theorem runB_lt {b s : Nat} {rules : List (List Nat)} (hm : MOk b s rules) {K : Nat} : ∀ {h : Hi} {x : Nat}, x < b → HOk K rules.length h → runB rules x h < b
  | [], x, hx, _ => hx
  | p :: h, x, hx, ho => runB_lt hm (h := h) (step_lt hm (ho p List.mem_cons_self).2 hx).1 fun q hq => ho q (List.mem_cons_of_mem _ hq)
theorem boards_ok {b s : Nat} {rules : List (List Nat)} {h : Hi} (t : Bool) (hm : MOk b s rules) (ho : HOk 4 rules.length h) (hl : h.length ≤ 900) : ∃ bs : List Nat, callN L P (n + 9) 18 [.dat (mD t s rules), .dat (hD h)] m = .ok (.dat (tI bs)) m ∧ bs.getLast? = some (runB rules s h) := by
  rw [call_eq P_boards rfl]
  have kc := check_machine_ok (L := L) (n := n + 1) (m := m) t hm
  have kh : callN L P (n + 8) 16 [.dat (mD true s rules), .dat (.int 4), .dat (hD h)] m = .ok (.dat (hD h)) m := check_history_ok (L := L) (n := n) (m := m) (K := 4) true hm (by omega) (by omega) ho (by omega)
  have := forGo_inv (body := fun σ m => evSs L (callN L P (n + 8)) b_boards_1 σ m) (tg := .tp [.nm 4, .nm 5]) (hDl h) (fun i σ m' => m' = m ∧ ∃ (bs : List Nat) (s4 s5 : Sl), bs.length = i + 1 ∧ bs.getLast? = some (runB rules s (h.take i)) ∧ σ = [.v (.dat (mD t s rules)), .v (.dat (hD h)), .v (.dat (mD true s rules)), .own (iD bs), s4, s5])
    (fun i d σ m' hd ⟨hmm, bs, s4, s5, hbl, hbs, hσ⟩ => by
      subst hmm hσ
      unfold hDl at hd
      rw [List.getElem?_map, Option.map_eq_some_iff] at hd
      obtain ⟨⟨a, d⟩, hp, rfl⟩ := hd
      have hi : i < h.length := (List.getElem?_eq_some_iff.mp hp).1
      have hpo := ho _ (List.mem_of_getElem? hp)
      have hx : runB rules s (h.take i) < b := runB_lt hm (K := 4) hm.sb fun q hq => ho q (List.mem_of_mem_take hq)
      obtain ⟨k1, k2, k3⟩ := step_lt hm hpo.2 hx
      have er : runB rules s (h.take (i + 1)) = stepR rules d (runB rules s (h.take i)) := by
        rw [take_snoc hp]; unfold runB; rw [List.foldl_append]; rfl
      rw [er]
      generalize runB rules s (h.take i) = x at *
      refine ⟨[.v (.dat (mD t s rules)), .v (.dat (hD h)), .v (.dat (mD true s rules)), .own (iD bs), .v (.dat (.int a)), .v (.dat (.int d))], [.v (.dat (mD t s rules)), .v (.dat (hD h)), .v (.dat (mD true s rules)), .own (iD (bs ++ [stepR rules d x])), .v (.dat (.int a)), .v (.dat (.int d))], _, rfl, ?_, rfl, bs ++ [stepR rules d x], _, _, by rw [List.length_append, hbl]; rfl, by simp, rfl⟩
      have e2 : ixVal (mD true s rules) (.int 1) = some (.tuple (rD rules)) := rfl
      have el : ixVal (.list (iD bs)) (.int (-1)) = some (.int (x : Nat)) := atI_last (by unfold iD; rw [List.getLast?_map, hbs]; rfl)
      have hz : (iD bs).length < sizeLine := by rw [iD_len, hbl]; exact Nat.lt_of_lt_of_le (show i + 1 < 1000 by omega) (small1001 (Nat.le_refl 1000))
      have ea : iD bs ++ [.int ((stepR rules d x : Nat) : Int)] = iD (bs ++ [stepR rules d x]) := by unfold iD; rw [List.map_append]; rfl
      rw [← ea]
      simp [-List.getD_eq_getElem?_getD, b_boards_1, e2, k2, neg1, el, k3, app_ok hz])
    (m := m) (σ := [.v (.dat (mD t s rules)), .v (.dat (hD h)), .v (.dat (mD true s rules)), .own (iD [s]), .no, .no]) ⟨rfl, [s], .no, .no, rfl, rfl, rfl⟩
  obtain ⟨σ', m', h1, rfl, bs, s4, s5, hbl, hbs, rfl⟩ := this
  rw [hDl_len, List.take_length] at hbs
  refine ⟨bs, ?_, hbs⟩
  have loop : evS L (callN L P (n + 8)) l_boards_1 [.v (.dat (mD t s rules)), .v (.dat (hD h)), .v (.dat (mD true s rules)), .own (iD [s]), .no, .no] m' = .ok (.nx, [.v (.dat (mD t s rules)), .v (.dat (hD h)), .v (.dat (mD true s rules)), .own (iD bs), s4, s5]) m' := by
    show evS L _ (.for_ _ _ _) _ _ = _
    simp only [s_forE, it_seq, ev_call, ev_cons, ev_nil, ev_glb, ev_var, getV, List.getElem?_cons_zero, List.getElem?_cons_succ, R.bind_ok, kh]
    exact h1
  have e0 : ixVal (mD true s rules) (.int 0) = some (.int s) := rfl
  have es : iD [s] = [.int (s : Int)] := rfl
  rw [es] at loop
  simp [d_boards, kc, e0, loop, tI]
theorem board_of_ok {b s : Nat} {rules : List (List Nat)} {h : Hi} (t : Bool) (hm : MOk b s rules) (ho : HOk 4 rules.length h) (hl : h.length ≤ 900) : callN L P (n + 10) 19 [.dat (mD t s rules), .dat (hD h)] m = .ok (.dat (.int (runB rules s h))) m := by
  rw [call_eq P_board_of rfl]
  obtain ⟨bs, h1, h2⟩ := boards_ok (L := L) (n := n) (m := m) t hm ho hl
  have el : ixVal (tI bs) (.int (-1)) = some (.int (runB rules s h : Nat)) := atI_last (by unfold iD; rw [List.getLast?_map, h2]; rfl)
  simp [d_board_of, h1, neg1, el]
def HT (s : Nat) (rules : List (List Nat)) (f : List Nat → Nat) (cs : List Nat) (h : Hi) : Prop := HOk cs.length rules.length h ∧ cnts cs.length h = cs ∧ ∀ v, InV cs v → board s rules h v = f v
def nrm (f : List Nat → Nat) (rules : List (List Nat)) : Nat → List Nat → Hi
  | 0, _ => []
  | N + 1, cs => match (lastsL f rules cs).getLast? with
    | some p => nrm f rules N (drop1 cs p.1) ++ [p]
    | none => []
def nof (s : Nat) (rules : List (List Nat)) (K : Nat) (h : Hi) : Hi := nrm (board s rules h) rules (cnts K h).sum (cnts K h)
def tabD (K s : Nat) (rules : List (List Nat)) (h : Hi) : PyData := tD true true (cnts K h) ((vecs (cnts K h)).map (board s rules h))
theorem catH {h : Hi} {a d : Nat} (hl : h.length ≤ 900) : binVal .add (hD h) (.tuple [.tuple [.int a, .int d]]) = some (hD (h ++ [(a, d)])) := by
  have : hDl (h ++ [(a, d)]) = hDl h ++ [.tuple [.int a, .int d]] := by unfold hDl; rw [List.map_append]; rfl
  unfold hD
  rw [this]
  exact if_pos (small1001 (by rw [hDl_len]; show h.length + 1 ≤ 1000; omega))
theorem eqv_hist : ∀ a b : Hi, PyData.eqvAll (hDl a) (hDl b) = decide (a = b)
  | [], [] => rfl
  | [], _ :: _ => rfl
  | _ :: _, [] => rfl
  | x :: a, y :: b => by
    have ih := eqv_hist a b
    show (PyData.eqv (pD x) (pD y) && PyData.eqvAll (hDl a) (hDl b)) = _
    rw [ih]
    show (((((x.1 : Int) == (y.1 : Int)) && (((x.2 : Int) == (y.2 : Int)) && true))) && decide (a = b)) = _
    rw [Bool.eq_iff_iff]
    simp only [Bool.and_eq_true, beq_iff_eq, decide_eq_true_eq, List.cons.injEq, Bool.and_true]
    constructor
    · rintro ⟨⟨h1, h2⟩, h3⟩; exact ⟨Prod.ext (by omega) (by omega), h3⟩
    · rintro ⟨rfl, h3⟩; exact ⟨⟨rfl, rfl⟩, h3⟩
theorem eq_hist {g h : Hi} (hg : Small g) (hh : Small h) : cmpVal .eq (hD g) (hD h) = some (.bool (decide (g = h))) := by
  have e : PyData.eqv (hD g) (hD h) = decide (g = h) := eqv_hist g h
  show (if SeqAt.shaped (hD g) = true ∧ SeqAt.shaped (hD h) = true then some (PyData.bool (PyData.eqv (hD g) (hD h))) else none) = _
  rw [if_pos ⟨shaped_hist hg, shaped_hist hh⟩, e]
end K07

set_option Elab.async false
set_option linter.all false
set_option maxRecDepth 100000
set_option maxHeartbeats 2000000
namespace K07
open PySem PySem.Spec PyProof.Rows L2 Eng
/-! ### presses: no program in sight -/
/-- the last one with a property is taken out -/
def rmG {α : Type} (p : α → Bool) : List α → List α
  | [] => []
  | x :: l => if l.any p then x :: rmG p l else if p x then l else x :: l
theorem rmG_split {α : Type} {p : α → Bool} {x : α} {R : List α} (hx : p x = true) (hR : R.any p = false) : ∀ P : List α, rmG p (P ++ x :: R) = P ++ R
  | [] => by show (if R.any p = true then _ else _) = R; rw [hR, if_neg (by simp), if_pos hx]
  | y :: P => by
    show (if (P ++ x :: R).any p = true then y :: rmG p (P ++ x :: R) else _) = _
    rw [if_pos (by rw [List.any_append, List.any_cons, hx]; simp), rmG_split hx hR P]; rfl
theorem any_split {α : Type} {p : α → Bool} : ∀ {l : List α}, l.any p = true → ∃ P x R, l = P ++ x :: R ∧ p x = true ∧ R.any p = false
  | [], h => by simp at h
  | y :: l, h => by
    cases hl : l.any p with
    | true =>
      obtain ⟨P, x, R, e, h1, h2⟩ := any_split hl
      exact ⟨y :: P, x, R, by rw [e]; rfl, h1, h2⟩
    | false =>
      rw [List.any_cons, hl, Bool.or_false] at h
      exact ⟨[], y, l, rfl, h, hl⟩
theorem rmG_map {α β : Type} {p : β → Bool} {f : α → β} : ∀ l : List α, (rmG (fun x => p (f x)) l).map f = rmG p (l.map f)
  | [] => rfl
  | x :: l => by
    have ha : l.any (fun x => p (f x)) = (l.map f).any p := by rw [List.any_map]; rfl
    show List.map f (if l.any (fun x => p (f x)) = true then _ else if p (f x) = true then l else x :: l) = if (l.map f).any p = true then _ else _
    rw [ha]
    split
    · rw [List.map_cons, rmG_map l]
    · split <;> rfl
abbrev Pr := Nat × Option Nat
abbrev I3 := Nat × Nat × Nat
def ph (a : Nat) (x : Nat × Nat) : Bool := x.1 == a
def ip (a : Nat) (x : I3) : Bool := x.2.1 == a
def doH (q : Pr) (h : Hi) : Option Hi := match q.2 with
  | some d => some (h ++ [(q.1, d)])
  | none => if h.any (ph q.1) then some (rmG (ph q.1) h) else none
def doI (k : Nat) (q : Pr) (l : List I3) : Option (List I3) := match q.2 with
  | some d => some (l ++ [(k, q.1, d)])
  | none => if l.any (ip q.1) then some (rmG (ip q.1) l) else none
def hist (l : List I3) : Hi := l.map (·.2)
theorem any_hist (a : Nat) (l : List I3) : (hist l).any (ph a) = l.any (ip a) := by unfold hist; rw [List.any_map]; rfl
theorem doI_hist {k : Nat} {q : Pr} {l l' : List I3} (h : doI k q l = some l') : doH q (hist l) = some (hist l') := by
  obtain ⟨a, d⟩ := q
  cases d with
  | some d =>
    cases h
    show some (hist l ++ [(a, d)]) = some (hist (l ++ [(k, a, d)]))
    unfold hist
    rw [List.map_append]; rfl
  | none =>
    simp only [doI] at h
    split at h
    · rename_i hc
      cases h
      simp only [doH]
      rw [any_hist, if_pos hc]
      exact congrArg some (rmG_map (p := ph a) (f := fun x : I3 => x.2) l).symm
    · cases h
structure RunI (ps : List Pr) (S : Nat → List I3) : Prop where
  zero : S 0 = []
  step : ∀ k q, ps[k]? = some q → doI k q (S k) = some (S (k + 1))
structure RunH (ps : List Pr) (H : Nat → Hi) : Prop where
  zero : H 0 = []
  step : ∀ k q, ps[k]? = some q → doH q (H k) = some (H (k + 1))
theorem RunI.toH {ps : List Pr} {S : Nat → List I3} (r : RunI ps S) : RunH ps fun k => hist (S k) :=
  ⟨by show hist (S 0) = []; rw [r.zero]; rfl, fun k q h => doI_hist (r.step k q h)⟩
theorem rmG_sub {α : Type} {p : α → Bool} {l : List α} : ∀ x ∈ rmG p l, x ∈ l := fun x hx => by
  cases ha : l.any p with
  | true =>
    obtain ⟨P, y, R, rfl, h1, h2⟩ := any_split ha
    rw [rmG_split h1 h2] at hx
    rcases List.mem_append.mp hx with hx | hx
    · exact List.mem_append_left _ hx
    · exact List.mem_append_right _ (List.mem_cons_of_mem _ hx)
  | false =>
    cases l with
    | nil => exact hx
    | cons y l =>
      rw [List.any_cons, Bool.or_eq_false_iff] at ha
      have : rmG p (y :: l) = y :: l := by
        show (if l.any p = true then _ else if p y = true then l else y :: l) = _
        rw [ha.2, ha.1, if_neg (by simp), if_neg (by simp)]
      rwa [this] at hx
theorem doH_len {q : Pr} {h h' : Hi} (e : doH q h = some h') : h'.length ≤ h.length + 1 := by
  obtain ⟨a, d⟩ := q
  cases d with
  | some d => cases e; rw [List.length_append]; exact Nat.le_refl _
  | none =>
    simp only [doH] at e
    split at e
    · rename_i hc
      cases e
      obtain ⟨P, y, R, rfl, h1, h2⟩ := any_split hc
      rw [rmG_split h1 h2, List.length_append, List.length_append, List.length_cons]; omega
    · cases e
def QOk (K D : Nat) (q : Pr) : Prop := q.1 < K ∧ ∀ d, q.2 = some d → d < D
theorem doH_ok {K D : Nat} {q : Pr} {h h' : Hi} (e : doH q h = some h') (ho : HOk K D h) (hq : QOk K D q) : HOk K D h' := by
  obtain ⟨a, d⟩ := q
  cases d with
  | some d =>
    cases e
    intro p hp
    rcases List.mem_append.mp hp with hp | hp
    · exact ho p hp
    · rw [List.mem_singleton.mp hp]; exact ⟨hq.1, hq.2 d rfl⟩
  | none =>
    simp only [doH] at e
    split at e
    · cases e
      exact fun p hp => ho p (rmG_sub p hp)
    · cases e
theorem RunH.ok {K D : Nat} {ps : List Pr} {H : Nat → Hi} (r : RunH ps H) (hq : ∀ q ∈ ps, QOk K D q) : ∀ k, k ≤ ps.length → HOk K D (H k) ∧ (H k).length ≤ k
  | 0, _ => by rw [r.zero]; exact ⟨fun p hp => (by cases hp), Nat.le_refl _⟩
  | k + 1, hk => by
    obtain ⟨h1, h2⟩ := r.ok hq k (by omega)
    have e := r.step k ps[k] (List.getElem?_eq_getElem (by omega))
    exact ⟨doH_ok e h1 (hq _ (List.getElem_mem (by omega))), Nat.le_trans (doH_len e) (by omega)⟩
/-! indices -/
/-- the indices of a hand's deeds that stand -/
def stk (a : Nat) (l : List I3) : List Nat := (l.filter (ip a)).map (·.1)
theorem stk_deed {k b d a : Nat} {l : List I3} : stk a (l ++ [(k, b, d)]) = if b = a then stk a l ++ [k] else stk a l := by
  unfold stk
  rw [List.filter_append, List.map_append]
  by_cases h : b = a
  · rw [if_pos h, List.filter_cons_of_pos (by show (b == a) = true; simp [h])]; rfl
  · rw [if_neg h, List.filter_cons_of_neg (by show ¬ (b == a) = true; simp [h]), List.filter_nil, List.map_nil, List.append_nil]
theorem stk_back {b a : Nat} {l : List I3} (h : l.any (ip b) = true) : ∃ t, stk b l = stk b (rmG (ip b) l) ++ [t] ∧ (a ≠ b → stk a (rmG (ip b) l) = stk a l) ∧ (∃ x ∈ l, x.1 = t ∧ x.2.1 = b) := by
  obtain ⟨P, x, R, rfl, h1, h2⟩ := any_split h
  have hR : R.filter (ip b) = [] := List.filter_eq_nil_iff.mpr fun y hy => by
    have := List.any_eq_false.mp h2 y hy
    simpa using this
  rw [rmG_split h1 h2]
  refine ⟨x.1, ?_, fun hab => ?_, x, List.mem_append_right _ List.mem_cons_self, rfl, by simpa [ip] using h1⟩
  · unfold stk
    rw [List.filter_append, List.filter_append, List.filter_cons_of_pos h1, hR, List.append_nil, List.map_append]; rfl
  · unfold stk
    have hxa : ip a x ≠ true := fun z => hab (by
      have e1 : x.2.1 = b := by simpa [ip] using h1
      have e2 : x.2.1 = a := by simpa [ip] using z
      rw [← e1, e2])
    rw [List.filter_append, List.filter_append, List.filter_cons_of_neg hxa]
/-- what a back takes back -/
def tk (S : Nat → List I3) (b k : Nat) : Nat := (stk b (S k)).getLastD 0
/-- ascending, below k, and just the deeds that they are -/
structure GI (ps : List Pr) (k : Nat) (l : List I3) : Prop where
  asc : (l.map (·.1)).Pairwise (· < ·)
  low : ∀ x ∈ l, x.1 < k ∧ ps[x.1]? = some (x.2.1, some x.2.2)
theorem rmG_sublist {α : Type} {p : α → Bool} : ∀ l : List α, (rmG p l).Sublist l
  | [] => List.Sublist.slnil
  | x :: l => by
    show List.Sublist (if l.any p = true then x :: rmG p l else if p x = true then l else x :: l) (x :: l)
    split
    · exact (rmG_sublist l).cons₂ x
    · split
      · exact List.sublist_cons_self x l
      · exact List.Sublist.refl _
theorem RunI.good {ps : List Pr} {S : Nat → List I3} (r : RunI ps S) : ∀ k, k ≤ ps.length → GI ps k (S k)
  | 0, _ => by rw [r.zero]; exact ⟨List.Pairwise.nil, fun x hx => (by cases hx)⟩
  | k + 1, hk => by
    have g := r.good k (by omega)
    have hq := List.getElem?_eq_getElem (l := ps) (i := k) (by omega)
    have e := r.step k _ hq
    obtain ⟨⟨a, d⟩, hqq⟩ : ∃ q, q = ps[k] := ⟨_, rfl⟩
    rw [← hqq] at e hq
    cases d with
    | some d =>
      simp only [doI] at e
      injection e with e
      rw [← e]
      refine ⟨?_, fun x hx => ?_⟩
      · rw [List.map_append, List.pairwise_append]
        refine ⟨g.asc, List.pairwise_singleton _ _, fun i hi j hj => ?_⟩
        obtain ⟨x, hx, rfl⟩ := List.mem_map.mp hi
        have : j = k := by simpa using hj
        rw [this]; exact (g.low x hx).1
      · rcases List.mem_append.mp hx with hx | hx
        · exact ⟨Nat.lt_succ_of_lt (g.low x hx).1, (g.low x hx).2⟩
        · rw [List.mem_singleton.mp hx]; exact ⟨Nat.lt_succ_self k, hq⟩
    | none =>
      simp only [doI] at e
      split at e
      · injection e with e
        rw [← e]
        exact ⟨List.Pairwise.sublist ((rmG_sublist _).map _) g.asc, fun x hx => ⟨Nat.lt_succ_of_lt (g.low x (rmG_sub x hx)).1, (g.low x (rmG_sub x hx)).2⟩⟩
      · cases e
end K07

set_option Elab.async false
set_option linter.all false
set_option maxRecDepth 100000
set_option maxHeartbeats 2000000
namespace K07
open PySem PySem.Spec PyProof.Rows L2 Eng
theorem asc_eq : ∀ {a b : List Nat}, a.Pairwise (· < ·) → b.Pairwise (· < ·) → (∀ x, x ∈ a ↔ x ∈ b) → a = b
  | [], [], _, _, _ => rfl
  | [], y :: b, _, _, h => absurd ((h y).mpr List.mem_cons_self) (by simp)
  | x :: a, [], _, _, h => absurd ((h x).mp List.mem_cons_self) (by simp)
  | x :: a, y :: b, ha, hb, h => by
    obtain ⟨a1, a2⟩ := List.pairwise_cons.mp ha
    obtain ⟨b1, b2⟩ := List.pairwise_cons.mp hb
    have e : x = y := by
      rcases List.mem_cons.mp ((h x).mp List.mem_cons_self) with e | e
      · exact e
      · rcases List.mem_cons.mp ((h y).mpr List.mem_cons_self) with e2 | e2
        · exact e2.symm
        · have := b1 x e; have := a1 y e2; omega
    subst e
    rw [asc_eq a2 b2 fun z => ?_]
    constructor
    · intro hz
      rcases List.mem_cons.mp ((h z).mp (List.mem_cons_of_mem _ hz)) with e | e
      · have := a1 z hz; omega
      · exact e
    · intro hz
      rcases List.mem_cons.mp ((h z).mpr (List.mem_cons_of_mem _ hz)) with e | e
      · have := b1 z hz; omega
      · exact e
section
variable {ps : List Pr} {S : Nat → List I3}
theorem RunI.back (r : RunI ps S) {k a : Nat} (h : ps[k]? = some (a, none)) : ∃ P x R, S k = P ++ x :: R ∧ ip a x = true ∧ R.any (ip a) = false ∧ S (k + 1) = P ++ R ∧ tk S a k = x.1 := by
  have e := r.step k _ h
  simp only [doI] at e
  split at e
  · rename_i hc
    injection e with e
    obtain ⟨P, x, R, e1, h1, h2⟩ := any_split hc
    refine ⟨P, x, R, e1, h1, h2, by rw [← e, e1, rmG_split h1 h2], ?_⟩
    have hR : R.filter (ip a) = [] := List.filter_eq_nil_iff.mpr fun y hy => by
      have := List.any_eq_false.mp h2 y hy
      simpa using this
    unfold tk stk
    rw [e1, List.filter_append, List.filter_cons_of_pos h1, hR, List.map_append]
    simp
  · cases e
theorem RunI.deed (r : RunI ps S) {k a d : Nat} (h : ps[k]? = some (a, some d)) : S (k + 1) = S k ++ [(k, a, d)] := by
  have e := r.step k _ h
  simp only [doI] at e
  injection e with e
  exact e.symm
theorem RunI.tk_lt (r : RunI ps S) {k a : Nat} (h : ps[k]? = some (a, none)) : tk S a k < k ∧ ∃ d, ps[tk S a k]? = some (a, some d) := by
  obtain ⟨P, x, R, e1, h1, h2, e2, e3⟩ := r.back h
  have hk := (List.getElem?_eq_some_iff.mp h).1
  have g := (r.good k (by omega)).low x (by rw [e1]; exact List.mem_append_right _ List.mem_cons_self)
  have ha : x.2.1 = a := by simpa [ip] using h1
  rw [e3]
  exact ⟨g.1, x.2.2, by rw [g.2, ha]⟩
theorem RunI.mem (r : RunI ps S) : ∀ k, k ≤ ps.length → ∀ i, (∃ x ∈ S k, x.1 = i) ↔ i < k ∧ (∃ a d, ps[i]? = some (a, some d)) ∧ ∀ b a, b < k → ps[b]? = some (a, none) → tk S a b ≠ i
  | 0, _, i => by rw [r.zero]; simp
  | k + 1, hk, i => by
    have ih := r.mem k (by omega) i
    have g := r.good k (by omega)
    have hq := List.getElem?_eq_getElem (l := ps) (i := k) (by omega)
    obtain ⟨⟨a, d⟩, hqq⟩ : ∃ q, q = ps[k] := ⟨_, rfl⟩
    rw [← hqq] at hq
    cases d with
    | some d =>
      rw [r.deed hq]
      constructor
      · rintro ⟨x, hx, rfl⟩
        rcases List.mem_append.mp hx with hx | hx
        · obtain ⟨h1, h2, h3⟩ := ih.mp ⟨x, hx, rfl⟩
          refine ⟨by omega, h2, fun b a' hb hp => ?_⟩
          by_cases hbk : b = k
          · subst hbk; rw [hq] at hp; cases hp
          · exact h3 b a' (by omega) hp
        · rw [List.mem_singleton.mp hx]
          refine ⟨Nat.lt_succ_self k, ⟨a, d, hq⟩, fun b a' hb hp => ?_⟩
          by_cases hbk : b = k
          · subst hbk; rw [hq] at hp; cases hp
          · have := (r.tk_lt hp).1
            show tk S a' b ≠ k
            omega
      · rintro ⟨h1, h2, h3⟩
        by_cases hik : i = k
        · exact ⟨(k, a, d), List.mem_append_right _ (by simp), hik.symm⟩
        · obtain ⟨x, hx, e⟩ := ih.mpr ⟨by omega, h2, fun b a' hb hp => h3 b a' (by omega) hp⟩
          exact ⟨x, List.mem_append_left _ hx, e⟩
    | none =>
      obtain ⟨P, y, R, e1, h1, h2, e2, e3⟩ := r.back hq
      have nd : ∀ x ∈ P ++ R, x.1 ≠ y.1 := fun x hx => by
        have ga := g.asc
        rw [e1, List.map_append, List.map_cons, List.pairwise_append] at ga
        obtain ⟨_, g2, g3⟩ := ga
        rcases List.mem_append.mp hx with hx | hx
        · exact Nat.ne_of_lt (g3 _ (List.mem_map_of_mem hx) _ List.mem_cons_self)
        · exact (Nat.ne_of_lt ((List.pairwise_cons.mp g2).1 _ (List.mem_map_of_mem hx))).symm
      rw [e2]
      constructor
      · rintro ⟨x, hx, rfl⟩
        have hx' : x ∈ S k := by
          rw [e1]
          rcases List.mem_append.mp hx with hx | hx
          · exact List.mem_append_left _ hx
          · exact List.mem_append_right _ (List.mem_cons_of_mem _ hx)
        obtain ⟨h1', h2', h3'⟩ := ih.mp ⟨x, hx', rfl⟩
        refine ⟨by omega, h2', fun b a' hb hp => ?_⟩
        by_cases hbk : b = k
        · subst hbk
          rw [hq] at hp; cases hp
          rw [e3]; exact (nd x hx).symm
        · exact h3' b a' (by omega) hp
      · rintro ⟨h1', h2', h3'⟩
        have hik : i ≠ k := fun z => by
          obtain ⟨a', d', hh⟩ := h2'
          rw [z, hq] at hh; cases hh
        obtain ⟨x, hx, e⟩ := ih.mpr ⟨by omega, h2', fun b a' hb hp => h3' b a' (by omega) hp⟩
        have hne := h3' k a (Nat.lt_succ_self k) hq
        rw [e3] at hne
        rw [e1] at hx
        rcases List.mem_append.mp hx with hx | hx
        · exact ⟨x, List.mem_append_left _ hx, e⟩
        · rcases List.mem_cons.mp hx with hx | hx
          · rw [hx] at e; exact absurd e hne
          · exact ⟨x, List.mem_append_right _ hx, e⟩
def isDeed (ps : List Pr) (i : Nat) : Bool := match ps[i]? with | some (_, some _) => true | _ => false
def isBack (ps : List Pr) (i : Nat) : Bool := match ps[i]? with | some (_, none) => true | _ => false
def handAt (ps : List Pr) (i : Nat) : Nat := match ps[i]? with | some q => q.1 | none => 0
def letAt (ps : List Pr) (i : Nat) : Nat × Nat := match ps[i]? with | some (a, some d) => (a, d) | _ => (0, 0)
/-- the deeds that are taken back ahead of k -/
def gone (ps : List Pr) (S : Nat → List I3) (k : Nat) : List Nat := ((List.range k).filter (isBack ps)).map fun b => tk S (handAt ps b) b
theorem isBack_iff {i : Nat} : isBack ps i = true ↔ ∃ a, ps[i]? = some (a, none) := by
  unfold isBack
  constructor
  · intro h
    split at h
    · rename_i a e; exact ⟨a, e⟩
    · cases h
  · rintro ⟨a, e⟩; rw [e]
theorem isDeed_iff {i : Nat} : isDeed ps i = true ↔ ∃ a d, ps[i]? = some (a, some d) := by
  unfold isDeed
  constructor
  · intro h
    split at h
    · rename_i a d e; exact ⟨a, d, e⟩
    · cases h
  · rintro ⟨a, d, e⟩; rw [e]
theorem RunI.idx (r : RunI ps S) {k : Nat} (hk : k ≤ ps.length) : (S k).map (·.1) = (List.range k).filter fun i => isDeed ps i && !decide (i ∈ gone ps S k) := by
  refine asc_eq (r.good k hk).asc (List.Pairwise.filter _ List.pairwise_lt_range) fun i => ?_
  rw [List.mem_map, List.mem_filter, List.mem_range, Bool.and_eq_true, isDeed_iff, Bool.not_eq_true', decide_eq_false_iff_not]
  constructor
  · rintro ⟨x, hx, rfl⟩
    obtain ⟨h1, h2, h3⟩ := (r.mem k hk x.1).mp ⟨x, hx, rfl⟩
    refine ⟨h1, h2, fun hg => ?_⟩
    obtain ⟨b, hb, e⟩ := List.mem_map.mp hg
    obtain ⟨hb1, hb2⟩ := List.mem_filter.mp hb
    obtain ⟨a, ha⟩ := isBack_iff.mp hb2
    have : handAt ps b = a := by unfold handAt; rw [ha]
    rw [this] at e
    exact h3 b a (List.mem_range.mp hb1) ha e
  · rintro ⟨h1, h2, h3⟩
    refine (r.mem k hk i).mpr ⟨h1, h2, fun b a hb hp e => h3 ?_⟩
    refine List.mem_map.mpr ⟨b, List.mem_filter.mpr ⟨List.mem_range.mpr hb, isBack_iff.mpr ⟨a, hp⟩⟩, ?_⟩
    have : handAt ps b = a := by unfold handAt; rw [hp]
    show tk S (handAt ps b) b = i
    rw [this]; exact e
theorem RunI.hist_eq (r : RunI ps S) {k : Nat} (hk : k ≤ ps.length) : hist (S k) = ((List.range k).filter fun i => isDeed ps i && !decide (i ∈ gone ps S k)).map (letAt ps) := by
  rw [← r.idx hk, List.map_map]
  unfold hist
  refine List.map_congr_left fun x hx => ?_
  have := ((r.good k hk).low x hx).2
  show x.2 = letAt ps x.1
  unfold letAt
  rw [this]
/-! the search backwards -/
def tkGo (ps : List Pr) (a : Nat) : Nat → Nat → Option Nat
  | 0, _ => none
  | j + 1, o => if handAt ps j = a then (if isBack ps j = true then tkGo ps a j (o + 1) else if o = 0 then some j else tkGo ps a j (o - 1)) else tkGo ps a j o
theorem tkGo_ok (r : RunI ps S) (a : Nat) : ∀ j o, j ≤ ps.length → o < (stk a (S j)).length → tkGo ps a j o = (stk a (S j)).reverse[o]?
  | 0, o, _, h => by rw [r.zero] at h; exact absurd h (Nat.not_lt_zero _)
  | j + 1, o, hj, h => by
    have hq := List.getElem?_eq_getElem (l := ps) (i := j) (by omega)
    obtain ⟨⟨b, d⟩, hqq⟩ : ∃ q, q = ps[j] := ⟨_, rfl⟩
    rw [← hqq] at hq
    have hh : handAt ps j = b := by unfold handAt; rw [hq]
    show (if handAt ps j = a then _ else _) = _
    rw [hh]
    cases d with
    | some d =>
      have hb : isBack ps j = false := by unfold isBack; rw [hq]
      rw [hb, r.deed hq, stk_deed] at *
      by_cases hba : b = a
      · rw [if_pos hba] at h ⊢
        rw [if_pos hba, if_neg (by simp), List.reverse_append]
        rw [List.length_append, List.length_singleton] at h
        cases o with
        | zero => rw [if_pos rfl]; rfl
        | succ o =>
          rw [if_neg (by omega), Nat.add_sub_cancel, tkGo_ok r a j o (by omega) (by omega)]; rfl
      · rw [if_neg hba] at h ⊢
        rw [if_neg hba]
        exact tkGo_ok r a j o (by omega) h
    | none =>
      have hb : isBack ps j = true := by unfold isBack; rw [hq]
      have e := r.step j _ hq
      simp only [doI] at e
      split at e
      · rename_i hc
        injection e with e
        rw [← e] at h ⊢
        obtain ⟨t, h1, h2, _⟩ := stk_back (a := a) hc
        rw [hb, if_pos rfl]
        by_cases hba : b = a
        · subst hba
          rw [if_pos rfl, tkGo_ok r b j (o + 1) (by omega) (by rw [h1, List.length_append, List.length_singleton]; omega), h1, List.reverse_append]; rfl
        · rw [if_neg hba, h2 (fun z => hba z.symm), tkGo_ok r a j o (by omega) (by rw [← h2 (fun z => hba z.symm)]; exact h)]
      · cases e
theorem tkGo_tk (r : RunI ps S) {k a : Nat} (h : ps[k]? = some (a, none)) : tkGo ps a k 0 = some (tk S a k) := by
  obtain ⟨P, x, R, e1, h1, h2, e2, e3⟩ := r.back h
  have hk := (List.getElem?_eq_some_iff.mp h).1
  have hne : stk a (S k) ≠ [] := by
    unfold stk
    rw [e1, List.filter_append, List.filter_cons_of_pos h1]; simp
  rw [tkGo_ok r a k 0 (by omega) (List.length_pos_iff.mpr hne)]
  unfold tk
  rw [List.getElem?_reverse (List.length_pos_iff.mpr hne), Nat.sub_zero, ← List.getLast?_eq_getElem?, List.getLastD_eq_getLast?]
  cases e : (stk a (S k)).getLast? with
  | none => exact absurd (List.getLast?_eq_none_iff.mp e) hne
  | some x => rfl
/-! without a deed and its back -/
def er (t : Nat) (l : List I3) : List I3 := l.filter fun x => x.1 != t
theorem er_app (t : Nat) (a b : List I3) : er t (a ++ b) = er t a ++ er t b := List.filter_append _ _
theorem er_not {t : Nat} {l : List I3} (h : ∀ x ∈ l, x.1 ≠ t) : er t l = l := List.filter_eq_self.mpr fun x hx => by simpa using h x hx
/-- a press that leaves t standing does the same without it -/
theorem er_step {k t : Nat} {q : Pr} {l l' : List I3} (e : doI k q l = some l') (hk : k ≠ t) (ht : ∃ x ∈ l', x.1 = t) (nd : (l.map (·.1)).Nodup) : doI k q (er t l) = some (er t l') := by
  obtain ⟨a, d⟩ := q
  cases d with
  | some d =>
    cases e
    show some (er t l ++ [(k, a, d)]) = some (er t (l ++ [(k, a, d)]))
    rw [er_app, show er t [(k, a, d)] = [(k, a, d)] from er_not fun x hx => by rw [List.mem_singleton.mp hx]; exact hk]
  | none =>
    simp only [doI] at e
    split at e
    · rename_i hc
      injection e with e
      obtain ⟨P, y, R, rfl, h1, h2⟩ := any_split hc
      rw [rmG_split h1 h2] at e
      subst e
      have hyt : y.1 ≠ t := fun z => by
        obtain ⟨x, hx, e⟩ := ht
        rw [List.map_append, List.map_cons, List.nodup_append] at nd
        obtain ⟨_, n2, n3⟩ := nd
        rcases List.mem_append.mp hx with hx | hx
        · exact n3 x.1 (List.mem_map_of_mem hx) y.1 List.mem_cons_self (e.trans z.symm)
        · exact (List.nodup_cons.mp n2).1 (by rw [z, ← e]; exact List.mem_map_of_mem hx)
      have ey : er t (y :: R) = y :: er t R := List.filter_cons_of_pos (by simpa using hyt)
      have hR : (er t R).any (ip a) = false := List.any_eq_false.mpr fun x hx => List.any_eq_false.mp h2 x ((List.mem_filter.mp hx).1)
      have eP : er t (P ++ y :: R) = er t P ++ y :: er t R := by rw [er_app, ey]
      simp only [doI]
      rw [eP, if_pos (by rw [List.any_append, List.any_cons, h1]; simp), rmG_split h1 hR, er_app]
    · cases e
end
end K07

set_option Elab.async false
set_option linter.all false
set_option maxRecDepth 100000
set_option maxHeartbeats 2000000
namespace K07
open PySem PySem.Spec PyProof.Rows L2 Eng
/-- a row without two of its places -/
def less (ps : List Pr) (a t : Nat) : List Nat := (List.range ps.length).filter fun i => !decide (i = a) && !decide (i = t)
theorem less_eq {n a t : Nat} (ht : t < a) (ha : a < n) : ((List.range n).filter fun i => !decide (i = a) && !decide (i = t)) = List.range t ++ (List.range' (t + 1) (a - t - 1) ++ List.range' (a + 1) (n - a - 1)) := by
  refine asc_eq (List.Pairwise.filter _ List.pairwise_lt_range) ?_ fun i => ?_
  · rw [List.pairwise_append, List.pairwise_append]
    refine ⟨List.pairwise_lt_range, ⟨List.pairwise_lt_range', List.pairwise_lt_range', fun i hi j hj => ?_⟩, fun i hi j hj => ?_⟩
    · rw [List.mem_range'_1] at hi hj; omega
    · rw [List.mem_range] at hi
      rw [List.mem_append, List.mem_range'_1, List.mem_range'_1] at hj; omega
  · rw [List.mem_filter, List.mem_range, List.mem_append, List.mem_append, List.mem_range, List.mem_range'_1, List.mem_range'_1, Bool.and_eq_true, Bool.not_eq_true', Bool.not_eq_true', decide_eq_false_iff_not, decide_eq_false_iff_not]
    omega
def ixOf (a t j : Nat) : Nat := if j < t then j else if j + 1 < a then j + 1 else j + 2
theorem less_get {ps : List Pr} {a t j i : Nat} (ht : t < a) (ha : a < ps.length) (h : (less ps a t)[j]? = some i) : i = ixOf a t j ∧ i < ps.length := by
  unfold less at h
  rw [less_eq ht ha] at h
  unfold ixOf
  by_cases h1 : j < t
  · rw [List.getElem?_append_left (by rw [List.length_range]; exact h1), List.getElem?_range h1] at h
    cases h
    rw [if_pos h1]; exact ⟨rfl, by omega⟩
  · rw [List.getElem?_append_right (by rw [List.length_range]; omega), List.length_range] at h
    rw [if_neg h1]
    by_cases h2 : j + 1 < a
    · rw [List.getElem?_append_left (by rw [List.length_range']; omega), List.getElem?_range' (by omega)] at h
      cases h
      rw [if_pos h2]; exact ⟨by omega, by omega⟩
    · rw [List.getElem?_append_right (by rw [List.length_range']; omega), List.length_range'] at h
      have hl := (List.getElem?_eq_some_iff.mp h).1
      rw [List.length_range'] at hl
      rw [List.getElem?_range' hl] at h
      cases h
      rw [if_neg h2]; exact ⟨by omega, by omega⟩
theorem less_len {ps : List Pr} {a t : Nat} (ht : t < a) (ha : a < ps.length) : (less ps a t).length = ps.length - 2 := by
  unfold less
  rw [less_eq ht ha, List.length_append, List.length_append, List.length_range, List.length_range', List.length_range']; omega
def prAt (ps : List Pr) (i : Nat) : Pr := ps.getD i (0, none)
theorem prAt_of {ps : List Pr} {i : Nat} (h : i < ps.length) : ps[i]? = some (prAt ps i) := by
  unfold prAt; rw [List.getD_eq_getElem?_getD, List.getElem?_eq_getElem h]; rfl
def lessP (ps : List Pr) (a t : Nat) : List Pr := (less ps a t).map (prAt ps)
def lessH (S : Nat → List I3) (a t j : Nat) : Hi := if j ≤ t then hist (S j) else if j + 1 ≤ a then hist (er t (S (j + 1))) else hist (S (j + 2))
section
variable {ps : List Pr} {S : Nat → List I3}
theorem RunI.er_at (r : RunI ps S) {k a : Nat} (h : ps[k]? = some (a, none)) : er (tk S a k) (S k) = S (k + 1) := by
  obtain ⟨P, x, R, e1, h1, h2, e2, e3⟩ := r.back h
  have hk := (List.getElem?_eq_some_iff.mp h).1
  have g := (r.good k (by omega)).asc
  rw [e1, List.map_append, List.map_cons, List.pairwise_append] at g
  obtain ⟨_, g2, g3⟩ := g
  rw [e1, e2, e3, er_app]
  have hx : er x.1 (x :: R) = er x.1 R := List.filter_cons_of_neg (by simp)
  rw [hx, er_not fun y hy => Nat.ne_of_lt (g3 _ (List.mem_map_of_mem hy) _ List.mem_cons_self), er_not fun y hy => (Nat.ne_of_lt ((List.pairwise_cons.mp g2).1 _ (List.mem_map_of_mem hy))).symm]
theorem RunI.stays (r : RunI ps S) {k a : Nat} (h : ps[k]? = some (a, none)) {j : Nat} (h1 : tk S a k < j) (h2 : j ≤ k) : ∃ x ∈ S j, x.1 = tk S a k := by
  obtain ⟨P, x, R, e1, _, _, _, e3⟩ := r.back h
  have hk := (List.getElem?_eq_some_iff.mp h).1
  obtain ⟨q1, q2, q3⟩ := (r.mem k (by omega) (tk S a k)).mp ⟨x, by rw [e1]; exact List.mem_append_right _ List.mem_cons_self, e3.symm⟩
  exact (r.mem j (by omega) _).mpr ⟨h1, q2, fun b a' hb hp => q3 b a' (by omega) hp⟩
theorem RunI.er_deed (r : RunI ps S) {t a d : Nat} (h : ps[t]? = some (a, some d)) : er t (S (t + 1)) = S t := by
  have ht := (List.getElem?_eq_some_iff.mp h).1
  rw [r.deed h, er_app, show er t [(t, a, d)] = [] from List.filter_cons_of_neg (by simp), List.append_nil]
  exact er_not fun x hx => Nat.ne_of_lt ((r.good t (by omega)).low x hx).1
theorem RunI.less (r : RunI ps S) {k a : Nat} (h : ps[k]? = some (a, none)) : RunH (lessP ps k (tk S a k)) (lessH S k (tk S a k)) ∧ ∀ j, k ≤ j + 1 → lessH S k (tk S a k) j = hist (S (j + 2)) := by
  obtain ⟨htk, d, hd⟩ := r.tk_lt h
  have hk := (List.getElem?_eq_some_iff.mp h).1
  have F0 := r.er_at h
  have F1 := r.er_deed hd
  have st := fun j => r.stays h (j := j)
  generalize tk S a k = t at *
  have A1 : ∀ j, t ≤ j → j + 1 ≤ k → lessH S k t j = hist (er t (S (j + 1))) := fun j h1 h2 => by
    unfold lessH
    by_cases e : j ≤ t
    · have : j = t := by omega
      subst this
      rw [if_pos e, F1]
    · rw [if_neg e, if_pos h2]
  have A2 : ∀ j, k ≤ j + 1 → lessH S k t j = hist (S (j + 2)) := fun j h1 => by
    by_cases e : j + 1 = k
    · rw [A1 j (by omega) (by omega), e, F0, show k + 1 = j + 2 by omega]
    · unfold lessH
      rw [if_neg (by omega), if_neg (by omega)]
  refine ⟨⟨by unfold lessH; rw [if_pos (Nat.zero_le _), r.zero]; rfl, fun j q hq => ?_⟩, A2⟩
  unfold lessP at hq
  rw [List.getElem?_map, Option.map_eq_some_iff] at hq
  obtain ⟨i, hi, rfl⟩ := hq
  obtain ⟨hi1, hi2⟩ := less_get htk hk hi
  have hpi := prAt_of hi2
  have e := r.step i _ hpi
  unfold ixOf at hi1
  by_cases h1 : j < t
  · rw [if_pos h1] at hi1
    subst hi1
    unfold lessH
    rw [if_pos (by omega), if_pos (by omega)]
    exact doI_hist e
  · rw [if_neg h1] at hi1
    by_cases h2 : j + 1 < k
    · rw [if_pos h2] at hi1
      subst hi1
      rw [A1 j (by omega) (by omega), A1 (j + 1) (by omega) (by omega)]
      have nd : ((S (j + 1)).map (·.1)).Nodup := (r.good (j + 1) (by omega)).asc.imp fun h => Nat.ne_of_lt h
      exact doI_hist (er_step e (by omega) (st (j + 2) (by omega) (by omega)) nd)
    · rw [if_neg h2] at hi1
      subst hi1
      rw [A2 j (by omega), A2 (j + 1) (by omega)]
      exact doI_hist e
theorem lessP_ok {K D a t : Nat} (hq : ∀ q ∈ ps, QOk K D q) : ∀ q ∈ lessP ps a t, QOk K D q := fun q h => by
  obtain ⟨i, hi, rfl⟩ := List.mem_map.mp h
  unfold K07.less at hi
  have := List.mem_range.mp (List.mem_filter.mp hi).1
  exact hq _ (List.mem_of_getElem? (prAt_of this))
end
end K07

set_option Elab.async false
set_option linter.all false
set_option maxRecDepth 100000
set_option maxHeartbeats 2000000
namespace K07
open PySem PySem.Spec PyProof.Rows L2 Eng
variable {L n : Nat} {m : Mem}
/-! ### the program: rows of presses -/
def lastAt (a : Nat) : Nat → Hi → Int → Int
  | _, [], acc => acc
  | k, p :: h, acc => lastAt a (k + 1) h (if p.1 = a then (k : Int) else acc)
theorem lastAt_app (a : Nat) : ∀ (h g : Hi) (k : Nat) (acc : Int), lastAt a k (h ++ g) acc = lastAt a (k + h.length) g (lastAt a k h acc)
  | [], g, k, acc => rfl
  | p :: h, g, k, acc => by
    show lastAt a (k + 1) (h ++ g) _ = _
    rw [lastAt_app a h g]
    show lastAt a (k + 1 + h.length) g (lastAt a (k + 1) h _) = lastAt a (k + (h.length + 1)) g (lastAt a (k + 1) h _)
    rw [show k + 1 + h.length = k + (h.length + 1) by omega]
theorem lastAt_no (a : Nat) : ∀ (r : Hi) (k : Nat) (acc : Int), cnt r a = 0 → lastAt a k r acc = acc
  | [], k, acc, _ => rfl
  | p :: r, k, acc, h => by
    rw [cnt_cons] at h
    have hp : ¬ p.1 = a := fun e => by rw [if_pos e] at h; omega
    show lastAt a (k + 1) r (if p.1 = a then (k : Int) else acc) = acc
    rw [if_neg hp]
    rw [if_neg hp] at h
    exact lastAt_no a r _ _ (by omega)
theorem last_place_ok {a d : Nat} {p r : Hi} (hr : cnt r a = 0) : callN L P (n + 1) 21 [.dat (hD (p ++ (a, d) :: r)), .dat (.int a)] m = .ok (.dat (.int p.length)) m := by
  rw [call_eq P_last_place rfl]
  have ev : lastAt a 0 (p ++ (a, d) :: r) (-1) = (p.length : Int) := by
    rw [lastAt_app]
    show lastAt a (0 + p.length + 1) r (if a = a then ((0 + p.length : Nat) : Int) else _) = _
    rw [if_pos rfl, lastAt_no a r _ _ hr, Nat.zero_add]
  generalize p ++ (a, d) :: r = h at *
  have := forGo_inv (body := fun σ m => evSs L (callN L P n) b_last_place_1 σ m) (tg := .tp [.nm 3, .nm 4]) (enumD 0 (hDl h)) (fun i σ m' => m' = m ∧ ∃ s3 s4, σ = [.v (.dat (hD h)), .v (.dat (.int a)), .v (.dat (.int (lastAt a 0 (h.take i) (-1)))), s3, s4])
    (fun i e σ m' he ⟨hm, s3, s4, hσ⟩ => by
      subst hm hσ
      obtain ⟨x, h1, rfl⟩ := Eng.enum_get he
      unfold hDl at h1
      rw [List.getElem?_map, Option.map_eq_some_iff] at h1
      obtain ⟨q, hq, rfl⟩ := h1
      have hil := (List.getElem?_eq_some_iff.mp hq).1
      have hlen : (h.take i).length = i := by rw [List.length_take]; omega
      have hs1 : lastAt a 0 (h.take (i + 1)) (-1) = if q.1 = a then (i : Int) else lastAt a 0 (h.take i) (-1) := by
        rw [take_snoc hq, lastAt_app, hlen, Nat.zero_add]; rfl
      rw [Nat.zero_add, hs1]
      generalize lastAt a 0 (h.take i) (-1) = v
      have e0 : ixVal (pD q) (.int 0) = some (.int q.1) := atI_0 _ _
      by_cases hqa : q.1 = a
      · have hqa' : (q.1 : Int) = a := by omega
        rw [if_pos hqa]
        refine ⟨[.v (.dat (hD h)), .v (.dat (.int a)), .v (.dat (.int v)), .v (.dat (.int i)), .v (.dat (pD q))], [.v (.dat (hD h)), .v (.dat (.int a)), .v (.dat (.int i)), .v (.dat (.int i)), .v (.dat (pD q))], m', rfl, ?_, rfl, _, _, rfl⟩
        simp [b_last_place_1, e0, hqa']
      · have hqa' : ¬ ((q.1 : Int) = a) := by omega
        rw [if_neg hqa]
        refine ⟨[.v (.dat (hD h)), .v (.dat (.int a)), .v (.dat (.int v)), .v (.dat (.int i)), .v (.dat (pD q))], [.v (.dat (hD h)), .v (.dat (.int a)), .v (.dat (.int v)), .v (.dat (.int i)), .v (.dat (pD q))], m', rfl, ?_, rfl, _, _, rfl⟩
        simp [b_last_place_1, e0, hqa'])
    (m := m) (σ := [.v (.dat (hD h)), .v (.dat (.int a)), .v (.dat (.int (-1))), .no, .no]) ⟨rfl, .no, .no, rfl⟩
  obtain ⟨σ', m', h1, rfl, s3, s4, rfl⟩ := this
  rw [enum_len, hDl_len, List.take_length, ev] at h1
  have loop : evS L (callN L P n) l_last_place_1 [.v (.dat (hD h)), .v (.dat (.int a)), .v (.dat (.int (-1))), .no, .no] m' = .ok (.nx, [.v (.dat (hD h)), .v (.dat (.int a)), .v (.dat (.int p.length)), s3, s4]) m' := by
    show evS L _ (.for_ _ _ _) _ _ = _
    simp only [s_forE, it_enum, ev_var, getV, List.getElem?_cons_zero, R.bind_ok, hD, seqU_tuple, enumU]
    exact h1
  simp [d_last_place, negD, loop]
def prD (t : Bool) (q : Pr) : PyData := match q.2 with
  | some d => prF t q.1 d
  | none => prB t q.1
def psL (t1 : Bool) (ps : List Pr) : List PyData := ps.map (prD t1)
def psD (t t1 : Bool) (ps : List Pr) : PyData := mkS t (psL t1 ps)
theorem psL_len (t1 : Bool) (ps : List Pr) : (psL t1 ps).length = ps.length := by unfold psL; rw [List.length_map]
theorem cnt_none {a : Nat} {R : Hi} (h : R.any (ph a) = false) : cnt R a = 0 := by
  unfold cnt
  rw [List.length_eq_zero_iff, List.filter_eq_nil_iff]
  intro p hp
  have := List.any_eq_false.mp h p hp
  simpa [ph] using this
theorem need_press_ok {t : Bool} {b s K : Nat} {rules : List (List Nat)} {q : Pr} {h h' : Hi} (hm : MOk b s rules) (k4 : K ≤ 4) (hq : QOk K rules.length q) (e : doH q h = some h') :
    callN L P (n + 8) 22 [.dat (mD true s rules), .dat (.int (K : Int)), .dat (hD h), .dat (prD t q)] m = .ok (.dat (prD true q)) m := by
  obtain ⟨a, d⟩ := q
  cases d with
  | some d =>
    show callN L P (n + 8) 22 [.dat (mD true s rules), .dat (.int (K : Int)), .dat (hD h), .dat (prF t a d)] m = .ok (.dat (prF true a d)) m
    have e0 : ixVal (prF true a d) (.int 0) = some (.str "deed") := atI_0 _ _
    rw [call_eq P_need_press rfl]
    have q1 := press_hereF (L := L) (n := n + 1) (m := m) (t := t) (s := s) (rules := rules) hq.1 k4 (hq.2 d rfl) hm.l6
    simp [d_need_press, q1, e0, eq_db]
  | none =>
    simp only [doH] at e
    split at e
    · rename_i hc
      obtain ⟨p, x, r, rfl, h1, h2⟩ := any_split hc
      obtain ⟨xa, xd⟩ := x
      have hxa : xa = a := by simpa [ph] using h1
      subst hxa
      show callN L P (n + 8) 22 [.dat (mD true s rules), .dat (.int (K : Int)), .dat (hD (p ++ (xa, xd) :: r)), .dat (prB t xa)] m = .ok (.dat (prB true xa)) m
      have e1 : ixVal (prB true xa) (.int 1) = some (.int xa) := atI_1 _ _ _
      have e0 : ixVal (prB true xa) (.int 0) = some (.str "back") := atI_0 _ _
      rw [call_eq P_need_press rfl]
      have q1 := press_hereB (L := L) (n := n + 1) (m := m) (t := t) (s := s) (rules := rules) hq.1 k4
      have q2 := last_place_ok (L := L) (n := n + 6) (m := m) (p := p) (r := r) (d := xd) (cnt_none h2)
      have hpn : ¬ ((p.length : Int) < 0) := by omega
      simp [d_need_press, q1, e0, eq_bb, e1, q2, hpn]
    · cases e
theorem behind_ok {q : Pr} {h h' : Hi} (hl : h.length ≤ 100) (e : doH q h = some h') : callN L P (n + 8) 23 [.dat (hD h), .dat (prD true q)] m = .ok (.dat (hD h')) m := by
  obtain ⟨a, d⟩ := q
  cases d with
  | some d =>
    cases e
    show callN L P (n + 8) 23 [.dat (hD h), .dat (prF true a d)] m = .ok (.dat (hD (h ++ [(a, d)]))) m
    have e1 : ixVal (prF true a d) (.int 1) = some (.int a) := atI_1 _ _ _
    have e0 : ixVal (prF true a d) (.int 0) = some (.str "deed") := atI_0 _ _
    have e2 : ixVal (prF true a d) (.int 2) = some (.int d) := atI_2 _ _ _ _
    rw [call_eq P_behind rfl]
    simp [d_behind, e0, eq_dd, e1, e2, catH (show h.length ≤ 900 by omega)]
  | none =>
    simp only [doH] at e
    split at e
    · rename_i hc
      injection e with e
      obtain ⟨p, x, r, rfl, h1, h2⟩ := any_split hc
      rw [rmG_split h1 h2] at e
      subst e
      obtain ⟨xa, d⟩ := x
      have hxa : xa = a := by simpa [ph] using h1
      subst hxa
      show callN L P (n + 8) 23 [.dat (hD (p ++ (xa, d) :: r)), .dat (prB true xa)] m = .ok (.dat (hD (p ++ r))) m
      have e1 : ixVal (prB true xa) (.int 1) = some (.int xa) := atI_1 _ _ _
      have e0 : ixVal (prB true xa) (.int 0) = some (.str "back") := atI_0 _ _
      rw [call_eq P_behind rfl]
      have q2 := last_place_ok (L := L) (n := n + 6) (m := m) (p := p) (r := r) (d := d) (cnt_none h2)
      have hlen : (p ++ (xa, d) :: r).length = p.length + 1 + r.length := by simp; omega
      generalize hH : p ++ (xa, d) :: r = h at *
      have x1 := cutP_lo (xs := hDl h) (a := p.length) (by rw [hDl_len]; omega)
      have x2 : slVal (.tuple (hDl h)) (some ((p.length : Int) + 1)) none = some (.tuple ((hDl h).drop (p.length + 1))) := cutP_hi (xs := hDl h) (a := p.length + 1) (by rw [hDl_len]; omega)
      have t1 : (hDl h).take p.length = hDl p := by rw [← hH]; unfold hDl; rw [List.map_append, List.take_left' (by rw [List.length_map])]
      have t2 : (hDl h).drop (p.length + 1) = hDl r := by
        rw [← hH]; unfold hDl
        rw [List.map_append, List.map_cons, ← List.drop_drop, List.drop_left' (by rw [List.length_map])]; rfl
      rw [t1] at x1
      rw [t2] at x2
      have cat : binVal .add (.tuple (hDl p)) (.tuple (hDl r)) = some (.tuple (hDl (p ++ r))) := by
        have : hDl (p ++ r) = hDl p ++ hDl r := by unfold hDl; rw [List.map_append]
        rw [this]
        exact if_pos (small1001 (by rw [hDl_len, hDl_len]; omega))
      simp only [hD] at q2
      simp [d_behind, e0, eq_bd, e1, q2, hD, x1, x2, cat]
    · cases e
theorem pressed_ok {t tm t' t1 : Bool} {b s K : Nat} {rules : List (List Nat)} {q : Pr} {h h' : Hi} (hm : MOk b s rules) (k1 : 1 ≤ K) (k4 : K ≤ 4) (ho : HOk K rules.length h) (hl : h.length ≤ 100) (hq : QOk K rules.length q) (e : doH q h = some h') :
    callN L P (n + 9) 24 [.dat (mD tm s rules), .dat (.int (K : Int)), .dat (hG t' t1 h), .dat (prD t q)] m = .ok (.dat (hD h')) m := by
  rw [call_eq P_pressed rfl]
  have c1 : callN L P (n + 8) 12 [.dat (mD tm s rules)] m = .ok (.dat (mD true s rules)) m := check_machine_ok (L := L) (n := n + 1) (m := m) tm hm
  have c2 := check_history_G (L := L) (n := n) (m := m) true t' t1 hm k1 k4 ho (by omega)
  have c3 := need_press_ok (L := L) (n := n) (m := m) (t := t) hm k4 hq e
  have c4 := behind_ok (L := L) (n := n) (m := m) hl e
  generalize prD t q = u1 at c3 ⊢
  generalize prD true q = u2 at c3 c4
  generalize hG t' t1 h = u3 at c2 ⊢
  generalize hD h' = u4 at c4 ⊢
  generalize mD tm s rules = u5 at c1 ⊢
  simp [d_pressed, c1, c2, c3, c4]
def hsD (H : Nat → Hi) (n : Nat) : List PyData := (List.range (n + 1)).map fun k => hD (H k)
theorem hsD_len (H : Nat → Hi) (n : Nat) : (hsD H n).length = n + 1 := by unfold hsD; rw [List.length_map, List.length_range]
theorem hsD_last (H : Nat → Hi) (n : Nat) : (hsD H n).getLast? = some (hD (H n)) := by
  unfold hsD
  rw [List.range_succ, List.map_append]; simp
theorem psL_get {t1 : Bool} {ps : List Pr} {i : Nat} {d : PyData} (h : (psL t1 ps)[i]? = some d) : ∃ q, ps[i]? = some q ∧ d = prD t1 q := by
  unfold psL at h
  rw [List.getElem?_map, Option.map_eq_some_iff] at h
  obtain ⟨q, h1, rfl⟩ := h
  exact ⟨q, h1, rfl⟩
theorem histories_of_ok {t t1 : Bool} {b s K : Nat} {rules : List (List Nat)} {ps : List Pr} {H : Nat → Hi} (hm : MOk b s rules) (k1 : 1 ≤ K) (k4 : K ≤ 4) (r : RunH ps H) (hq : ∀ q ∈ ps, QOk K rules.length q) (hl : ps.length ≤ 90) :
    callN L P (n + 9) 25 [.dat (mD true s rules), .dat (.int (K : Int)), .dat (psD t t1 ps)] m = .ok (.dat (.tuple [.tuple (psL true ps), .tuple (hsD H ps.length)])) m := by
  rw [call_eq P_histories_of rfl]
  have c1 := need_hands_ok (L := L) (n := n + 4) (m := m) k1 k4
  have c2 : callN L P (n + 8) 4 [.dat (psD t t1 ps)] m = .ok (.dat (.bool true)) m := is_sequence_S (L := L) (n := n + 7) (m := m) t (psL t1 ps)
  have hsq : seqU (.dat (psD t t1 ps)) m = .ok (psL t1 ps) m := by cases t <;> rfl
  generalize psD t t1 ps = pv at c2 hsq ⊢
  have key := forGo_inv (body := fun σ m => evSs L (callN L P (n + 8)) b_histories_of_1 σ m) (tg := .nm 3) (psL t1 ps)
    (fun i σ m' => m' = m ∧ ∃ s3, σ = [.v (.dat (mD true s rules)), .v (.dat (.int (K : Int))), .v (.dat pv), s3, .own (psL true (ps.take i)), .own (hsD H i)])
    (fun i d σ m' hd ⟨hm', s3, hσ⟩ => by
      subst hm' hσ
      obtain ⟨q, hqi, rfl⟩ := psL_get hd
      have hi := (List.getElem?_eq_some_iff.mp hqi).1
      have e := r.step i q hqi
      obtain ⟨ho, hlen⟩ := r.ok hq i (by omega)
      have k1 := need_press_ok (L := L) (n := n) (m := m') (t := t1) hm k4 (hq q (List.mem_of_getElem? hqi)) e
      have k2 := behind_ok (L := L) (n := n) (m := m') (by omega) e
      have el1 : ixVal (.list (hsD H i)) (.int (-1)) = some (hD (H i)) := atI_last (hsD_last H i)
      have ep : psL true (ps.take (i + 1)) = psL true (ps.take i) ++ [prD true q] := by rw [take_snoc hqi]; unfold psL; rw [List.map_append]; rfl
      have eh : hsD H (i + 1) = hsD H i ++ [hD (H (i + 1))] := by unfold hsD; rw [List.range_succ, List.map_append]; rfl
      have el2 : ixVal (.list (psL true (ps.take (i + 1)))) (.int (-1)) = some (prD true q) := atI_last (by rw [ep]; simp)
      have z1 : (psL true (ps.take i)).length < sizeLine := by rw [psL_len, List.length_take, sizeLine_eq]; omega
      have z2 : (hsD H i).length < sizeLine := by rw [hsD_len, sizeLine_eq]; omega
      refine ⟨_, [.v (.dat (mD true s rules)), .v (.dat (.int (K : Int))), .v (.dat pv), .v (.dat (prD t1 q)), .own (psL true (ps.take (i + 1))), .own (hsD H (i + 1))], m', rfl, ?_, rfl, _, rfl⟩
      rw [eh]
      rw [ep] at el2 ⊢
      generalize prD true q = u1 at k1 k2 el2 ⊢
      generalize prD t1 q = u2 at k1 ⊢
      generalize hD (H (i + 1)) = u3 at k2 ⊢
      generalize hD (H i) = u4 at k1 k2 el1
      generalize hsD H i = a1 at el1 z2 ⊢
      generalize psL true (ps.take i) = a2 at el2 z1 ⊢
      simp [b_histories_of_1, neg1, el1, k1, app_ok z1, el2, k2, app_ok z2])
    (m := m) (σ := [.v (.dat (mD true s rules)), .v (.dat (.int (K : Int))), .v (.dat pv), .no, .own [], .own [.tuple []]]) ⟨rfl, .no, by
      have : hsD H 0 = [.tuple []] := by unfold hsD; rw [show List.range (0 + 1) = [0] from rfl, List.map_cons, r.zero]; rfl
      rw [this]; rfl⟩
  obtain ⟨σ', m', e1, rfl, s3, rfl⟩ := key
  rw [psL_len, List.take_length] at e1
  have loop : evS L (callN L P (n + 8)) l_histories_of_1 [.v (.dat (mD true s rules)), .v (.dat (.int (K : Int))), .v (.dat pv), .no, .own [], .own [.tuple []]] m' = .ok (.nx, [.v (.dat (mD true s rules)), .v (.dat (.int (K : Int))), .v (.dat pv), s3, .own (psL true ps), .own (hsD H ps.length)]) m' := by
    show evS L _ (.for_ _ _ _) _ _ = _
    simp only [s_forE, it_seq, ev_var, getV_def, List.getElem?_cons_zero, List.getElem?_cons_succ, R.bind_ok, hsq]
    exact e1
  have t1 : b1Val .tuple (.list (psL true ps)) = some (.tuple (psL true ps)) := rfl
  have t2 : b1Val .tuple (.list (hsD H ps.length)) = some (.tuple (hsD H ps.length)) := rfl
  simp [d_histories_of, c1, c2, loop, t1, t2]
section
variable {t t1 tm : Bool} {b s K : Nat} {rules : List (List Nat)} {ps : List Pr} {H : Nat → Hi}
theorem check_presses_ok (hm : MOk b s rules) (k1 : 1 ≤ K) (k4 : K ≤ 4) (r : RunH ps H) (hq : ∀ q ∈ ps, QOk K rules.length q) (hl : ps.length ≤ 90) : callN L P (n + 10) 26 [.dat (mD tm s rules), .dat (.int (K : Int)), .dat (psD t t1 ps)] m = .ok (.dat (.tuple (psL true ps))) m := by
  rw [call_eq P_check_presses rfl]
  have c1 := check_machine_ok (L := L) (n := n + 2) (m := m) tm hm
  have c2 := histories_of_ok (L := L) (n := n) (m := m) (t := t) (t1 := t1) hm k1 k4 r hq hl
  have e : L2.atI [PyData.tuple (psL true ps), .tuple (hsD H ps.length)] 0 = some (.tuple (psL true ps)) := rfl
  generalize psD t t1 ps = pv at c2 ⊢
  generalize mD tm s rules = um at c1 ⊢
  simp [d_check_presses, c1, c2, e]
theorem history_of_ok (hm : MOk b s rules) (k1 : 1 ≤ K) (k4 : K ≤ 4) (r : RunH ps H) (hq : ∀ q ∈ ps, QOk K rules.length q) (hl : ps.length ≤ 90) : callN L P (n + 10) 27 [.dat (mD tm s rules), .dat (.int (K : Int)), .dat (psD t t1 ps)] m = .ok (.dat (hD (H ps.length))) m := by
  rw [call_eq P_history_of rfl]
  have c1 := check_machine_ok (L := L) (n := n + 2) (m := m) tm hm
  have c2 := histories_of_ok (L := L) (n := n) (m := m) (t := t) (t1 := t1) hm k1 k4 r hq hl
  have e : L2.atI [PyData.tuple (psL true ps), .tuple (hsD H ps.length)] 1 = some (.tuple (hsD H ps.length)) := rfl
  have el : L2.atI (hsD H ps.length) (-1) = some (hD (H ps.length)) := atI_last (hsD_last H ps.length)
  generalize psD t t1 ps = pv at c2 ⊢
  generalize mD tm s rules = um at c1 ⊢
  simp [d_history_of, c1, c2, e, neg1, el]
/-- the boards behind each press -/
def bsOf (rules : List (List Nat)) (s : Nat) (H : Nat → Hi) (n : Nat) : List Nat := (List.range (n + 1)).map fun k => runB rules s (H k)
theorem boards_shown_ok (hm : MOk b s rules) (k1 : 1 ≤ K) (k4 : K ≤ 4) (r : RunH ps H) (hq : ∀ q ∈ ps, QOk K rules.length q) (hl : ps.length ≤ 90) : callN L P (n + 11) 28 [.dat (mD tm s rules), .dat (.int (K : Int)), .dat (psD t t1 ps)] m = .ok (.dat (tI (bsOf rules s H ps.length))) m := by
  rw [call_eq P_boards_shown rfl]
  have c1 := check_machine_ok (L := L) (n := n + 3) (m := m) tm hm
  have c2 := histories_of_ok (L := L) (n := n + 1) (m := m) (t := t) (t1 := t1) hm k1 k4 r hq hl
  have e : L2.atI [PyData.tuple (psL true ps), .tuple (hsD H ps.length)] 1 = some (.tuple (hsD H ps.length)) := rfl
  generalize psD t t1 ps = pv at c2 ⊢
  have key : evE (callN L P (n + 10)) c_boards_shown_1 [.v (.dat (mD tm s rules)), .v (.dat (.int (K : Int))), .v (.dat pv), .v (.dat (mD true s rules)), .no] m = .ok (.dat (.list (iD (bsOf rules s H ps.length)))) m := by
    have ei : iD (bsOf rules s H ps.length) = (List.range (ps.length + 1)).map fun k => PyData.int (runB rules s (H k) : Nat) := by unfold iD bsOf; rw [List.map_map]; rfl
    rw [ei]
    refine ev_compM (g := fun k : Nat => hD (H k)) ?_ (by rw [List.length_range]; omega) fun k hk => ?_
    · simp only [it_seq, ev_ix, bA_call, ev_call, ev_cons, ev_nil, ev_var, getV_def, List.getElem?_cons_zero, List.getElem?_cons_succ, R.bind_ok, c2, ev_cst, ixU_dat, ix_T, e, R.dat_some, seqU_tuple]
      rfl
    · obtain ⟨ho, hlen⟩ := r.ok hq k (by have := List.mem_range.mp hk; omega)
      have hk := List.mem_range.mp hk
      have kb := board_of_ok (L := L) (n := n) (m := m) true hm (hok_k ho k4) (by omega)
      refine ⟨_, rfl, ?_⟩
      simp [e_boards_shown_1, kb]
  have et : b1Val .tuple (.list (iD (bsOf rules s H ps.length))) = some (tI (bsOf rules s H ps.length)) := rfl
  generalize hum : mD tm s rules = um at c1 key ⊢
  simp [d_boards_shown, c1, bA_c_boards_shown_1, key, et]
end
end K07

set_option Elab.async false
set_option linter.all false
set_option maxRecDepth 100000
set_option maxHeartbeats 2000000
namespace K07
open PySem PySem.Spec PyProof.Rows L2 Eng
variable {L n : Nat} {m : Mem}
/-! ### struck -/
theorem sortedP_ok (g : Hi) : ∃ g' : Hi, g'.Perm g ∧ b1Val .sorted (.list (hDl g)) = some (.list (hDl g')) := by
  refine ⟨g.mergeSort (fun a b => PySem.W.dataLe false id (pD a) (pD b)), List.mergeSort_perm _ _, ?_⟩
  have hok : sortOk (hDl g) := by
    refine .inr ⟨fun d hd d' hd' => ?_, .inl fun d hd => ?_, fun d hd => ?_⟩
    · obtain ⟨r, _, rfl⟩ := List.mem_map.mp hd
      obtain ⟨r', _, rfl⟩ := List.mem_map.mp hd'
      rfl
    · obtain ⟨r, hr, rfl⟩ := List.mem_map.mp hd
      exact ⟨_, _, rfl⟩
    · obtain ⟨r, _, rfl⟩ := List.mem_map.mp hd
      show (1 : Nat) ≤ 60
      omega
  show @ite _ (sortOk (hDl g)) (Classical.propDecidable _) _ _ = _
  rw [if_pos hok]
  unfold hDl
  rw [PySem.W.sort_maps (s := PySem.W.dataLe false id) pD fun _ _ _ _ => rfl]
/-- the pairs of deeds and backs ahead of k -/
def pk (ps : List Pr) (S : Nat → List I3) (k : Nat) : Hi := ((List.range k).filter (isBack ps)).map fun b => (tk S (handAt ps b) b, b)
def rowsM (S : Nat → List I3) (K k : Nat) : Mem := (List.range K).map fun a => MObj.lst (iD (stk a (S k)))
def memM (m : Mem) (S : Nat → List I3) (K k : Nat) : Mem := (m ++ rowsM S K k) ++ [.refs (List.range' m.length K)]
theorem rowsM_len (S : Nat → List I3) (K k : Nat) : (rowsM S K k).length = K := by unfold rowsM; rw [List.length_map, List.length_range]
theorem memM_row {S : Nat → List I3} {K k a : Nat} (ha : a < K) : (memM m S K k)[m.length + a]? = some (.lst (iD (stk a (S k)))) := by
  unfold memM
  rw [List.append_assoc, List.getElem?_append_right (by omega), Nat.add_sub_cancel_left, List.getElem?_append_left (by rw [rowsM_len]; exact ha)]
  unfold rowsM
  rw [List.getElem?_map, List.getElem?_range ha]; rfl
theorem memM_refs {S : Nat → List I3} {K k : Nat} : (memM m S K k)[m.length + K]? = some (.refs (List.range' m.length K)) := by
  unfold memM
  rw [List.getElem?_append_right (by rw [List.length_append, rowsM_len]; exact Nat.le_refl _), List.length_append, rowsM_len, Nat.sub_self]; rfl
theorem memM_set {S : Nat → List I3} {K k a : Nat} {x : List Nat} (ha : a < K) (h1 : stk a (S (k + 1)) = x) (h2 : ∀ b, b ≠ a → stk b (S (k + 1)) = stk b (S k)) : (memM m S K k).set (m.length + a) (.lst (iD x)) = memM m S K (k + 1) := by
  unfold memM
  rw [List.append_assoc, List.set_append_right _ _ (by omega), Nat.add_sub_cancel_left, List.set_append_left _ _ (by rw [rowsM_len]; exact ha), List.append_assoc]
  congr 2
  apply List.ext_getElem?
  intro i
  unfold rowsM
  rw [List.getElem?_set]
  by_cases hi : a = i
  · subst hi
    rw [if_pos rfl, if_pos (by rw [List.length_map, List.length_range]; exact ha), List.getElem?_map, List.getElem?_range ha, ← h1]; rfl
  · rw [if_neg hi]
    by_cases hK : i < K
    · rw [List.getElem?_map, List.getElem?_map, List.getElem?_range hK]
      show some (MObj.lst (iD (stk i (S k)))) = some (MObj.lst (iD (stk i (S (k + 1)))))
      rw [h2 i fun z => hi z.symm]
    · rw [List.getElem?_eq_none (by rw [List.length_map, List.length_range]; omega), List.getElem?_eq_none (by rw [List.length_map, List.length_range]; omega)]
theorem pk_snoc (ps : List Pr) (S : Nat → List I3) (k : Nat) : pk ps S (k + 1) = pk ps S k ++ (if isBack ps k = true then [(tk S (handAt ps k) k, k)] else []) := by
  unfold pk
  rw [List.range_succ, List.filter_append, List.map_append]
  by_cases h : isBack ps k = true
  · rw [if_pos h, List.filter_cons_of_pos h]; rfl
  · rw [if_neg h, List.filter_cons_of_neg h]; rfl
theorem pk_len (ps : List Pr) (S : Nat → List I3) (k : Nat) : (pk ps S k).length ≤ k := by
  unfold pk
  rw [List.length_map]
  exact Nat.le_trans (List.length_filter_le _ _) (by rw [List.length_range]; exact Nat.le_refl _)
theorem iD_dropLast (l : List Nat) : (iD l).dropLast = iD l.dropLast := by unfold iD; rw [List.map_dropLast]
theorem iD_last (l : List Nat) : (iD l).getLast? = l.getLast?.map fun (x : Nat) => PyData.int (x : Int) := by unfold iD; rw [List.getLast?_map]
section
variable {t t1 tm : Bool} {b s K : Nat} {rules : List (List Nat)} {ps : List Pr} {S : Nat → List I3}
theorem struck_turn {C : Calls} {u0 u1 u2 : U} {s8 : Sl} {k : Nat} {q : Pr} {line : PyData} (r : RunI ps S) (hk : ps[k]? = some q) (hqK : q.1 < K) (hl : ps.length ≤ 90) :
    ∃ s8', evSs L C b_struck_1 [.v u0, .v u1, .v u2, .v (.ref (m.length + K)), .v (.dat line), .own (hDl (pk ps S k)), .v (.dat (.int (k : Int))), .v (.dat (prD true q)), s8, .no] (memM m S K k) =
      .ok (.nx, [.v u0, .v u1, .v u2, .v (.ref (m.length + K)), .v (.dat line), .own (hDl (pk ps S (k + 1))), .v (.dat (.int (k : Int))), .v (.dat (prD true q)), s8', .no]) (memM m S K (k + 1)) := by
  obtain ⟨a, d⟩ := q
  have hkl := (List.getElem?_eq_some_iff.mp hk).1
  have hqK : a < K := hqK
  have e1 : ixVal (prD true (a, d)) (.int 1) = some (.int a) := by cases d <;> exact atI_1 _ _ _
  have er : ixU (.ref (m.length + K)) (.dat (.int (a : Int))) (memM m S K k) = .ok (.ref (m.length + a)) (memM m S K k) := by
    have ea : L2.atI (List.range' m.length K) (a : Int) = some (m.length + a) := L2.atI_nat (by rw [List.getElem?_range' hqK]; simp)
    simp only [ixU, memM_refs, ea]
  have hrow := memM_row (m := m) (S := S) (K := K) (k := k) hqK
  cases d with
  | some d =>
    have e0 : ixVal (prD true (a, some d)) (.int 0) = some (.str "deed") := atI_0 _ _
    have hb : isBack ps k = false := by unfold isBack; rw [hk]
    have hst : ∀ b, stk b (S (k + 1)) = if a = b then stk b (S k) ++ [k] else stk b (S k) := fun b => by rw [r.deed hk, stk_deed]
    have hset := memM_set (m := m) (S := S) (K := K) (k := k) (x := stk a (S k) ++ [k]) hqK (by rw [hst, if_pos rfl]) fun b hb => by rw [hst, if_neg fun z => hb z.symm]
    have hlen : (stk a (S k)).length < sizeLine := by
      have g := (r.good k (by omega)).asc
      have h1 : (stk a (S k)).length ≤ (S k).length := by unfold stk; rw [List.length_map]; exact List.length_filter_le _ _
      have h3 : (S k).length ≤ k := by
        have := EngU.cap_len ((S k).map fun x : I3 => x.1) (List.range k) (g.imp fun h => Nat.ne_of_lt h) fun i hi => by
          obtain ⟨x, hx, rfl⟩ := List.mem_map.mp hi
          exact List.mem_range.mpr ((r.good k (by omega)).low x hx).1
        rwa [List.length_map, List.length_range] at this
      rw [sizeLine_eq]; omega
    have happ : appMGo [.v u0, .v u1, .v u2, .v (.ref (m.length + K)), .v (.dat line), .own (hDl (pk ps S k)), .v (.dat (.int (k : Int))), .v (.dat (prD true (a, some d))), .v (.ref (m.length + a)), .no] (m.length + a) (.dat (.int (k : Int))) (memM m S K k) = .ok (.nx, [.v u0, .v u1, .v u2, .v (.ref (m.length + K)), .v (.dat line), .own (hDl (pk ps S k)), .v (.dat (.int (k : Int))), .v (.dat (prD true (a, some d))), .v (.ref (m.length + a)), .no]) (memM m S K (k + 1)) := by
      simp only [appMGo, hrow]
      rw [if_pos (by rw [iD_len]; exact hlen)]
      have : iD (stk a (S k)) ++ [PyData.int (k : Int)] = iD (stk a (S k) ++ [k]) := by unfold iD; rw [List.map_append]; rfl
      rw [this, hset]
    refine ⟨.v (.ref (m.length + a)), ?_⟩
    rw [pk_snoc, hb, if_neg (by simp), List.append_nil]
    generalize hDl (pk ps S k) = acc at happ ⊢
    generalize prD true (a, some d) = pv at e0 e1 happ ⊢
    simp only [b_struck_1, s_cons, s_asgE, ev_ix, bA_var, ev_var, getV_def, List.getElem?_cons_zero, List.getElem?_cons_succ, R.bind_ok, ev_cst, ixU_dat, e1, R.dat_some, er, setE_def, List.length_cons, List.length_nil, List.set_cons_succ, List.set_cons_zero]
    simp [e0, eq_dd, hrow, happ]
  | none =>
    have e0 : ixVal (prD true (a, none)) (.int 0) = some (.str "back") := atI_0 _ _
    have hb : isBack ps k = true := by unfold isBack; rw [hk]
    have hh : handAt ps k = a := by unfold handAt; rw [hk]
    have e := r.step k _ hk
    simp only [doI] at e
    split at e
    case isFalse => cases e
    rename_i hc
    injection e with e
    obtain ⟨x, h1, _, _⟩ := stk_back (a := a) hc
    have htk : tk S a k = x := by unfold tk; rw [h1]; simp
    rw [e] at h1
    have hset := memM_set (m := m) (S := S) (K := K) (k := k) (x := stk a (S (k + 1))) hqK rfl fun b' hb' => by
      obtain ⟨_, _, h2, _⟩ := stk_back (a := b') hc
      rw [← e]; exact h2 hb'
    have hpop : popMGo [.v u0, .v u1, .v u2, .v (.ref (m.length + K)), .v (.dat line), .own (hDl (pk ps S k)), .v (.dat (.int (k : Int))), .v (.dat (prD true (a, none))), .v (.ref (m.length + a)), .no] 8 (memM m S K k) = .ok (.dat (.int (x : Int))) (memM m S K (k + 1)) := by
      simp only [popMGo, List.getElem?_cons_zero, List.getElem?_cons_succ, hrow]
      rw [iD_last, h1]
      simp only [List.getLast?_append, List.getLast?_singleton, Option.or_some, Option.map_some, Option.some_or]
      rw [iD_dropLast, List.dropLast_concat, hset]
    have hz : (hDl (pk ps S k)).length < sizeLine := by rw [hDl_len, sizeLine_eq]; have := pk_len ps S k; omega
    have ep : hDl (pk ps S (k + 1)) = hDl (pk ps S k) ++ [.tuple [.int (x : Int), .int (k : Int)]] := by
      rw [pk_snoc, hb, if_pos rfl, hh, htk]; unfold hDl; rw [List.map_append]; rfl
    refine ⟨.v (.ref (m.length + a)), ?_⟩
    rw [ep]
    generalize hDl (pk ps S k) = acc at hpop hz ⊢
    generalize prD true (a, none) = pv at e0 e1 hpop ⊢
    simp only [b_struck_1, s_cons, s_asgE, ev_ix, bA_var, ev_var, getV_def, List.getElem?_cons_zero, List.getElem?_cons_succ, R.bind_ok, ev_cst, ixU_dat, e1, R.dat_some, er, setE_def, List.length_cons, List.length_nil, List.set_cons_succ, List.set_cons_zero]
    simp [e0, eq_bd, hpop, app_ok hz]
theorem struck_ok (hm : MOk b s rules) (k1 : 1 ≤ K) (k4 : K ≤ 4) (r : RunI ps S) (hq : ∀ q ∈ ps, QOk K rules.length q) (hl : ps.length ≤ 90) : ∃ m', ∀ g : Hi, b1Val .sorted (.list (hDl (pk ps S ps.length))) = some (.list (hDl g)) →
    callN L P (n + 11) 29 [.dat (mD tm s rules), .dat (.int (K : Int)), .dat (psD t t1 ps)] m = .ok (.dat (hD g)) (m ++ m') := by
  refine ⟨rowsM S K ps.length ++ [.refs (List.range' m.length K)], fun g hg => ?_⟩
  rw [call_eq P_struck rfl]
  have c1 := check_presses_ok (L := L) (n := n) (m := m) (t := t) (t1 := t1) (tm := tm) hm k1 k4 r.toH hq hl
  have hnew : rsGo (.nm 9) ([.v (.dat (mD tm s rules)), .v (.dat (.int (K : Int))), .v (.dat (psD t t1 ps)), .no, .v (.dat (.tuple (psL true ps))), .own [], .no, .no, .no, .no]) (rngD 0 K) m = .ok (.ref (m.length + K)) (memM m S K 0) := by
    refine (if_pos fun d hd => ⟨_, rfl⟩).trans ?_
    rw [rng_len]
    congr 1
    unfold memM rowsM
    have : List.replicate K (MObj.lst []) = (List.range K).map fun a => MObj.lst (iD (stk a (S 0))) := by
      rw [r.zero]
      apply List.ext_getElem?
      intro i
      by_cases hi : i < K
      · rw [List.getElem?_replicate, if_pos hi, List.getElem?_map, List.getElem?_range hi]; rfl
      · rw [List.getElem?_eq_none (by rw [List.length_replicate]; omega), List.getElem?_eq_none (by rw [List.length_map, List.length_range]; omega)]
    rw [this]
  have key := forGo_inv (body := fun σ m => evSs L (callN L P (n + 10)) b_struck_1 σ m) (tg := .tp [.nm 6, .nm 7]) (enumD 0 (psL true ps))
    (fun i σ m' => m' = memM m S K i ∧ ∃ s6 s7 s8, σ = [.v (.dat (mD tm s rules)), .v (.dat (.int (K : Int))), .v (.dat (psD t t1 ps)), .v (.ref (m.length + K)), .v (.dat (.tuple (psL true ps))), .own (hDl (pk ps S i)), s6, s7, s8, .no])
    (fun i d σ m' hd ⟨hm', s6, s7, s8, hσ⟩ => by
      subst hm' hσ
      obtain ⟨x, h1, rfl⟩ := Eng.enum_get hd
      obtain ⟨q, hqi, rfl⟩ := psL_get h1
      rw [Nat.zero_add]
      obtain ⟨s8', ht⟩ := struck_turn (L := L) (C := callN L P (n + 10)) (m := m) (K := K) (u0 := .dat (mD tm s rules)) (u1 := .dat (.int (K : Int))) (u2 := .dat (psD t t1 ps)) (s8 := s8) (line := .tuple (psL true ps)) r hqi (hq q (List.mem_of_getElem? hqi)).1 hl
      exact ⟨_, _, _, rfl, ht, rfl, _, _, _, rfl⟩)
    (m := memM m S K 0) (σ := [.v (.dat (mD tm s rules)), .v (.dat (.int (K : Int))), .v (.dat (psD t t1 ps)), .v (.ref (m.length + K)), .v (.dat (.tuple (psL true ps))), .own [], .no, .no, .no, .no]) ⟨rfl, .no, .no, .no, rfl⟩
  obtain ⟨σ', m', h1, rfl, s6, s7, s8, rfl⟩ := key
  rw [enum_len, psL_len] at h1
  have loop : evS L (callN L P (n + 10)) l_struck_1 [.v (.dat (mD tm s rules)), .v (.dat (.int (K : Int))), .v (.dat (psD t t1 ps)), .v (.ref (m.length + K)), .v (.dat (.tuple (psL true ps))), .own [], .no, .no, .no, .no] (memM m S K 0) = .ok (.nx, [.v (.dat (mD tm s rules)), .v (.dat (.int (K : Int))), .v (.dat (psD t t1 ps)), .v (.ref (m.length + K)), .v (.dat (.tuple (psL true ps))), .own (hDl (pk ps S ps.length)), s6, s7, s8, .no]) (memM m S K ps.length) := by
    show evS L _ (.for_ _ _ _) _ _ = _
    simp only [s_forE, it_enum, ev_var, getV_def, List.getElem?_cons_zero, List.getElem?_cons_succ, R.bind_ok, seqU_tuple, enumU]
    exact h1
  have et : b1Val .tuple (.list (hDl g)) = some (hD g) := rfl
  have emem : m ++ (rowsM S K ps.length ++ [.refs (List.range' m.length K)]) = memM m S K ps.length := by unfold memM; rw [List.append_assoc]
  rw [emem]
  have hr := rng1_nat (k := K) (m := m) (by omega)
  have hzr : sizeU (rngD 0 K) m = .ok (rngD 0 K) m := sizeU_ok (by rw [rng_len]; exact small1001 (by omega))
  generalize psD t t1 ps = pv at c1 hnew loop ⊢
  generalize mD tm s rules = um at c1 hnew loop ⊢
  generalize PyData.tuple (psL true ps) = lv at c1 hnew loop
  simp only [d_struck, s_cons, s_par2oE, ev_call, ev_cons, ev_nil, ev_var, getV_def, List.map_cons, List.map_nil, List.length_cons, List.length_nil, List.cons_append, List.nil_append, Nat.reduceSub, List.replicate, List.getElem?_cons_zero, List.getElem?_cons_succ, R.bind_ok, c1, ev_lst, asLst_def, datL_nil, Option.map_some, R.dat_some]
  simp [hr, hzr, hnew, loop, hg, et]
end
end K07

set_option Elab.async false
set_option linter.all false
set_option maxRecDepth 100000
set_option maxHeartbeats 2000000
namespace K07
open PySem PySem.Spec PyProof.Rows L2 Eng
variable {L n : Nat} {m : Mem}
/-! ### the law's helpers -/
theorem notin_nat {l : List Nat} {x : Nat} : cmpVal .notin (.int (x : Int)) (.list (iD l)) = some (.bool (!decide (x ∈ l))) := by
  have hc : PyData.canLayAll0 (iD l) = true := by
    induction l with
    | nil => rfl
    | cons y l ih => show (PyData.canLay0 (.int (y : Int)) && PyData.canLayAll0 (iD l)) = true; rw [ih]; rfl
  have e : cmpVal .notin (.int (x : Int)) (.list (iD l)) = if (PyData.int (x : Int)).canLay0 = true ∧ PyData.canLayAll0 (iD l) = true ∧ (PyData.int (x : Int)).depth ≤ 60 then some (.bool (!(iD l).any fun z => PyData.eqv z (.int (x : Int)))) else none := rfl
  rw [e, if_pos ⟨rfl, hc, by show (0 : Nat) ≤ 60; omega⟩]
  congr 3
  unfold iD
  rw [List.any_map, Bool.eq_iff_iff, List.any_eq_true, decide_eq_true_eq]
  constructor
  · rintro ⟨y, hy, q⟩
    have q' : (decide ((y : Int) = (x : Int))) = true := q
    rw [decide_eq_true_eq] at q'
    have : y = x := by omega
    rw [← this]; exact hy
  · intro h
    exact ⟨x, h, by show (decide ((x : Int) = (x : Int))) = true; simp⟩
theorem walk_ok {b s K : Nat} {rules : List (List Nat)} {h : Hi} (hm : MOk b s rules) (ho : HOk K rules.length h) : callN L P (n + 1) 37 [.dat (mD true s rules), .dat (hD h)] m = .ok (.dat (.int (runB rules s h : Nat))) m := by
  rw [call_eq P__law_walk rfl]
  have key := forGo_inv (body := fun σ m => evSs L (callN L P n) b__law_walk_1 σ m) (tg := .tp [.nm 3, .nm 4]) (hDl h) (fun i σ m' => m' = m ∧ ∃ s3 s4, σ = [.v (.dat (mD true s rules)), .v (.dat (hD h)), .v (.dat (.int (runB rules s (h.take i) : Nat))), s3, s4])
    (fun i d σ m' hd ⟨hm', s3, s4, hσ⟩ => by
      subst hm' hσ
      unfold hDl at hd
      rw [List.getElem?_map, Option.map_eq_some_iff] at hd
      obtain ⟨⟨a, d⟩, hp, rfl⟩ := hd
      have hpo := ho _ (List.mem_of_getElem? hp)
      have hx : runB rules s (h.take i) < b := runB_lt hm (K := K) hm.sb fun q hq => ho q (List.mem_of_mem_take hq)
      obtain ⟨k1, k2, k3⟩ := step_lt hm hpo.2 hx
      have er : runB rules s (h.take (i + 1)) = stepR rules d (runB rules s (h.take i)) := by
        rw [take_snoc hp]; unfold runB; rw [List.foldl_append]; rfl
      rw [er]
      generalize runB rules s (h.take i) = x at *
      have e2 : ixVal (mD true s rules) (.int 1) = some (.tuple (rD rules)) := rfl
      refine ⟨_, [.v (.dat (mD true s rules)), .v (.dat (hD h)), .v (.dat (.int (stepR rules d x : Nat))), .v (.dat (.int a)), .v (.dat (.int d))], m', rfl, ?_, rfl, _, _, rfl⟩
      simp only [b__law_walk_1, s_cons, s_asgE, ev_ix, bA_ix, bA_var, ev_var, getV_def, List.set_cons_succ, List.set_cons_zero, List.getElem?_cons_zero, List.getElem?_cons_succ, R.bind_ok, ev_cst, ixU_dat, e2, R.dat_some, k2, k3, setE_def, List.length_cons, List.length_nil, then_nx, s_nil]
      rfl)
    (m := m) (σ := [.v (.dat (mD true s rules)), .v (.dat (hD h)), .v (.dat (.int (s : Int))), .no, .no]) ⟨rfl, .no, .no, rfl⟩
  obtain ⟨σ', m', h1, rfl, s3, s4, rfl⟩ := key
  rw [hDl_len, List.take_length] at h1
  have loop : evS L (callN L P n) l__law_walk_1 [.v (.dat (mD true s rules)), .v (.dat (hD h)), .v (.dat (.int (s : Int))), .no, .no] m' = .ok (.nx, [.v (.dat (mD true s rules)), .v (.dat (hD h)), .v (.dat (.int (runB rules s h : Nat))), s3, s4]) m' := by
    show evS L _ (.for_ _ _ _) _ _ = _
    simp only [s_forE, it_seq, ev_var, getV, List.getElem?_cons_zero, List.getElem?_cons_succ, R.bind_ok, hD, seqU_tuple]
    exact h1
  have e0 : ixVal (mD true s rules) (.int 0) = some (.int s) := rfl
  simp [d__law_walk, e0, loop]
theorem psL_at {t1 : Bool} {ps : List Pr} {i : Nat} {q : Pr} (h : ps[i]? = some q) : ixVal (psD false t1 ps) (.int (i : Int)) = some (prD t1 q) := by
  show L2.atI (psL t1 ps) (i : Int) = _
  exact atI_nat (by unfold psL; rw [List.getElem?_map, h]; rfl)
theorem pr_1 (q : Pr) : ixVal (prD true q) (.int 1) = some (.int (q.1 : Nat)) := by
  obtain ⟨a, d⟩ := q
  cases d <;> exact atI_1 _ _ _
theorem pr_0 (q : Pr) : ixVal (prD true q) (.int 0) = some (.str (if q.2.isSome = true then "deed" else "back")) := by
  obtain ⟨a, d⟩ := q
  cases d <;> exact atI_0 _ _
section
variable {ps : List Pr} {S : Nat → List I3}
theorem eq_kind (q : Pr) : cmpVal .eq (.str (if q.2.isSome = true then "deed" else "back")) (.str "back") = some (.bool (!q.2.isSome)) := by
  obtain ⟨a, d⟩ := q
  cases d
  · exact eq_bb
  · exact eq_db
theorem eq_kindD (q : Pr) : cmpVal .eq (.str (if q.2.isSome = true then "deed" else "back")) (.str "deed") = some (.bool q.2.isSome) := by
  obtain ⟨a, d⟩ := q
  cases d
  · exact eq_bd
  · exact eq_dd
theorem taken_loop {C : Calls} {k a : Nat} {dk : Option Nat} (hk : ps[k]? = some (a, dk)) : ∀ (j o : Nat) (s3 s4 : Sl), j ≤ k → ∃ σ', forGo (fun σ m => evSs L C b__law_taken_1 σ m) (.nm 3) ((List.range' (k - j + 1) j).map fun (x : Nat) => PyData.int (x : Int)) [.v (.dat (psD false true ps)), .v (.dat (.int (k : Int))), .v (.dat (.int (o : Int))), s3, s4] m =
    .ok (match tkGo ps a j o with | some x => .ret (.dat (.int (x : Int))) | none => .nx, σ') m
  | 0, o, s3, s4, _ => ⟨_, rfl⟩
  | j + 1, o, s3, s4, hj => by
    have hkl := (List.getElem?_eq_some_iff.mp hk).1
    have hq := List.getElem?_eq_getElem (l := ps) (i := j) (by omega)
    obtain ⟨q, hqq⟩ : ∃ q, q = ps[j] := ⟨_, rfl⟩
    rw [← hqq] at hq
    have e1 := psL_at (t1 := true) hq
    have e2 := psL_at (t1 := true) hk
    have eh : handAt ps j = q.1 := by unfold handAt; rw [hq]
    have eb : isBack ps j = !q.2.isSome := by
      unfold isBack; rw [hq]
      obtain ⟨b, d⟩ := q
      cases d <;> rfl
    have er : (List.range' (k - (j + 1) + 1) (j + 1)).map (fun (x : Nat) => PyData.int (x : Int)) = .int ((k - j : Nat) : Int) :: (List.range' (k - j + 1) j).map fun (x : Nat) => PyData.int (x : Int) := by
      rw [show k - (j + 1) + 1 = k - j by omega]; rfl
    have hsub : (k : Int) - ((k - j : Nat) : Int) = (j : Int) := by omega
    have p1 := pr_1 q
    have p0 := pr_0 q
    have p2 := pr_1 (a, dk)
    have ek := eq_kind q
    rw [er]
    show ∃ σ', forGo _ _ _ _ _ = .ok (match (if handAt ps j = a then (if isBack ps j = true then tkGo ps a j (o + 1) else if o = 0 then some j else tkGo ps a j (o - 1)) else tkGo ps a j o) with | some x => .ret (.dat (.int (x : Int))) | none => .nx, σ') m
    unfold forGo
    simp only [asgTg_nm, List.length_cons, List.length_nil, Nat.reduceAdd, Nat.reduceLT, if_true, List.set_cons_succ, List.set_cons_zero]
    have b0 : evSs L C b__law_taken_1 [.v (.dat (psD false true ps)), .v (.dat (.int (k : Int))), .v (.dat (.int (o : Int))), .v (.dat (.int ((k - j : Nat) : Int))), s4] m =
        if handAt ps j = a then (if isBack ps j = true then .ok (.nx, [.v (.dat (psD false true ps)), .v (.dat (.int (k : Int))), .v (.dat (.int ((o + 1 : Nat) : Int))), .v (.dat (.int ((k - j : Nat) : Int))), .v (.dat (prD true q))]) m else if o = 0 then .ok (.ret (.dat (.int (j : Int))), [.v (.dat (psD false true ps)), .v (.dat (.int (k : Int))), .v (.dat (.int (o : Int))), .v (.dat (.int ((k - j : Nat) : Int))), .v (.dat (prD true q))]) m else .ok (.nx, [.v (.dat (psD false true ps)), .v (.dat (.int (k : Int))), .v (.dat (.int ((o - 1 : Nat) : Int))), .v (.dat (.int ((k - j : Nat) : Int))), .v (.dat (prD true q))]) m)
        else .ok (.nx, [.v (.dat (psD false true ps)), .v (.dat (.int (k : Int))), .v (.dat (.int (o : Int))), .v (.dat (.int ((k - j : Nat) : Int))), .v (.dat (prD true q))]) m := by
      rw [eh, eb]
      generalize prD true q = u1 at *
      generalize prD true (a, dk) = u2 at *
      generalize psD false true ps = u3 at *
      generalize hkj : ((k - j : Nat) : Int) = kj at hsub ⊢
      by_cases h1 : q.1 = a
      · have h1' : cmpVal .eq (.int (q.1 : Nat)) (.int ((a, dk).1 : Nat)) = some (.bool true) := by rw [cv_eqI, h1]; simp
        rw [if_pos h1]
        cases hs : q.2.isSome with
        | true =>
          rw [hs] at ek p0
          by_cases h2 : o = 0
          · subst h2
            simp [b__law_taken_1, hsub, e1, p1, e2, p2, -cv_eqI, h1', p0, eq_db, cv_eqI]
          · have h2' : cmpVal .eq (.int (o : Int)) (.int 0) = some (.bool false) := by rw [cv_eqI]; simp; omega
            have h3 : (o : Int) - 1 = ((o - 1 : Nat) : Int) := by omega
            rw [if_neg (by simp), if_neg h2]
            simp [b__law_taken_1, hsub, e1, p1, e2, p2, -cv_eqI, h1', p0, eq_db, h2', h3]
        | false =>
          rw [hs] at ek p0
          simp [b__law_taken_1, hsub, e1, p1, e2, p2, -cv_eqI, h1', p0, eq_bb]
      · have h1' : cmpVal .eq (.int (q.1 : Nat)) (.int ((a, dk).1 : Nat)) = some (.bool false) := by rw [cv_eqI]; simp; omega
        rw [if_neg h1]
        simp [b__law_taken_1, hsub, e1, p1, e2, p2, -cv_eqI, h1']
    rw [b0]
    by_cases h1 : handAt ps j = a
    · simp only [if_pos h1]
      cases hs : isBack ps j with
      | true =>
        simp only [if_true, R.bind_ok]
        exact taken_loop hk j (o + 1) _ _ (by omega)
      | false =>
        by_cases h2 : o = 0
        · simp only [Bool.false_eq_true, if_false, if_pos h2, R.bind_ok]
          exact ⟨_, rfl⟩
        · simp only [Bool.false_eq_true, if_false, if_neg h2, R.bind_ok]
          exact taken_loop hk j (o - 1) _ _ (by omega)
    · simp only [if_neg h1, R.bind_ok]
      exact taken_loop hk j o _ _ (by omega)
theorem taken_ok (r : RunI ps S) {k a : Nat} (hk : ps[k]? = some (a, none)) (hl : ps.length ≤ 90) : callN L P (n + 1) 35 [.dat (psD false true ps), .dat (.int (k : Int))] m = .ok (.dat (.int (tk S a k : Nat))) m := by
  rw [call_eq P__law_taken rfl]
  have hkl := (List.getElem?_eq_some_iff.mp hk).1
  obtain ⟨σ', h⟩ := taken_loop (L := L) (C := callN L P n) (m := m) hk k 0 .no .no (Nat.le_refl _)
  rw [tkGo_tk r hk] at h
  have hr : rng2U 1 ((k : Int) + 1) m = .ok ((List.range' (k - k + 1) k).map fun (x : Nat) => PyData.int (x : Int)) m := by
    refine (if_pos ⟨by omega, by omega, by omega, by omega⟩).trans ?_
    rw [show ((k : Int) + 1 - 1).toNat = k by omega]
    congr 1
    unfold rngD
    apply List.ext_getElem?
    intro i
    by_cases hi : i < k
    · rw [List.getElem?_map, List.getElem?_range hi, List.getElem?_map, List.getElem?_range' hi]
      simp only [Option.map_some]
      congr 2
      omega
    · rw [List.getElem?_eq_none (by rw [List.length_map, List.length_range]; omega), List.getElem?_eq_none (by rw [List.length_map, List.length_range']; omega)]
  have loop : evS L (callN L P n) l__law_taken_1 [.v (.dat (psD false true ps)), .v (.dat (.int (k : Int))), .v (.dat (.int 0)), .no, .no] m = .ok (.ret (.dat (.int (tk S a k : Nat))), σ') m := by
    show evS L _ (.for_ _ _ _) _ _ = _
    simp only [s_forE, it_rng2, ev_cst, ev_bin, bA_var, bA_cst, ev_var, getV_def, List.getElem?_cons_zero, List.getElem?_cons_succ, R.bind_ok, asInt_int, d2_dat, bv_addI, R.dat_some, hr]
    exact h
  simp [d__law_taken, loop]
end
end K07

set_option Elab.async false
set_option linter.all false
set_option maxRecDepth 100000
set_option maxHeartbeats 2000000
namespace K07
open PySem PySem.Spec PyProof.Rows L2 Eng
variable {L n : Nat} {m : Mem}
section
variable {ps : List Pr} {S : Nat → List I3}
theorem isBack_of {i : Nat} {q : Pr} (h : ps[i]? = some q) : isBack ps i = !q.2.isSome := by
  unfold isBack; rw [h]
  obtain ⟨b, d⟩ := q
  cases d <;> rfl
theorem isDeed_of {i : Nat} {q : Pr} (h : ps[i]? = some q) : isDeed ps i = q.2.isSome := by
  unfold isDeed; rw [h]
  obtain ⟨b, d⟩ := q
  cases d <;> rfl
theorem standing_ok (r : RunI ps S) {k : Nat} (hk : k ≤ ps.length) (hl : ps.length ≤ 90) : callN L P (n + 2) 36 [.dat (psD false true ps), .dat (.int (k : Int))] m = .ok (.dat (hD (hist (S k)))) m := by
  rw [call_eq P__law_standing rfl]
  have hr := rng1_nat (k := k) (m := m) (by omega)
  rw [rng0] at hr
  have key1 : evE (callN L P (n + 1)) c__law_standing_1 [.v (.dat (psD false true ps)), .v (.dat (.int (k : Int))), .no, .no] m = .ok (.dat (.list (iD (gone ps S k)))) m := by
    have e : iD (gone ps S k) = ((List.range k).filter (isBack ps)).map fun b => PyData.int (tk S (handAt ps b) b : Nat) := by unfold iD gone; rw [List.map_map]; rfl
    rw [e]
    refine ev_compF (g := fun x : Nat => PyData.int (x : Int)) rfl ?_ (by rw [List.length_range]; omega) fun b hb => ?_
    · simp only [it_rng1, ev_var, getV_def, List.getElem?_cons_zero, List.getElem?_cons_succ, R.bind_ok, asInt_int, hr]
    · have hb := List.mem_range.mp hb
      have hq := List.getElem?_eq_getElem (l := ps) (i := b) (by omega)
      obtain ⟨q, hqq⟩ : ∃ q, q = ps[b] := ⟨_, rfl⟩
      rw [← hqq] at hq
      have e1 := psL_at (t1 := true) hq
      have p0 := pr_0 q
      have ek := eq_kind q
      rw [isBack_of hq]
      refine ⟨_, rfl, ?_, fun hbk => ?_⟩
      · generalize prD true q = u1 at *
        generalize psD false true ps = u3 at *
        simp only [t__law_standing_1, wipeE_cons, wipeE_nil, List.map_cons, List.map_nil, List.set_cons_succ, List.set_cons_zero, ev_cmp, bA_ix, ev_ix, bA_var, bA_cst, ev_var, ev_cst, getV_def, List.getElem?_cons_zero, List.getElem?_cons_succ, R.bind_ok, ixU_dat, e1, R.dat_some, p0, d2_dat, ek]
      · obtain ⟨a, d⟩ := q
        cases d with
        | some d => simp at hbk
        | none =>
          have kt := taken_ok (L := L) (n := n) (m := m) r hq hl
          have hh : handAt ps b = a := by unfold handAt; rw [hq]
          rw [hh]
          simp [e__law_standing_1, kt]
  have key2 : evE (callN L P (n + 1)) c__law_standing_2 [.v (.dat (psD false true ps)), .v (.dat (.int (k : Int))), .v (.dat (.list (iD (gone ps S k)))), .no] m = .ok (.dat (.list (hDl (hist (S k))))) m := by
    have e : hDl (hist (S k)) = ((List.range k).filter fun i => isDeed ps i && !decide (i ∈ gone ps S k)).map fun i => pD (letAt ps i) := by rw [r.hist_eq hk]; unfold hDl; rw [List.map_map]; rfl
    rw [e]
    refine ev_compF (g := fun x : Nat => PyData.int (x : Int)) rfl ?_ (by rw [List.length_range]; omega) fun b hb => ?_
    · simp only [it_rng1, ev_var, getV_def, List.getElem?_cons_zero, List.getElem?_cons_succ, R.bind_ok, asInt_int, hr]
    · have hb := List.mem_range.mp hb
      have hq := List.getElem?_eq_getElem (l := ps) (i := b) (by omega)
      obtain ⟨q, hqq⟩ : ∃ q, q = ps[b] := ⟨_, rfl⟩
      rw [← hqq] at hq
      have e1 := psL_at (t1 := true) hq
      have p0 := pr_0 q
      have ek := eq_kindD q
      have en := notin_nat (l := gone ps S k) (x := b)
      refine ⟨_, rfl, ?_, fun hbk => ?_⟩
      · rw [isDeed_of hq]
        generalize prD true q = u1 at *
        generalize psD false true ps = u3 at *
        generalize iD (gone ps S k) = u4 at *
        cases hs : q.2.isSome with
        | true =>
          rw [hs] at ek p0
          simp [t__law_standing_2, e1, p0, eq_dd, en]
        | false =>
          rw [hs] at ek p0
          simp [t__law_standing_2, e1, p0, eq_bd]
      · rw [Bool.and_eq_true] at hbk
        obtain ⟨a, d, hd⟩ := isDeed_iff.mp hbk.1
        rw [hq] at hd
        cases hd
        have hlt : letAt ps b = (a, d) := by unfold letAt; rw [hq]
        have esl : slVal (prD true (a, some d)) (some 1) none = some (pD (a, d)) := cutP_hi (xs := [.str "deed", .int a, .int d]) (a := 1) (by simp)
        rw [hlt]
        generalize prD true (a, some d) = u1 at *
        generalize psD false true ps = u3 at *
        simp [e__law_standing_2, e1, esl]
  have et : b1Val .tuple (.list (hDl (hist (S k)))) = some (hD (hist (S k))) := rfl
  generalize psD false true ps = u3 at *
  simp [d__law_standing, key1, bA_c__law_standing_2, key2, et]
end
/-! drawn machines -/
theorem pick_int {q : Nat} {xs : List Int} (hB : Bx q m) (hn : xs ≠ []) (hl : xs.length ≤ 1000) : ∃ (i : Int) (m' : Mem), i ∈ xs ∧ callN L P (n + 2) 32 [.ref q, .dat (.list (xs.map .int))] m = .ok (.dat (.int i)) m' ∧ Bx q m' := by
  obtain ⟨d, m', h1, h2, h3⟩ := pick_box (L := L) (n := n) (xs := xs.map .int) hB (by simpa using hn) (by rw [List.length_map]; exact hl)
  obtain ⟨i, hi, rfl⟩ := List.mem_map.mp h1
  exact ⟨i, m', hi, h2, h3⟩
theorem mrow_ok {q k : Nat} {s2 s3 s4 s5 : Sl} (hB : Bx q m) (hk : 1 ≤ k) (hk2 : k ≤ 1000) : ∃ (r : List Nat) (m' : Mem), r.length = k ∧ (∀ x ∈ r, x < k) ∧
    evE (callN L P (n + 1)) c__law_machine_3 [.v (.ref q), .v (.dat (.int (k : Int))), s2, s3, s4, s5, .no] m = .ok (.dat (.list (iD r))) m' ∧ Bx q m' := by
  obtain ⟨xs, m', h1, h2, h3⟩ := compGo_inv (elt := fun σ m => (evE (callN L P (n + 1)) e__law_machine_3 σ m).quiet) (tg := .nm 6) (σ := [.v (.ref q), .v (.dat (.int (k : Int))), s2, s3, s4, s5, .no]) (I := Bx q) (Rr := fun _ x => ∃ y : Nat, y < k ∧ x = PyData.int y) (ds := rngD 0 k) hB fun d hd m hB => by
    obtain ⟨r, m1, k1, k2, k3⟩ := take_ok (L := L) (n := n) hB hk hk2
    refine ⟨_, .int r, m1, rfl, ?_, k3, r, k1, rfl⟩
    simp [e__law_machine_3, k2]
  obtain ⟨r, rfl, h4, h5⟩ := all2_nat h3
  refine ⟨r, m', by rw [h4, rng_len], h5, ?_, h2⟩
  exact ev_comp (ds := rngD 0 k) (m1 := m) (by simp [rng1_nat (show k ≤ 100000 by omega)]) (small1001 (by rw [rng_len]; exact hk2)) h1
theorem mturn_ok {q B : Nat} {acc : List (List Nat)} {s3 s4 s5 : Sl} (hB : Bx q m) (b1 : 1 ≤ B) (b8 : B ≤ 8) (ha : acc.length ≤ 90) : ∃ (w : List Nat) (m' : Mem) (s4' s5' : Sl), w.length = B ∧ (∀ x ∈ w, x < B) ∧ Bx q m' ∧
    evSs L (callN L P (n + 1)) b__law_machine_1 [.v (.ref q), .v (.dat (.int (B : Int))), .own (acc.map tI), s3, s4, s5, .no] m = .ok (.nx, [.v (.ref q), .v (.dat (.int (B : Int))), .own ((acc ++ [w]).map tI), s3, s4', s5', .no]) m' := by
  obtain ⟨f, m1, f1, f2, f3⟩ := take_ok (L := L) (n := n) (k := 5) hB (by omega) (by omega)
  obtain ⟨o, m2, o1, o2, o3⟩ := take_ok (L := L) (n := n) (k := B) f3 b1 (by omega)
  have f2' : callN L P (n + 1) 31 [.ref q, .dat (.int 5)] m = .ok (.dat (.int (f : Int))) m1 := f2
  have hz : (acc.map tI).length < sizeLine := by rw [List.length_map, sizeLine_eq]; omega
  have et : ∀ w : List Nat, b1Val .tuple (.list (iD w)) = some (tI w) := fun w => rfl
  have hr := rng1_nat (k := B) (m := m2) (by omega)
  rw [rng0] at hr
  have esn : ∀ w : List Nat, (acc ++ [w]).map tI = acc.map tI ++ [tI w] := fun w => by rw [List.map_append]; rfl
  by_cases h0 : f = 0
  · subst h0
    have key : evE (callN L P (n + 1)) c__law_machine_1 [.v (.ref q), .v (.dat (.int (B : Int))), .own (acc.map tI), s3, .v (.dat (.int 0)), .v (.dat (.int (o : Int))), .no] m2 = .ok (.dat (.list (iD (List.replicate B o)))) m2 := by
      have e : iD (List.replicate B o) = (List.range B).map fun _ => PyData.int (o : Int) := by
        apply List.ext_getElem?
        intro i
        unfold iD
        by_cases hi : i < B
        · rw [List.getElem?_map, List.getElem?_replicate, if_pos hi, List.getElem?_map, List.getElem?_range hi]; rfl
        · rw [List.getElem?_eq_none (by rw [List.length_map, List.length_replicate]; omega), List.getElem?_eq_none (by rw [List.length_map, List.length_range]; omega)]
      rw [e]
      refine ev_compM (g := fun x : Nat => PyData.int (x : Int)) ?_ (by rw [List.length_range]; omega) fun x hx => ⟨_, rfl, ?_⟩
      · simp only [it_rng1, ev_var, getV_def, List.getElem?_cons_zero, List.getElem?_cons_succ, R.bind_ok, asInt_int, hr]
      · simp [e__law_machine_1]
    refine ⟨List.replicate B o, m2, .v (.dat (.int 0)), .v (.dat (.int (o : Int))), List.length_replicate, fun x hx => by rw [(List.mem_replicate.mp hx).2]; exact o1, o3, ?_⟩
    rw [esn]
    simp [b__law_machine_1, f2', o2, bA_c__law_machine_1, key, et, app_ok hz]
  · by_cases h1 : f = 1
    · subst h1
      have key : evE (callN L P (n + 1)) c__law_machine_2 [.v (.ref q), .v (.dat (.int (B : Int))), .own (acc.map tI), s3, .v (.dat (.int 1)), .v (.dat (.int (o : Int))), .no] m2 = .ok (.dat (.list (iD ((List.range B).map fun x => (x + o) % B)))) m2 := by
        have e : iD ((List.range B).map fun x => (x + o) % B) = (List.range B).map fun x => PyData.int ((x + o) % B : Nat) := by unfold iD; rw [List.map_map]; rfl
        rw [e]
        refine ev_compM (g := fun x : Nat => PyData.int (x : Int)) ?_ (by rw [List.length_range]; omega) fun x hx => ⟨_, rfl, ?_⟩
        · simp only [it_rng1, ev_var, getV_def, List.getElem?_cons_zero, List.getElem?_cons_succ, R.bind_ok, asInt_int, hr]
        · have em := bv_modI (i := (x : Int) + (o : Int)) (j := (B : Int)) (by omega)
          have : ((x : Int) + (o : Int)) % (B : Int) = (((x + o) % B : Nat) : Int) := by rw [Int.natCast_emod, Int.natCast_add]
          rw [this] at em
          simp only [e__law_machine_2, wipeE_cons, wipeE_nil, List.map_cons, List.map_nil, List.set_cons_succ, List.set_cons_zero, ev_bin, bA_bin, bA_var, ev_var, getV_def, List.getElem?_cons_zero, List.getElem?_cons_succ, R.bind_ok, d2_dat, bv_addI, R.dat_some, em]
      refine ⟨(List.range B).map fun x => (x + o) % B, m2, .v (.dat (.int 1)), .v (.dat (.int (o : Int))), by rw [List.length_map, List.length_range], fun x hx => by
        obtain ⟨y, _, rfl⟩ := List.mem_map.mp hx
        exact Nat.mod_lt _ (by omega), o3, ?_⟩
      rw [esn]
      simp [b__law_machine_1, f2', o2, bA_c__law_machine_2, key, et, app_ok hz]
    · obtain ⟨w, m3, w1, w2, w3, w4⟩ := mrow_ok (L := L) (n := n) (k := B) (s2 := .own (acc.map tI)) (s3 := s3) (s4 := .v (.dat (.int (f : Int)))) (s5 := .v (.dat (.int (o : Int)))) o3 b1 (by omega)
      have c0 : cmpVal .eq (.int (f : Int)) (.int 0) = some (.bool false) := by rw [cv_eqI]; simp; omega
      have c1 : cmpVal .eq (.int (f : Int)) (.int 1) = some (.bool false) := by rw [cv_eqI]; simp; omega
      refine ⟨w, m3, .v (.dat (.int (f : Int))), .v (.dat (.int (o : Int))), w1, w2, w4, ?_⟩
      rw [esn]
      simp [b__law_machine_1, f2', o2, -cv_eqI, c0, c1, bA_c__law_machine_3, w3, et, app_ok hz]
theorem machine_ok {q : Nat} (hB : Bx q m) : ∃ (b s : Nat) (rules : List (List Nat)) (m' : Mem), MOk b s rules ∧ callN L P (n + 3) 33 [.ref q] m = .ok (.dat (mD true s rules)) m' ∧ Bx q m' := by
  rw [call_eq P__law_machine rfl]
  obtain ⟨bi, m1, a1, a2, a3⟩ := pick_int (L := L) (n := n) (xs := [1, 2, 2, 3, 3, 4, 5, 8]) hB (by simp) (by decide)
  obtain ⟨B, rfl, b1, b8⟩ : ∃ B : Nat, bi = (B : Int) ∧ 1 ≤ B ∧ B ≤ 8 := by
    refine ⟨bi.toNat, ?_, ?_, ?_⟩ <;> (simp only [List.mem_cons, List.not_mem_nil, or_false] at a1; omega)
  obtain ⟨ti, m2, t1, t2, t3⟩ := pick_int (L := L) (n := n) (xs := [1, 2, 2, 3, 4, 6]) a3 (by simp) (by decide)
  obtain ⟨T, rfl, c1, c6⟩ : ∃ T : Nat, ti = (T : Int) ∧ 1 ≤ T ∧ T ≤ 6 := by
    refine ⟨ti.toNat, ?_, ?_, ?_⟩ <;> (simp only [List.mem_cons, List.not_mem_nil, or_false] at t1; omega)
  have key := forGo_inv (body := fun σ m => evSs L (callN L P (n + 2)) b__law_machine_1 σ m) (tg := .nm 3) (rngD 0 T)
    (fun i σ m' => ∃ (acc : List (List Nat)) (s3 s4 s5 : Sl), acc.length = i ∧ i ≤ T ∧ (∀ r ∈ acc, r.length = B ∧ ∀ x ∈ r, x < B) ∧ Bx q m' ∧ σ = [.v (.ref q), .v (.dat (.int (B : Int))), .own (acc.map tI), s3, s4, s5, .no])
    (fun i d σ m' hd ⟨acc, s3, s4, s5, h1, h2, h3, h4, hσ⟩ => by
      subst hσ
      have hi : i < T := by have := (List.getElem?_eq_some_iff.mp hd).1; rwa [rng_len] at this
      obtain ⟨w, m3, s4', s5', w1, w2, w3, w4⟩ := mturn_ok (L := L) (n := n + 1) (m := m') (acc := acc) (s3 := .v (.dat d)) (s4 := s4) (s5 := s5) h4 b1 b8 (by omega)
      exact ⟨_, _, m3, rfl, w4, acc ++ [w], _, _, _, by rw [List.length_append, h1]; rfl, by omega, fun r hr => by
        rcases List.mem_append.mp hr with hr | hr
        · exact h3 r hr
        · rw [List.mem_singleton.mp hr]; exact ⟨w1, w2⟩, w3, rfl⟩)
    (m := m2) (σ := [.v (.ref q), .v (.dat (.int (B : Int))), .own [], .no, .no, .no, .no]) ⟨[], .no, .no, .no, rfl, Nat.zero_le _, fun r hr => by simp at hr, t3, rfl⟩
  obtain ⟨σ', m3, e1, rules, s3, s4, s5, h1, _, h3, h4, rfl⟩ := key
  rw [rng_len] at h1
  obtain ⟨s, m4, g1, g2, g3⟩ := take_ok (L := L) (n := n + 1) (k := B) h4 b1 (by omega)
  refine ⟨B, s, rules, m4, ⟨g1, b8, (fun z => by rw [z] at h1; simp at h1; omega), by omega, h3⟩, ?_, g3⟩
  have hr := rng1_nat (k := T) (m := m2) (by omega)
  have loop : evS L (callN L P (n + 2)) l__law_machine_1 [.v (.ref q), .v (.dat (.int (B : Int))), .own [], .no, .no, .no, .no] m1 = .ok (.nx, [.v (.ref q), .v (.dat (.int (B : Int))), .own (rules.map tI), s3, s4, s5, .no]) m3 := by
    show evS L _ (.for_ _ _ _) _ _ = _
    have t2' : callN L P (n + 2) 32 [.ref q, .dat (.list [.int 1, .int 2, .int 2, .int 3, .int 4, .int 6])] m1 = .ok (.dat (.int (T : Int))) m2 := t2
    simp only [s_forE, it_rng1, ev_call, ev_cons, ev_nil, ev_var, getV_def, List.getElem?_cons_zero, List.getElem?_cons_succ, R.bind_ok, ev_lst, ev_cst, asLst_def, datL_cons, datL_nil, Option.map_some, R.dat_some, t2', asInt_int, hr]
    exact e1
  have a2' : callN L P (n + 2) 32 [.ref q, .dat (.list [.int 1, .int 2, .int 2, .int 3, .int 3, .int 4, .int 5, .int 8])] m = .ok (.dat (.int (B : Int))) m1 := a2
  have et : b1Val .tuple (.list (rules.map tI)) = some (.tuple (rD rules)) := rfl
  generalize hrm : rules.map tI = rm at loop et
  simp [d__law_machine, a2', loop, g2, et, mD, mkS]
end K07

set_option Elab.async false
set_option linter.all false
set_option maxRecDepth 100000
set_option maxHeartbeats 2000000
namespace K07
open PySem PySem.Spec PyProof.Rows L2 Eng
variable {L n : Nat} {m : Mem}
/-! ### drawn presses -/
theorem RunI.snoc {ps : List Pr} {S : Nat → List I3} {q : Pr} {l : List I3} (r : RunI ps S) (e : doI ps.length q (S ps.length) = some l) : ∃ S', RunI (ps ++ [q]) S' ∧ S' (ps.length + 1) = l := by
  refine ⟨fun k => if k ≤ ps.length then S k else l, ⟨by rw [if_pos (Nat.zero_le _)]; exact r.zero, fun k q' h => ?_⟩, (by show (if ps.length + 1 ≤ ps.length then _ else _) = l; rw [if_neg (by omega)])⟩
  have hk := (List.getElem?_eq_some_iff.mp h).1
  rw [List.length_append, List.length_singleton] at hk
  by_cases hlt : k < ps.length
  · rw [List.getElem?_append_left hlt] at h
    rw [if_pos (by omega), if_pos (by omega)]
    exact r.step k q' h
  · have : k = ps.length := by omega
    subst this
    rw [List.getElem?_append_right (Nat.le_refl _), Nat.sub_self] at h
    cases h
    rw [if_pos (Nat.le_refl _), if_neg (by omega)]
    exact e
theorem any_of_stk {a : Nat} {l : List I3} (h : 0 < (stk a l).length) : l.any (ip a) = true := by
  unfold stk at h
  rw [List.length_map] at h
  obtain ⟨x, hx⟩ := List.exists_mem_of_length_pos h
  obtain ⟨h1, h2⟩ := List.mem_filter.mp hx
  exact List.any_eq_true.mpr ⟨x, h1, h2⟩
theorem psL_snoc (ps : List Pr) (q : Pr) : psL true (ps ++ [q]) = psL true ps ++ [prD true q] := by unfold psL; rw [List.map_append]; rfl
theorem pturn_ok {q K D M : Nat} {ps : List Pr} {S : Nat → List I3} {st : List Nat} {s4 s7 : Sl} (hB : Bx q m) (k1 : 1 ≤ K) (k4 : K ≤ 4) (d1 : 1 ≤ D) (d6 : D ≤ 6) (m1 : 1 ≤ M) (m5 : M ≤ 5) (r : RunI ps S) (hq : ∀ p ∈ ps, QOk K D p) (hl : ps.length ≤ 20) (hst : st.length = K) (hs : ∀ a, a < K → st.getD a 0 = (stk a (S ps.length)).length) :
    ∃ (p : Pr) (S' : Nat → List I3) (st' : List Nat) (m' : Mem) (s7' : Sl), RunI (ps ++ [p]) S' ∧ QOk K D p ∧ st'.length = K ∧ (∀ a, a < K → st'.getD a 0 = (stk a (S' (ps.length + 1))).length) ∧ Bx q m' ∧
      evSs L (callN L P (n + 1)) b__law_presses_1 [.v (.ref q), .v (.dat (.int (K : Int))), .v (.dat (.int (D : Int))), .v (.dat (.int (M : Int))), s4, .own (psL true ps), .own (iD st), s7] m =
        .ok (.nx, [.v (.ref q), .v (.dat (.int (K : Int))), .v (.dat (.int (D : Int))), .v (.dat (.int (M : Int))), s4, .own (psL true (ps ++ [p])), .own (iD st'), s7']) m' := by
  obtain ⟨a, m1', a1, a2, a3⟩ := take_ok (L := L) (n := n) (k := K) hB k1 (by omega)
  have has : a < st.length := by omega
  have ix1 : ixVal (.list (iD st)) (.int (a : Int)) = some (.int (st.getD a 0 : Nat)) := iD_at has
  have hz : (psL true ps).length < sizeLine := by rw [psL_len, sizeLine_eq]; omega
  have hzi : a < (iD st).length := by rw [iD_len]; exact has
  have isnt : ∀ (x : Int) (σ : Eng.Env) (mm : Mem), setOGo σ 6 (iD st) (.dat (.int x)) (.dat (.int (a : Int))) mm = .ok (.nx, σ.set 6 (.own ((iD st).set a (.int x)))) mm := fun x σ mm => setO_ok (σ := σ) (i := 6) (m := mm) hzi
  have deedCase : ∀ mm : Mem, Bx q mm → (∀ b, b < K → True) → ∃ (d : Nat) (S' : Nat → List I3) (m' : Mem), d < D ∧ callN L P (n + 1) 31 [.ref q, .dat (.int (D : Int))] mm = .ok (.dat (.int (d : Int))) m' ∧ Bx q m' ∧ RunI (ps ++ [(a, some d)]) S' ∧ ∀ b, b < K → (st.set a (st.getD a 0 + 1)).getD b 0 = (stk b (S' (ps.length + 1))).length := fun mm hb _ => by
    obtain ⟨d, m2, h1, h2, h3⟩ := take_ok (L := L) (n := n) (k := D) hb d1 (by omega)
    obtain ⟨S', r', e'⟩ := r.snoc (q := (a, some d)) (l := S ps.length ++ [(ps.length, a, d)]) rfl
    refine ⟨d, S', m2, h1, h2, h3, r', fun b hbK => ?_⟩
    rw [e', stk_deed, getD_set]
    by_cases hba : b = a
    · subst hba
      rw [if_pos ⟨rfl, has⟩, if_pos rfl, List.length_append, hs b hbK]; rfl
    · rw [if_neg fun z => hba z.1, if_neg fun z => hba z.symm, hs b hbK]
  have finD : ∀ (mm : Mem) (cnd : evE (callN L P (n + 1)) (.and (.cmp .gt (.ix (.bv 6) (.var 7)) (.cst (.int 0))) (.cmp .eq (.call 31 (.cons (.var 0) (.cons (.var 3) .nil))) (.cst (.int 0)))) [.v (.ref q), .v (.dat (.int (K : Int))), .v (.dat (.int (D : Int))), .v (.dat (.int (M : Int))), s4, .own (psL true ps), .own (iD st), .v (.dat (.int (a : Int)))] m1' = .ok (.dat (.bool false)) mm) (hb : Bx q mm), ∃ (p : Pr) (S' : Nat → List I3) (st' : List Nat) (m' : Mem) (s7' : Sl), RunI (ps ++ [p]) S' ∧ QOk K D p ∧ st'.length = K ∧ (∀ a, a < K → st'.getD a 0 = (stk a (S' (ps.length + 1))).length) ∧ Bx q m' ∧
      evSs L (callN L P (n + 1)) b__law_presses_1 [.v (.ref q), .v (.dat (.int (K : Int))), .v (.dat (.int (D : Int))), .v (.dat (.int (M : Int))), s4, .own (psL true ps), .own (iD st), s7] m =
        .ok (.nx, [.v (.ref q), .v (.dat (.int (K : Int))), .v (.dat (.int (D : Int))), .v (.dat (.int (M : Int))), s4, .own (psL true (ps ++ [p])), .own (iD st'), s7']) m' := fun mm cnd hb => by
    obtain ⟨d, S', m2, h1, h2, h3, h4, h5⟩ := deedCase mm hb fun _ _ => trivial
    refine ⟨(a, some d), S', st.set a (st.getD a 0 + 1), m2, .v (.dat (.int (a : Int))), h4, ⟨a1, fun d' e => by cases e; exact h1⟩, by rw [List.length_set]; exact hst, h5, h3, ?_⟩
    rw [psL_snoc, ← iD_set, show prD true (a, some d) = .tuple [.str "deed", .int a, .int d] from rfl]
    have hcast : ((st.getD a 0 + 1 : Nat) : Int) = (st.getD a 0 : Nat) + 1 := by omega
    rw [hcast]
    generalize psL true ps = acc at *
    generalize iD st = sv at *
    generalize st.getD a 0 = x at *
    simp only [b__law_presses_1, s_cons, s_asgE, ev_call, ev_cons, ev_nil, ev_var, getV_def, List.getElem?_cons_zero, List.getElem?_cons_succ, R.bind_ok, a2, setE_def, List.length_cons, List.length_nil, List.set_cons_succ, List.set_cons_zero, Nat.reduceAdd, Nat.reduceLT, if_true, then_nx, s_ifeE, cnd, asB_bool, Bool.false_eq_true, if_false]
    simp [h2, app_ok hz, ix1, isnt]
  by_cases h0 : 0 < st.getD a 0
  · obtain ⟨t, m2, t1, t2, t3⟩ := take_ok (L := L) (n := n) (k := M) a3 m1 (by omega)
    have cg : cmpVal .gt (.int (st.getD a 0 : Nat)) (.int 0) = some (.bool true) := by rw [cv_gtI]; simp only [decide_eq_true (show (0 : Int) < ((st.getD a 0 : Nat) : Int) by omega)]
    by_cases ht : t = 0
    · subst ht
      have hany : (S ps.length).any (ip a) = true := any_of_stk (by rw [← hs a a1]; exact h0)
      obtain ⟨S', r', e'⟩ := r.snoc (q := (a, none)) (l := rmG (ip a) (S ps.length)) (by simp only [doI]; rw [if_pos hany])
      refine ⟨(a, none), S', st.set a (st.getD a 0 - 1), m2, .v (.dat (.int (a : Int))), r', ⟨a1, fun d' e => by cases e⟩, by rw [List.length_set]; exact hst, fun b hbK => ?_, t3, ?_⟩
      · rw [e', getD_set]
        obtain ⟨x, h1, h2, _⟩ := stk_back (a := b) hany
        by_cases hba : b = a
        · subst hba
          rw [if_pos ⟨rfl, has⟩, hs b hbK, h1, List.length_append, List.length_singleton]; omega
        · rw [if_neg fun z => hba z.1, h2 hba, hs b hbK]
      · rw [psL_snoc, ← iD_set, show prD true (a, none) = .tuple [.str "back", .int a] from rfl]
        have hcast : ((st.getD a 0 - 1 : Nat) : Int) = (st.getD a 0 : Nat) - 1 := by omega
        rw [hcast]
        have t2' : callN L P (n + 1) 31 [.ref q, .dat (.int (M : Int))] m1' = .ok (.dat (.int 0)) m2 := t2
        generalize psL true ps = acc at *
        generalize iD st = sv at *
        generalize st.getD a 0 = x at *
        simp [b__law_presses_1, a2, ix1, -cv_gtI, cg, t2', app_ok hz, isnt]
    · refine finD m2 ?_ t3
      have ce : cmpVal .eq (.int (t : Int)) (.int 0) = some (.bool false) := by rw [cv_eqI]; simp; omega
      generalize psL true ps = acc at *
      generalize iD st = sv at *
      generalize st.getD a 0 = x at *
      simp [ix1, -cv_gtI, cg, t2, -cv_eqI, ce]
  · have cg : cmpVal .gt (.int (st.getD a 0 : Nat)) (.int 0) = some (.bool false) := by rw [cv_gtI]; simp only [decide_eq_false (show ¬ (0 : Int) < ((st.getD a 0 : Nat) : Int) by omega)]
    refine finD m1' ?_ a3
    generalize psL true ps = acc at *
    generalize iD st = sv at *
    generalize st.getD a 0 = x at *
    simp [ix1, -cv_gtI, cg]
theorem presses_ok {q K D : Nat} (hB : Bx q m) (k1 : 1 ≤ K) (k4 : K ≤ 4) (d1 : 1 ≤ D) (d6 : D ≤ 6) : ∃ (ps : List Pr) (S : Nat → List I3) (m' : Mem), RunI ps S ∧ (∀ p ∈ ps, QOk K D p) ∧ ps.length ≤ 14 ∧ Bx q m' ∧
    callN L P (n + 3) 34 [.ref q, .dat (.int (K : Int)), .dat (.int (D : Int))] m = .ok (.dat (psD false true ps)) m' := by
  rw [call_eq P__law_presses rfl]
  have hrK := rng1_nat (k := K) (m := m) (by omega)
  rw [rng0] at hrK
  have key1 : evE (callN L P (n + 2)) c__law_presses_1 [.v (.ref q), .v (.dat (.int (K : Int))), .v (.dat (.int (D : Int))), .no, .no, .no, .no, .no] m = .ok (.dat (.list (iD (List.replicate K 0)))) m := by
    have e : iD (List.replicate K 0) = (List.range K).map fun _ => PyData.int 0 := by
      apply List.ext_getElem?
      intro i
      unfold iD
      by_cases hi : i < K
      · rw [List.getElem?_map, List.getElem?_replicate, if_pos hi, List.getElem?_map, List.getElem?_range hi]; rfl
      · rw [List.getElem?_eq_none (by rw [List.length_map, List.length_replicate]; omega), List.getElem?_eq_none (by rw [List.length_map, List.length_range]; omega)]
    rw [e]
    refine ev_compM (g := fun x : Nat => PyData.int (x : Int)) ?_ (by rw [List.length_range]; omega) fun x hx => ⟨_, rfl, ?_⟩
    · simp only [it_rng1, ev_var, getV_def, List.getElem?_cons_zero, List.getElem?_cons_succ, R.bind_ok, asInt_int, hrK]
    · simp [e__law_presses_1]
  obtain ⟨mi, m1, a1, a2, a3⟩ := pick_int (L := L) (n := n) (xs := [2, 3, 5]) hB (by simp) (by decide)
  obtain ⟨M, rfl, b1, b5⟩ : ∃ M : Nat, mi = (M : Int) ∧ 1 ≤ M ∧ M ≤ 5 := by
    refine ⟨mi.toNat, ?_, ?_, ?_⟩ <;> (simp only [List.mem_cons, List.not_mem_nil, or_false] at a1; omega)
  obtain ⟨T, m2, t1, t2, t3⟩ := take_ok (L := L) (n := n + 1) (k := 15) a3 (by omega) (by omega)
  have key := forGo_inv (body := fun σ m => evSs L (callN L P (n + 2)) b__law_presses_1 σ m) (tg := .nm 4) (rngD 0 T)
    (fun i σ m' => ∃ (ps : List Pr) (S : Nat → List I3) (st : List Nat) (s4 s7 : Sl), ps.length = i ∧ i ≤ T ∧ RunI ps S ∧ (∀ p ∈ ps, QOk K D p) ∧ st.length = K ∧ (∀ a, a < K → st.getD a 0 = (stk a (S ps.length)).length) ∧ Bx q m' ∧ σ = [.v (.ref q), .v (.dat (.int (K : Int))), .v (.dat (.int (D : Int))), .v (.dat (.int (M : Int))), s4, .own (psL true ps), .own (iD st), s7])
    (fun i d σ m' hd ⟨ps, S, st, s4, s7, h1, h2, h3, h4, h5, h6, h7, hσ⟩ => by
      subst hσ
      have hi : i < T := by have := (List.getElem?_eq_some_iff.mp hd).1; rwa [rng_len] at this
      obtain ⟨p, S', st', m3, s7', w1, w2, w3, w4, w5, w6⟩ := pturn_ok (L := L) (n := n + 1) (m := m') (s4 := .v (.dat d)) (s7 := s7) h7 k1 k4 d1 d6 b1 b5 h3 h4 (by omega) h5 h6
      exact ⟨_, _, m3, rfl, w6, ps ++ [p], S', st', _, _, by rw [List.length_append, h1]; rfl, by omega, w1, fun x hx => by
        rcases List.mem_append.mp hx with hx | hx
        · exact h4 x hx
        · rw [List.mem_singleton.mp hx]; exact w2, w3, fun a ha => by rw [List.length_append, List.length_singleton]; exact w4 a ha, w5, rfl⟩)
    (m := m2) (σ := [.v (.ref q), .v (.dat (.int (K : Int))), .v (.dat (.int (D : Int))), .v (.dat (.int (M : Int))), .no, .own [], .own (iD (List.replicate K 0)), .no]) ⟨[], fun _ => [], List.replicate K 0, .no, .no, rfl, Nat.zero_le _, ⟨rfl, fun k q h => by simp at h⟩, fun p hp => by simp at hp, List.length_replicate, fun a ha => by
      rw [List.getD_eq_getElem?_getD, List.getElem?_replicate, if_pos ha]; rfl, t3, rfl⟩
  obtain ⟨σ', m3, e1, ps, S, st, s4, s7, h1, _, h3, h4, h5, h6, h7, rfl⟩ := key
  rw [rng_len] at h1
  refine ⟨ps, S, m3, h3, h4, by omega, h7, ?_⟩
  have hr := rng1_nat (k := T) (m := m2) (by omega)
  have loop : evS L (callN L P (n + 2)) l__law_presses_1 [.v (.ref q), .v (.dat (.int (K : Int))), .v (.dat (.int (D : Int))), .v (.dat (.int (M : Int))), .no, .own [], .own (iD (List.replicate K 0)), .no] m1 = .ok (.nx, [.v (.ref q), .v (.dat (.int (K : Int))), .v (.dat (.int (D : Int))), .v (.dat (.int (M : Int))), s4, .own (psL true ps), .own (iD st), s7]) m3 := by
    show evS L _ (.for_ _ _ _) _ _ = _
    have t2' : callN L P (n + 2) 31 [.ref q, .dat (.int 15)] m1 = .ok (.dat (.int (T : Int))) m2 := t2
    simp only [s_forE, it_rng1, ev_call, ev_cons, ev_nil, ev_var, getV_def, List.getElem?_cons_zero, List.getElem?_cons_succ, R.bind_ok, ev_cst, t2', asInt_int, hr]
    exact e1
  have a2' : callN L P (n + 2) 32 [.ref q, .dat (.list [.int 2, .int 3, .int 5])] m = .ok (.dat (.int (M : Int))) m1 := a2
  generalize iD (List.replicate K 0) = sv at key1 loop
  simp [d__law_presses, key1, a2', loop]
  rfl
end K07

set_option Elab.async false
set_option linter.all false
set_option maxRecDepth 100000
set_option maxHeartbeats 4000000
namespace K07
open PySem PySem.Spec PyProof.Rows L2 Eng
variable {L n : Nat} {m : Mem}
/-! ### how values show -/
theorem pD_fac {p : Nat × Nat} (h1 : p.1 < 1001) (h2 : p.2 < 1001) : Fac (pD p) 24 1 := Fac.tuple (n := 2) (w := 11) (k := 0) (fun d hd => by
  simp only [List.mem_cons, List.not_mem_nil, or_false] at hd
  rcases hd with rfl | rfl
  · exact Fac.int h1
  · exact Fac.int h2) (by simp)
theorem hD_fac {h : Hi} (hs : ∀ p ∈ h, p.1 < 1001 ∧ p.2 < 1001) (hl : h.length ≤ 20) : Fac (hD h) 500 2 := Fac.tuple (n := 20) (w := 24) (k := 1) (fun d hd => by
  obtain ⟨p, hp, rfl⟩ := List.mem_map.mp hd
  exact pD_fac (hs p hp).1 (hs p hp).2) (by rw [hDl_len]; exact hl)
theorem tI_fac {v : List Nat} (h : ∀ x ∈ v, x < 1001) (hl : v.length ≤ 20) : Fac (tI v) 240 1 := Fac.tuple (n := 20) (w := 11) (k := 0) (fun d hd => by
  obtain ⟨x, hx, rfl⟩ := List.mem_map.mp hd
  exact Fac.int (h x hx)) (by rw [iD_len]; exact hl)
theorem pr_fac {q : Pr} (h1 : q.1 < 1001) (h2 : ∀ d, q.2 = some d → d < 1001) : Fac (prD true q) 36 1 := by
  obtain ⟨a, d⟩ := q
  cases d with
  | some d =>
    exact Fac.tuple (n := 3) (w := 11) (k := 0) (fun x hx => by
      simp only [List.mem_cons, List.not_mem_nil, or_false] at hx
      rcases hx with rfl | rfl | rfl
      · exact Fac.str (w := 11) (by decide +kernel) (by decide +kernel)
      · exact Fac.int h1
      · exact Fac.int (h2 d rfl)) (by simp)
  | none =>
    exact Fac.tuple (n := 3) (w := 11) (k := 0) (fun x hx => by
      simp only [List.mem_cons, List.not_mem_nil, or_false] at hx
      rcases hx with rfl | rfl
      · exact Fac.str (w := 11) (by decide +kernel) (by decide +kernel)
      · exact Fac.int h1) (by simp)
theorem pair_repr {d : PyData} {w k : Nat} (h : Fac d w k) (hw : w ≤ 400000) (hk : k ≤ 10) : ∃ z : Str, b1Val .repr (.list [d, d]) = some (.str z) :=
  (Fac.list (n := 2) (w := w) (k := k) (fun x hx => by
    simp only [List.mem_cons, List.not_mem_nil, or_false] at hx
    rcases hx with rfl | rfl <;> exact h) (by simp)).repr (by omega) (by omega)
theorem ne_str (z : Str) : cmpVal .ne (.str z) (.str z) = some (.bool false) := by rw [cv_neS]; simp
theorem lmul2 (d : PyData) : lmulV (.list [d]) (.int 2) = some (.list [d, d]) := by
  have : lmulV (.list [d]) (.int 2) = some (.list (List.replicate (2 : Int).toNat [d]).flatten) := if_pos ⟨by omega, by omega, by rw [sizeLine_eq]; show 1 * 2 ≤ _; omega⟩
  rw [this]; rfl
theorem counts_of_G {t t1 : Bool} {K : Nat} {h : Hi} (k1 : 1 ≤ K) (k4 : K ≤ 4) (ho : HOk K 6 h) (hl : h.length ≤ 1000) : callN L P (n + 6) 17 [.dat (.int K), .dat (hG t t1 h)] m = .ok (.dat (tI (cnts K h))) m := by
  rw [call_eq P_counts_of rfl]
  have kr : callN L P (n + 5) 15 [.dat (.int K), .dat (.int 6), .dat (hG t t1 h)] m = .ok (.dat (hD h)) m := check_row_ok (t := t) (t1 := t1) (D := 6) k1 k4 ho hl
  generalize hG t t1 h = gv at kr ⊢
  have inner : ∀ i : Nat, evE (callN L P (n + 5)) c_counts_of_1 [.v (.dat (.int K)), .v (.dat gv), .v (.dat (hD h)), .v (.dat (.int i)), .no] m = .ok (.dat (.list ((h.filter fun p => p.1 == i).map fun _ => .int 1))) m := fun i => by
    refine ev_comp (ds := hDl h) (m1 := m) (by simp [hD]) (small1001 (by rw [hDl_len]; exact hl)) ?_
    refine compGo_mapf fun p hp => ⟨_, rfl, ?_, fun _ => by simp [e_counts_of_1]⟩
    have e : decide ((p.1 : Int) = i) = (p.1 == i) := by
      rw [Bool.eq_iff_iff, beq_iff_eq, decide_eq_true_eq]; omega
    simp [t_counts_of_1, pD0, e]
  have key : evE (callN L P (n + 5)) c_counts_of_2 [.v (.dat (.int K)), .v (.dat gv), .v (.dat (hD h)), .no, .no] m = .ok (.dat (.list (iD (cnts K h)))) m := by
    refine ev_comp (ds := (List.range K).map fun (x : Nat) => .int (x : Int)) (m1 := m) (by simp [rng1_nat (show K ≤ 100000 by omega), rng0]) (small1001 (by simp; omega)) ?_
    have e : iD (cnts K h) = (List.range K).map fun x => .int (cnt h x : Nat) := by unfold iD cnts; rw [List.map_map]; rfl
    rw [e]
    refine compGo_map fun i _ => ⟨_, rfl, ?_⟩
    have q := inner i
    simp [e_counts_of_2, bA_c_counts_of_1, q, cnt]
  simp [d_counts_of, kr, bA_c_counts_of_2, key, tI]
/-! ### step by step -/
theorem hsL_at {H : Nat → Hi} {n k : Nat} (h : k ≤ n) : ixVal (.list (hsD H n)) (.int (k : Int)) = some (hD (H k)) := by
  show L2.atI (hsD H n) (k : Int) = _
  refine atI_nat ?_
  unfold hsD
  rw [List.getElem?_map, List.getElem?_range (by omega)]; rfl
section
variable {b s K : Nat} {rules : List (List Nat)} {ps : List Pr} {H : Nat → Hi}
/-- what is known of the history behind k presses -/
structure HK (b s K : Nat) (rules : List (List Nat)) (h : Hi) : Prop where
  ok : HOk K rules.length h
  len : h.length ≤ 20
theorem steps_turn {u2 : U} {k N : Nat} {q : Pr} {s6 s7 : Sl} (hm : MOk b s rules) (k1 : 1 ≤ K) (k4 : K ≤ 4) (hk : k + 1 ≤ N) (h0 : HK b s K rules (H k)) (h1 : HK b s K rules (H (k + 1))) (hq : QOk K rules.length q) (e : doH q (H k) = some (H (k + 1))) : ∃ s6' s7',
    evSs L (callN L P (n + 11)) b__law_steps_right_1 [.v (.dat (mD true s rules)), .v (.dat (.int (K : Int))), .v u2, .v (.dat (.list (hsD H N))), .v (.dat (.int (k : Int))), .v (.dat (prD true q)), s6, s7, .no, .no] m =
      .ok (.nx, [.v (.dat (mD true s rules)), .v (.dat (.int (K : Int))), .v u2, .v (.dat (.list (hsD H N))), .v (.dat (.int (k : Int))), .v (.dat (prD true q)), s6', s7', .no, .no]) m := by
  have x0 := hsL_at (H := H) (n := N) (k := k) (by omega)
  have x1 : ixVal (.list (hsD H N)) (.int ((k : Int) + 1)) = some (hD (H (k + 1))) := hsL_at (H := H) (n := N) (k := k + 1) hk
  have p1 := pressed_ok (L := L) (n := n + 2) (m := m) (t := true) (tm := true) (t' := true) (t1 := true) hm k1 k4 h0.ok (by have := h0.len; omega) hq e
  have p2 := pressed_ok (L := L) (n := n + 2) (m := m) (t := false) (tm := false) (t' := false) (t1 := false) hm k1 k4 h0.ok (by have := h0.len; omega) hq e
  rw [hG_true] at p1
  have hl5 : HOk K 6 (H (k + 1)) := hok_le h1.ok hm.l6
  have c1 := counts_of_G (L := L) (n := n + 5) (m := m) (t := true) (t1 := true) k1 k4 hl5 (by have := h1.len; omega)
  have c2 := counts_of_G (L := L) (n := n + 5) (m := m) (t := false) (t1 := true) k1 k4 hl5 (by have := h1.len; omega)
  rw [hG_true] at c1
  have ch := check_history_G (L := L) (n := n + 3) (m := m) true false false hm k1 k4 h1.ok (by have := h1.len; omega)
  have hb := board_of_ok (L := L) (n := n + 1) (m := m) true hm (hok_k h1.ok k4) (by have := h1.len; omega)
  have hw := walk_ok (L := L) (n := n + 10) (m := m) hm h1.ok
  have sm : ∀ p ∈ H (k + 1), p.1 < 1001 ∧ p.2 < 1001 := fun p hp => by
    have := h1.ok p hp
    have := hm.l6
    omega
  obtain ⟨z1, r1⟩ := pair_repr (hD_fac sm h1.len) (by omega) (by omega)
  obtain ⟨z3, r3⟩ := (hD_fac sm h1.len).repr (by omega) (by omega)
  have sc : ∀ x ∈ cnts K (H (k + 1)), x < 1001 := fun x hx => by
    have := cnts_big (N := 20) h1.len x hx; omega
  obtain ⟨z2, r2⟩ := pair_repr (tI_fac sc (by rw [cnts_len]; omega)) (by omega) (by omega)
  have g1 : ∀ s6, evE (callN L P (n + 11)) c__law_steps_right_1 [.v (.dat (mD true s rules)), .v (.dat (.int (K : Int))), .v u2, .v (.dat (.list (hsD H N))), .v (.dat (.int (k : Int))), .v (.dat (prD true q)), s6, s7, .no, .no] m = .ok (.dat (hG false false (H k))) m := fun s6 => by
    have e : hG false false (H k) = .list ((H k).map fun p => .list [.int p.1, .int p.2]) := rfl
    rw [e]
    refine ev_compM (g := fun p : Nat × Nat => pD p) ?_ (by have := h0.len; omega) fun p hp => ?_
    · simp only [it_seq, ev_ix, bA_var, ev_var, getV_def, List.getElem?_cons_zero, List.getElem?_cons_succ, R.bind_ok, ixU_dat, x0, R.dat_some, hD, seqU_tuple]
      rfl
    · have el : b1Val .list (pD p) = some (.list [.int p.1, .int p.2]) := rfl
      refine ⟨_, rfl, ?_⟩
      simp [e__law_steps_right_1, el]
  have g4 : ∀ s6 s7, evE (callN L P (n + 11)) c__law_steps_right_4 [.v (.dat (mD true s rules)), .v (.dat (.int (K : Int))), .v u2, .v (.dat (.list (hsD H N))), .v (.dat (.int (k : Int))), .v (.dat (prD true q)), s6, s7, .no, .no] m = .ok (.dat (hG false false (H (k + 1)))) m := fun s6 s7 => by
    have e : hG false false (H (k + 1)) = .list ((H (k + 1)).map fun p => .list [.int p.1, .int p.2]) := rfl
    rw [e]
    refine ev_compM (g := fun p : Nat × Nat => pD p) ?_ (by have := h1.len; omega) fun p hp => ?_
    · simp only [it_seq, ev_ix, ev_bin, bA_var, bA_cst, ev_var, ev_cst, getV_def, List.getElem?_cons_zero, List.getElem?_cons_succ, R.bind_ok, d2_dat, bv_addI, ixU_dat, x1, R.dat_some, hD, seqU_tuple]
      rfl
    · have el : b1Val .list (pD p) = some (.list [.int p.1, .int p.2]) := rfl
      refine ⟨_, rfl, ?_⟩
      simp [e__law_steps_right_4, el]
  have g2 : ∀ s6 s7 (i : Nat), evE (callN L P (n + 11)) c__law_steps_right_2 [.v (.dat (mD true s rules)), .v (.dat (.int (K : Int))), .v u2, .v (.dat (.list (hsD H N))), .v (.dat (.int (k : Int))), .v (.dat (prD true q)), s6, s7, .v (.dat (.int (i : Int))), .no] m = .ok (.dat (.list (((H (k + 1)).filter fun p => p.1 == i).map pD))) m := fun s6 s7 i => by
    refine ev_compF (g := fun p : Nat × Nat => pD p) rfl ?_ (by have := h1.len; omega) fun p hp => ?_
    · simp only [it_seq, ev_ix, ev_bin, bA_var, bA_cst, ev_var, ev_cst, getV_def, List.getElem?_cons_zero, List.getElem?_cons_succ, R.bind_ok, d2_dat, bv_addI, ixU_dat, x1, R.dat_some, hD, seqU_tuple]
      rfl
    · have e : decide ((p.1 : Int) = i) = (p.1 == i) := by
        rw [Bool.eq_iff_iff, beq_iff_eq, decide_eq_true_eq]; omega
      refine ⟨_, rfl, ?_, fun _ => ?_⟩
      · simp [t__law_steps_right_1, pD0, e]
      · simp [e__law_steps_right_2]
  have g3 : ∀ s6 s7, evE (callN L P (n + 11)) c__law_steps_right_3 [.v (.dat (mD true s rules)), .v (.dat (.int (K : Int))), .v u2, .v (.dat (.list (hsD H N))), .v (.dat (.int (k : Int))), .v (.dat (prD true q)), s6, s7, .no, .no] m = .ok (.dat (.list (iD (cnts K (H (k + 1)))))) m := fun s6 s7 => by
    have e : iD (cnts K (H (k + 1))) = (List.range K).map fun x => .int (cnt (H (k + 1)) x : Nat) := by unfold iD cnts; rw [List.map_map]; rfl
    rw [e]
    have hr := rng1_nat (k := K) (m := m) (by omega)
    rw [rng0] at hr
    refine ev_compM (g := fun x : Nat => PyData.int (x : Int)) ?_ (by rw [List.length_range]; omega) fun i hi => ⟨_, rfl, ?_⟩
    · simp only [it_rng1, ev_var, getV_def, List.getElem?_cons_zero, List.getElem?_cons_succ, R.bind_ok, asInt_int, hr]
    · have q := g2 s6 s7 i
      simp [e__law_steps_right_3, bA_c__law_steps_right_2, q, cnt]
  have et : b1Val .tuple (.list (iD (cnts K (H (k + 1))))) = some (tI (cnts K (H (k + 1)))) := rfl
  have l1 : b1Val .list (prD true q) = some (prD false q) := by
    obtain ⟨a, d⟩ := q
    cases d <;> rfl
  have l2 : b1Val .list (mD true s rules) = some (mD false s rules) := rfl
  have l3 : b1Val .list (hD (H (k + 1))) = some (hG false true (H (k + 1))) := rfl
  have m1 := lmul2 (hD (H (k + 1)))
  have m2 := lmul2 (tI (cnts K (H (k + 1))))
  have hz : ([hD (H (k + 1))] : List PyData).length < sizeLine := by rw [sizeLine_eq]; simp
  have en : cmpVal .ne (.int (runB rules s (H (k + 1)) : Nat)) (.int (runB rules s (H (k + 1)) : Nat)) = some (.bool false) := by rw [cv_neI]; simp
  have hp1 : permL [U.dat (prD false q), .dat (hG false false (H k)), .dat (.int (K : Int)), .dat (mD false s rules)] [3, 2, 1, 0] = some [U.dat (mD false s rules), .dat (.int (K : Int)), .dat (hG false false (H k)), .dat (prD false q)] := rfl
  have hp2 : permL [U.dat (hG false true (H (k + 1))), .dat (.int (K : Int))] [1, 0] = some [.dat (.int (K : Int)), U.dat (hG false true (H (k + 1)))] := rfl
  refine ⟨.own [hD (H (k + 1)), hD (H (k + 1))], .v (.dat (tI (cnts K (H (k + 1))))), ?_⟩
  have happ := fun (σ : Eng.Env) => app_ok (σ := σ) (i := 6) (d := hD (H (k + 1))) (m := m) hz
  have n1 := ne_str z1
  have n2 := ne_str z2
  have n3 := ne_str z3
  generalize PyData.list (hsD H N) = v3 at *
  generalize PyData.int (runB rules s (H (k + 1)) : Nat) = vb at *
  generalize tI (cnts K (H (k + 1))) = vc at *
  generalize iD (cnts K (H (k + 1))) = vi at *
  generalize hG false true (H (k + 1)) = v4 at *
  generalize hG false false (H (k + 1)) = v5 at *
  generalize hG false false (H k) = v6 at *
  generalize hD (H (k + 1)) = v7 at *
  generalize hD (H k) = v8 at *
  generalize prD false q = v9 at *
  generalize prD true q = v10 at *
  generalize mD false s rules = v11 at *
  generalize mD true s rules = v12 at *
  simp [b__law_steps_right_1, x0, x1, p1, l1, g1, l2, hp1, R.ofO, p2, happ, r1, m1, n1, bA_c__law_steps_right_3, g3, et, c1, l3, hp2, c2, r2, m2, n2, g4, ch, r3, n3, hb, hw, en]
end
end K07

set_option Elab.async false
set_option linter.all false
set_option maxRecDepth 100000
set_option maxHeartbeats 4000000
namespace K07
open PySem PySem.Spec PyProof.Rows L2 Eng
variable {L n : Nat} {m : Mem}
section
variable {b s K : Nat} {rules : List (List Nat)} {ps : List Pr} {H : Nat → Hi}
theorem hk_of (r : RunH ps H) (hq : ∀ q ∈ ps, QOk K rules.length q) (hl : ps.length ≤ 20) {k : Nat} (hk : k ≤ ps.length) : HK b s K rules (H k) := by
  obtain ⟨h1, h2⟩ := r.ok hq k hk
  exact ⟨h1, by omega⟩
theorem steps_right_ok (hm : MOk b s rules) (k1 : 1 ≤ K) (k4 : K ≤ 4) (r : RunH ps H) (hq : ∀ q ∈ ps, QOk K rules.length q) (hl : ps.length ≤ 20) :
    callN L P (n + 12) 38 [.dat (mD true s rules), .dat (.int (K : Int)), .dat (psD false true ps), .dat (.list (hsD H ps.length))] m = .ok (.dat (.bool true)) m := by
  rw [call_eq P__law_steps_right rfl]
  have key := forGo_inv (body := fun σ m => evSs L (callN L P (n + 11)) b__law_steps_right_1 σ m) (tg := .tp [.nm 4, .nm 5]) (enumD 0 (psL true ps))
    (fun i σ m' => m' = m ∧ ∃ s4 s5 s6 s7, σ = [.v (.dat (mD true s rules)), .v (.dat (.int (K : Int))), .v (.dat (psD false true ps)), .v (.dat (.list (hsD H ps.length))), s4, s5, s6, s7, .no, .no])
    (fun i d σ m' hd ⟨hm', s4, s5, s6, s7, hσ⟩ => by
      subst hm' hσ
      obtain ⟨x, h1, rfl⟩ := Eng.enum_get hd
      obtain ⟨q, hqi, rfl⟩ := psL_get h1
      rw [Nat.zero_add]
      have hi := (List.getElem?_eq_some_iff.mp hqi).1
      obtain ⟨s6', s7', ht⟩ := steps_turn (L := L) (n := n) (m := m') (u2 := .dat (psD false true ps)) (N := ps.length) (s6 := s6) (s7 := s7) hm k1 k4 (show i + 1 ≤ ps.length by omega) (hk_of r hq hl (by omega)) (hk_of r hq hl (by omega)) (hq q (List.mem_of_getElem? hqi)) (r.step i q hqi)
      exact ⟨_, _, _, rfl, ht, rfl, _, _, _, _, rfl⟩)
    (m := m) (σ := [.v (.dat (mD true s rules)), .v (.dat (.int (K : Int))), .v (.dat (psD false true ps)), .v (.dat (.list (hsD H ps.length))), .no, .no, .no, .no, .no, .no]) ⟨rfl, .no, .no, .no, .no, rfl⟩
  obtain ⟨σ', m', h1, rfl, s4, s5, s6, s7, rfl⟩ := key
  have loop : evS L (callN L P (n + 11)) l__law_steps_right_1 [.v (.dat (mD true s rules)), .v (.dat (.int (K : Int))), .v (.dat (psD false true ps)), .v (.dat (.list (hsD H ps.length))), .no, .no, .no, .no, .no, .no] m' = .ok (.nx, [.v (.dat (mD true s rules)), .v (.dat (.int (K : Int))), .v (.dat (psD false true ps)), .v (.dat (.list (hsD H ps.length))), s4, s5, s6, s7, .no, .no]) m' := by
    have hsq : seqU (.dat (psD false true ps)) m' = .ok (psL true ps) m' := rfl
    show evS L _ (.for_ _ _ _) _ _ = _
    simp only [s_forE, it_enum, ev_var, getV_def, List.getElem?_cons_zero, List.getElem?_cons_succ, R.bind_ok, hsq, enumU]
    exact h1
  simp [d__law_steps_right, loop]
theorem ne_tI {v : List Nat} (hv : ∀ x ∈ v, x < 1001) (hl : v.length ≤ 20) : cmpVal .ne (tI v) (tI v) = some (.bool false) := by
  have e : PyData.eqv (tI v) (tI v) = true := by
    have : PyData.eqv (tI v) (tI v) = decide (v = v) := eqv_ints v v
    rw [this]; simp
  rw [cmp_neS (tI_fac hv hl) (tI_fac hv hl) (by omega) (by omega) rfl, e]; rfl
theorem eq_hD {h : Hi} (hs : ∀ p ∈ h, p.1 < 16 ∧ p.2 < 16) : cmpVal .eq (hD h) (hD h) = some (.bool true) := by
  rw [eq_hist hs hs]; simp
theorem eq_nilL {l : List Nat} (hc : ∀ x ∈ l, x < 16) : cmpVal .eq (.list (iD l)) (.list []) = some (.bool (decide (l = []))) := by
  obtain ⟨a1, a2, a3, a4, a5⟩ := small_all hc
  have h1 : SeqAt.shaped (.list (iD l)) = true := by
    have c0 : PyData.canLay0 (.list (iD l)) = true := by simp only [PyData.canLay0, a1]
    show (PyData.canLay0 (.list (iD l)) && decide (PyData.depth (.list (iD l)) ≤ 64)) = true
    rw [c0, Bool.true_and, decide_eq_true_eq]
    simp only [PyData.depth]; omega
  show (if SeqAt.shaped (.list (iD l)) = true ∧ SeqAt.shaped (.list []) = true then some (PyData.bool (PyData.eqv (.list (iD l)) (.list []))) else none) = _
  rw [if_pos ⟨h1, rfl⟩]
  have : PyData.eqv (.list (iD l)) (.list []) = PyData.eqvAll (iD l) (iD []) := rfl
  rw [this, eqv_ints]
theorem notin_two {x a t : Nat} : cmpVal .notin (.int (x : Int)) (.tuple [.int (a : Int), .int (t : Int)]) = some (.bool (!decide (x = a) && !decide (x = t))) := by
  have e : cmpVal .notin (.int (x : Int)) (.tuple [.int (a : Int), .int (t : Int)]) = some (.bool (!([PyData.int (a : Int), .int (t : Int)].any fun z => PyData.eqv z (.int (x : Int))))) := rfl
  rw [e]
  congr 2
  have e1 : PyData.eqv (.int (a : Int)) (.int (x : Int)) = decide ((a : Int) = (x : Int)) := rfl
  have e2 : PyData.eqv (.int (t : Int)) (.int (x : Int)) = decide ((t : Int) = (x : Int)) := rfl
  simp only [List.any_cons, List.any_nil, e1, e2, Bool.or_false]
  rw [Bool.eq_iff_iff]
  simp
  omega
end
section
variable {b s K : Nat} {rules : List (List Nat)} {ps : List Pr} {S : Nat → List I3}
def backsL (ps : List Pr) : List Nat := (List.range ps.length).filter (isBack ps)
theorem backs_comp {C : Calls} {u0 u1 u2 u4 : U} {s5 s6 s7 s8 : Sl} (hl : ps.length ≤ 20) : evE C c__law_less_right_1 [.v u0, .v u1, .v u2, .v (.dat (psD false true ps)), .v u4, s5, s6, s7, s8] m = .ok (.dat (.list (iD (backsL ps)))) m := by
  have e : iD (backsL ps) = ((List.range ps.length).filter (isBack ps)).map fun b => PyData.int (b : Nat) := by unfold iD backsL; rfl
  rw [e]
  have hr := rng1_nat (k := ps.length) (m := m) (by omega)
  rw [rng0] at hr
  have hlen : b1Val .len (psD false true ps) = some (.int (ps.length : Nat)) := by show some (PyData.int ((psL true ps).length : Nat)) = _; rw [psL_len]
  refine ev_compF (g := fun x : Nat => PyData.int (x : Int)) rfl ?_ (by rw [List.length_range]; omega) fun b hb => ?_
  · simp only [it_rng1, ev_b1, bA_var, ev_var, getV_def, List.getElem?_cons_zero, List.getElem?_cons_succ, R.bind_ok, d1_dat, hlen, R.dat_some, asInt_int, hr]
  · have hb := List.mem_range.mp hb
    have hq := List.getElem?_eq_getElem (l := ps) (i := b) (by omega)
    obtain ⟨q, hqq⟩ : ∃ q, q = ps[b] := ⟨_, rfl⟩
    rw [← hqq] at hq
    have e1 := psL_at (t1 := true) hq
    have p0 := pr_0 q
    have ek := eq_kind q
    rw [isBack_of hq]
    refine ⟨_, rfl, ?_, fun hbk => ?_⟩
    · generalize prD true q = u1 at *
      generalize psD false true ps = u3 at *
      simp only [t__law_less_right_1, wipeE_cons, wipeE_nil, List.map_cons, List.map_nil, List.set_cons_succ, List.set_cons_zero, ev_cmp, bA_ix, ev_ix, bA_var, bA_cst, ev_var, ev_cst, getV_def, List.getElem?_cons_zero, List.getElem?_cons_succ, R.bind_ok, ixU_dat, e1, R.dat_some, p0, d2_dat, ek]
    · simp [e__law_less_right_1]
theorem less_comp {u0 u1 u2 u4 : U} {s5 s7 : Sl} (r : RunI ps S) {k a : Nat} (hk : ps[k]? = some (a, none)) (hl : ps.length ≤ 20) : evE (callN L P (n + 1)) c__law_less_right_2 [.v u0, .v u1, .v u2, .v (.dat (psD false true ps)), .v u4, s5, .v (.dat (.int (k : Int))), s7, .no] m = .ok (.dat (psD false true (lessP ps k (tk S a k)))) m := by
  have e : psD false true (lessP ps k (tk S a k)) = .list (((List.range ps.length).filter fun i => !decide (i = k) && !decide (i = tk S a k)).map fun i => prD true (prAt ps i)) := by
    show PyData.list (psL true (lessP ps k (tk S a k))) = _
    unfold psL lessP less
    rw [List.map_map]; rfl
  rw [e]
  have hr := rng1_nat (k := ps.length) (m := m) (by omega)
  rw [rng0] at hr
  have hlen : b1Val .len (psD false true ps) = some (.int (ps.length : Nat)) := by show some (PyData.int ((psL true ps).length : Nat)) = _; rw [psL_len]
  have kt := taken_ok (L := L) (n := n) (m := m) r hk (by omega)
  refine ev_compF (g := fun x : Nat => PyData.int (x : Int)) rfl ?_ (by rw [List.length_range]; omega) fun b hb => ?_
  · simp only [it_rng1, ev_b1, bA_var, ev_var, getV_def, List.getElem?_cons_zero, List.getElem?_cons_succ, R.bind_ok, d1_dat, hlen, R.dat_some, asInt_int, hr]
  · have hb := List.mem_range.mp hb
    have hq := prAt_of (ps := ps) (i := b) hb
    have e1 := psL_at (t1 := true) hq
    have en := notin_two (x := b) (a := k) (t := tk S a k)
    refine ⟨_, rfl, ?_, fun hbk => ?_⟩
    · generalize psD false true ps = u3 at *
      simp only [t__law_less_right_2, wipeE_cons, wipeE_nil, List.map_cons, List.map_nil, List.set_cons_succ, List.set_cons_zero, ev_cmp, bA_var, bA_tup, ev_tup, ev_cons, ev_nil, ev_call, ev_var, getV_def, List.getElem?_cons_zero, List.getElem?_cons_succ, R.bind_ok, kt, asTup_def, datL_cons, datL_nil, Option.map_some, R.dat_some, d2_dat, en]
    · generalize psD false true ps = u3 at *
      generalize prD true (prAt ps b) = u1 at *
      simp [e__law_less_right_2, e1]
theorem less_right_ok {q : Nat} (hB : Bx q m) (hm : MOk b s rules) (k1 : 1 ≤ K) (k4 : K ≤ 4) (r : RunI ps S) (hq : ∀ p ∈ ps, QOk K rules.length p) (hl : ps.length ≤ 14) : ∃ m', Bx q m' ∧
    callN L P (n + 12) 39 [.ref q, .dat (mD true s rules), .dat (.int (K : Int)), .dat (psD false true ps), .dat (tI (bsOf rules s (fun k => hist (S k)) ps.length))] m = .ok (.dat (.bool true)) m' := by
  have kb := backs_comp (C := callN L P (n + 11)) (m := m) (ps := ps) (u0 := .ref q) (u1 := .dat (mD true s rules)) (u2 := .dat (.int (K : Int))) (u4 := .dat (tI (bsOf rules s (fun k => hist (S k)) ps.length))) (s5 := .no) (s6 := .no) (s7 := .no) (s8 := .no) (by omega)
  have en := eq_nilL (l := backsL ps) fun x hx => by
    have := List.mem_range.mp (List.mem_filter.mp hx).1; omega
  by_cases hnil : backsL ps = []
  · refine ⟨m, hB, ?_⟩
    rw [call_eq P__law_less_right rfl]
    rw [decide_eq_true hnil] at en
    generalize iD (backsL ps) = bl at kb en
    generalize psD false true ps = pv at kb ⊢
    generalize tI (bsOf rules s (fun k => hist (S k)) ps.length) = bv at kb ⊢
    generalize mD true s rules = um at kb ⊢
    simp [d__law_less_right, kb, en]
  · obtain ⟨d, m1, h1, h2, h3⟩ := pick_box (L := L) (n := n + 9) (xs := iD (backsL ps)) hB (by unfold iD; simpa using hnil) (by rw [iD_len]; unfold backsL; exact Nat.le_trans (List.length_filter_le _ _) (by rw [List.length_range]; omega))
    obtain ⟨k, hkm, rfl⟩ := List.mem_map.mp h1
    obtain ⟨hk1, hk2⟩ := List.mem_filter.mp hkm
    have hk1 := List.mem_range.mp hk1
    obtain ⟨a, hk⟩ := isBack_iff.mp hk2
    refine ⟨m1, h3, ?_⟩
    rw [call_eq P__law_less_right rfl]
    rw [decide_eq_false hnil] at en
    obtain ⟨htk, _⟩ := r.tk_lt hk
    have hlen : (lessP ps k (tk S a k)).length = ps.length - 2 := by unfold lessP; rw [List.length_map, less_len htk hk1]
    have kl := fun s5 s7 => less_comp (L := L) (n := n + 10) (m := m1) (u0 := .ref q) (u1 := .dat (mD true s rules)) (u2 := .dat (.int (K : Int))) (u4 := .dat (tI (bsOf rules s (fun k => hist (S k)) ps.length))) (s5 := s5) (s7 := s7) r hk (by omega)
    obtain ⟨rl, req⟩ := r.less hk
    have hq' := lessP_ok (a := k) (t := tk S a k) hq
    have b1 := boards_shown_ok (L := L) (n := n) (m := m1) (t := false) (t1 := true) (tm := true) hm k1 k4 rl hq' (by omega)
    have g1 := history_of_ok (L := L) (n := n + 1) (m := m1) (t := false) (t1 := true) (tm := true) hm k1 k4 rl hq' (by omega)
    have g2 := history_of_ok (L := L) (n := n + 1) (m := m1) (t := false) (t1 := true) (tm := true) hm k1 k4 r.toH hq (by omega)
    have eH : lessH S k (tk S a k) (lessP ps k (tk S a k)).length = hist (S ps.length) := by
      rw [hlen, req _ (by omega), show ps.length - 2 + 2 = ps.length by omega]
    rw [eH] at g1
    have hbs : ∀ (H : Nat → Hi) (n : Nat), (bsOf rules s H n).length = n + 1 := fun H n => by unfold bsOf; rw [List.length_map, List.length_range]
    have c1 : slVal (tI (bsOf rules s (lessH S k (tk S a k)) (lessP ps k (tk S a k)).length)) (some ((k : Int) - 1)) none = some (tI ((bsOf rules s (lessH S k (tk S a k)) (lessP ps k (tk S a k)).length).drop (k - 1))) := by
      have := cut_hi (v := bsOf rules s (lessH S k (tk S a k)) (lessP ps k (tk S a k)).length) (a := k - 1) (by rw [hbs, hlen]; omega)
      rw [show ((k - 1 : Nat) : Int) = (k : Int) - 1 by omega] at this
      exact this
    have c2 : slVal (tI (bsOf rules s (fun k => hist (S k)) ps.length)) (some ((k : Int) + 1)) none = some (tI ((bsOf rules s (fun k => hist (S k)) ps.length).drop (k + 1))) := cut_hi (v := bsOf rules s (fun k => hist (S k)) ps.length) (a := k + 1) (by rw [hbs]; omega)
    have eD : (bsOf rules s (lessH S k (tk S a k)) (lessP ps k (tk S a k)).length).drop (k - 1) = (bsOf rules s (fun k => hist (S k)) ps.length).drop (k + 1) := by
      rw [hlen]
      apply List.ext_getElem?
      intro i
      rw [List.getElem?_drop, List.getElem?_drop]
      unfold bsOf
      by_cases hi : k + 1 + i < ps.length + 1
      · rw [List.getElem?_map, List.getElem?_range (by omega), List.getElem?_map, List.getElem?_range (by omega)]
        simp only [Option.map_some]
        rw [req _ (by omega), show k - 1 + i + 2 = k + 1 + i by omega]
      · rw [List.getElem?_eq_none (by rw [List.length_map, List.length_range]; omega), List.getElem?_eq_none (by rw [List.length_map, List.length_range]; omega)]
    rw [eD] at c1
    have cn := ne_tI (v := (bsOf rules s (fun k => hist (S k)) ps.length).drop (k + 1)) (fun x hx => by
      have hx := List.mem_of_mem_drop hx
      unfold bsOf at hx
      obtain ⟨j, hj, rfl⟩ := List.mem_map.mp hx
      have hj := List.mem_range.mp hj
      have h1 : runB rules s (hist (S j)) < b := runB_lt hm (K := K) hm.sb (r.toH.ok hq j (by omega)).1
      have := hm.b8
      show runB rules s (hist (S j)) < 1001
      omega) (by rw [List.length_drop, hbs]; omega)
    obtain ⟨ho, hle⟩ := r.toH.ok hq ps.length (Nat.le_refl _)
    have ce := eq_hD (h := hist (S ps.length)) fun p hp => by
      have := ho p hp
      have := hm.l6
      omega
    have h2' : callN L P (n + 11) 32 [.ref q, .dat (.list (iD (backsL ps)))] m = .ok (.dat (.int (k : Int))) m1 := h2
    have lok : psD false true (lessP ps k (tk S a k)) = .list (psL true (lessP ps k (tk S a k))) := rfl
    rw [lok] at kl b1 g1
    generalize hist (S ps.length) = hh at *
    generalize iD (backsL ps) = bl at *
    generalize psL true (lessP ps k (tk S a k)) = lv at *
    generalize tI (bsOf rules s (lessH S k (tk S a k)) (lessP ps k (tk S a k)).length) = b2 at *
    generalize tI ((bsOf rules s (fun k => hist (S k)) ps.length).drop (k + 1)) = b3 at *
    generalize tI (bsOf rules s (fun k => hist (S k)) ps.length) = b4 at *
    generalize psD false true ps = pv at *
    generalize mD true s rules = um at *
    generalize hD hh = hd at *
    simp [d__law_less_right, kb, en, h2', kl, b1, c1, c2, cn, g1, g2, ce]
end
end K07

set_option Elab.async false
set_option linter.all false
set_option maxRecDepth 100000
set_option maxHeartbeats 4000000
namespace K07
open PySem PySem.Spec PyProof.Rows L2 Eng
variable {L n : Nat} {m : Mem}
theorem rng_get {r i : Nat} {d : PyData} (h : (rngD 0 r)[i]? = some d) : i < r ∧ d = .int (0 + (i : Int)) := by
  unfold rngD at h
  rw [List.getElem?_map, Option.map_eq_some_iff] at h
  obtain ⟨j, hj, rfl⟩ := h
  have hi : i < r := by have := (List.getElem?_eq_some_iff.mp hj).1; rwa [List.length_range] at this
  rw [List.getElem?_range hi] at hj
  cases hj
  exact ⟨hi, rfl⟩
theorem consS {L : Nat} {C : Calls} {s : S} {ss : Ss} {σ σ1 σ2 : Eng.Env} {m m1 m2 : Mem} (h : evS L C s σ m = .ok (.nx, σ1) m1) (h2 : evSs L C ss σ1 m1 = .ok (.nx, σ2) m2) : evSs L C (.cons s ss) σ m = .ok (.nx, σ2) m2 := by
  rw [s_cons, h, R.bind_ok, then_nx, h2]
theorem Bx.app {q : Nat} {x : Mem} (h : Bx q m) : Bx q (m ++ x) := by
  obtain ⟨g, s, h⟩ := h
  exact ⟨g, s, by rw [List.getElem?_append_left (List.getElem?_eq_some_iff.mp h).1]; exact h⟩
/-- the boards behind each deed -/
def bsH (rules : List (List Nat)) (s : Nat) (h : Hi) : List Nat := (List.range (h.length + 1)).map fun i => runB rules s (h.take i)
theorem bsH_len (rules : List (List Nat)) (s : Nat) (h : Hi) : (bsH rules s h).length = h.length + 1 := by unfold bsH; rw [List.length_map, List.length_range]
theorem boards_G {t t1 : Bool} {b s : Nat} {rules : List (List Nat)} {h : Hi} (hm : MOk b s rules) (ho : HOk 4 rules.length h) (hl : h.length ≤ 900) : callN L P (n + 9) 18 [.dat (mD true s rules), .dat (hG t t1 h)] m = .ok (.dat (tI (bsH rules s h))) m := by
  rw [call_eq P_boards rfl]
  have kc := check_machine_ok (L := L) (n := n + 1) (m := m) true hm
  have kh := check_history_G (L := L) (n := n) (m := m) (K := 4) true t t1 hm (by omega) (by omega) ho (by omega)
  rw [show ((4 : Nat) : Int) = 4 from rfl] at kh
  generalize hG t t1 h = gv at kh ⊢
  have key := forGo_inv (body := fun σ m => evSs L (callN L P (n + 8)) b_boards_1 σ m) (tg := .tp [.nm 4, .nm 5]) (hDl h) (fun i σ m' => m' = m ∧ ∃ (s4 s5 : Sl), σ = [.v (.dat (mD true s rules)), .v (.dat gv), .v (.dat (mD true s rules)), .own (iD ((List.range (i + 1)).map fun j => runB rules s (h.take j))), s4, s5])
    (fun i d σ m' hd ⟨hmm, s4, s5, hσ⟩ => by
      subst hmm hσ
      unfold hDl at hd
      rw [List.getElem?_map, Option.map_eq_some_iff] at hd
      obtain ⟨⟨a, d⟩, hp, rfl⟩ := hd
      have hi : i < h.length := (List.getElem?_eq_some_iff.mp hp).1
      have hpo := ho _ (List.mem_of_getElem? hp)
      have hx : runB rules s (h.take i) < b := runB_lt hm (K := 4) hm.sb fun q hq => ho q (List.mem_of_mem_take hq)
      obtain ⟨k1, k2, k3⟩ := step_lt hm hpo.2 hx
      have er : runB rules s (h.take (i + 1)) = stepR rules d (runB rules s (h.take i)) := by
        rw [take_snoc hp]; unfold runB; rw [List.foldl_append]; rfl
      have e2 : ixVal (mD true s rules) (.int 1) = some (.tuple (rD rules)) := rfl
      have el : ixVal (.list (iD ((List.range (i + 1)).map fun j => runB rules s (h.take j)))) (.int (-1)) = some (.int (runB rules s (h.take i) : Nat)) := atI_last (by unfold iD; rw [List.range_succ, List.map_append, List.map_append]; simp)
      have hz : (iD ((List.range (i + 1)).map fun j => runB rules s (h.take j))).length < sizeLine := by rw [iD_len, List.length_map, List.length_range]; exact Nat.lt_of_lt_of_le (show i + 1 < 1000 by omega) (small1001 (Nat.le_refl 1000))
      have ea : iD ((List.range (i + 1 + 1)).map fun j => runB rules s (h.take j)) = iD ((List.range (i + 1)).map fun j => runB rules s (h.take j)) ++ [.int ((stepR rules d (runB rules s (h.take i)) : Nat) : Int)] := by
        rw [List.range_succ, List.map_append]
        unfold iD
        rw [List.map_append, ← er]; rfl
      refine ⟨_, [.v (.dat (mD true s rules)), .v (.dat gv), .v (.dat (mD true s rules)), .own (iD ((List.range (i + 1 + 1)).map fun j => runB rules s (h.take j))), .v (.dat (.int a)), .v (.dat (.int d))], _, rfl, ?_, rfl, _, _, rfl⟩
      rw [ea]
      generalize iD ((List.range (i + 1)).map fun j => runB rules s (h.take j)) = acc at *
      generalize runB rules s (h.take i) = x at *
      simp only [b_boards_1, s_cons, s_appE, ev_ix, bA_ix, bA_var, bA_bv, ev_var, getV_def, getB_def, List.set_cons_succ, List.set_cons_zero, List.getElem?_cons_zero, List.getElem?_cons_succ, R.bind_ok, ev_cst, ixU_dat, e2, R.dat_some, k2, ev_neg, d1_dat, neg1, el, k3]
      simp [app_ok hz])
    (m := m) (σ := [.v (.dat (mD true s rules)), .v (.dat gv), .v (.dat (mD true s rules)), .own (iD [s]), .no, .no]) ⟨rfl, .no, .no, rfl⟩
  obtain ⟨σ', m', h1, rfl, s4, s5, rfl⟩ := key
  rw [hDl_len] at h1
  have loop : evS L (callN L P (n + 8)) l_boards_1 [.v (.dat (mD true s rules)), .v (.dat gv), .v (.dat (mD true s rules)), .own (iD [s]), .no, .no] m' = .ok (.nx, [.v (.dat (mD true s rules)), .v (.dat gv), .v (.dat (mD true s rules)), .own (iD (bsH rules s h)), s4, s5]) m' := by
    show evS L _ (.for_ _ _ _) _ _ = _
    simp only [s_forE, it_seq, ev_call, ev_cons, ev_nil, ev_glb, ev_var, getV, List.getElem?_cons_zero, List.getElem?_cons_succ, R.bind_ok, kh, hD, seqU_tuple]
    unfold bsH
    exact h1
  have e0 : ixVal (mD true s rules) (.int 0) = some (.int s) := rfl
  have es : iD [s] = [.int (s : Int)] := rfl
  rw [es] at loop
  have et : b1Val .tuple (.list (iD (bsH rules s h))) = some (tI (bsH rules s h)) := rfl
  simp [d_boards, kc, e0, loop, et]
def nthS : Nat → Ss → S
  | _, .nil => .pass
  | 0, .cons s _ => s
  | i + 1, .cons _ t => nthS i t
theorem b_law_1_cut : b_law_1 = .cons (nthS 0 b_law_1) (.cons (nthS 1 b_law_1) (.cons (nthS 2 b_law_1) (.cons (nthS 3 b_law_1) (.cons (nthS 4 b_law_1) (.cons (nthS 5 b_law_1) (.cons (nthS 6 b_law_1) (.cons (nthS 7 b_law_1) (.cons (nthS 8 b_law_1) (.cons (nthS 9 b_law_1) (.cons (nthS 10 b_law_1) (.cons (nthS 11 b_law_1) (.cons (nthS 12 b_law_1) (.cons (nthS 13 b_law_1) (.cons (nthS 14 b_law_1) (.cons (nthS 15 b_law_1) (.cons (nthS 16 b_law_1) (.cons (nthS 17 b_law_1) (.cons (nthS 18 b_law_1) .nil)))))))))))))))))) := rfl
section
variable {C : Calls} {m1 m2 m3 : Mem} {s0 s1 s2 s3 s4 s5 s6 s7 s8 s9 s10 s11 s12 s13 s14 : Sl} {u0 u1 u2 u3 u4 u5 u6 u7 u8 u9 u10 u11 u12 u13 u14 : U} {x y : U} {b s K : Nat} {rules : List (List Nat)} {ps : List Pr} {S : Nat → List I3}
theorem w0 (h : C 30 [u0, u1] m = .ok x m1) : evS 1000 C (nthS 0 b_law_1) [.v u0, .v u1, s2, s3, s4, s5, s6, s7, s8, s9, s10, s11, s12, s13, s14] m = .ok (.nx, [.v u0, .v u1, .v x, s3, s4, s5, s6, s7, s8, s9, s10, s11, s12, s13, s14]) m1 := by
  simp [nthS, b_law_1, h]
theorem w1 (h : C 33 [u2] m = .ok (.dat (mD true s rules)) m1) (h2 : C 32 [u2, .dat (.list [.int 1, .int 2, .int 2, .int 3, .int 4])] m1 = .ok (.dat (.int (K : Int))) m2) : evS 1000 C (nthS 1 b_law_1) [.v u0, .v u1, .v u2, s3, s4, s5, s6, s7, s8, s9, s10, s11, s12, s13, s14] m = .ok (.nx, [.v u0, .v u1, .v u2, s3, s4, s5, s6, s7, s8, .v (.dat (mD true s rules)), .v (.dat (.int (K : Int))), s11, s12, s13, s14]) m2 := by
  simp [nthS, b_law_1, h, h2]
theorem w2 (h : C 34 [u2, .dat (.int (K : Int)), .dat (.int (rules.length : Nat))] m = .ok (.dat (psD false true ps)) m1) : evS 1000 C (nthS 2 b_law_1) [.v u0, .v u1, .v u2, s3, s4, s5, s6, s7, s8, .v (.dat (mD true s rules)), .v (.dat (.int (K : Int))), s11, s12, s13, s14] m = .ok (.nx, [.v u0, .v u1, .v u2, .v (.dat (psD false true ps)), s4, s5, s6, s7, s8, .v (.dat (mD true s rules)), .v (.dat (.int (K : Int))), s11, s12, s13, s14]) m1 := by
  have e : ixVal (mD true s rules) (.int 1) = some (.tuple (rD rules)) := rfl
  simp [nthS, b_law_1, e, rD_len, h]
theorem w3 (hl : ps.length ≤ 20) (h : ∀ (k : Nat), k ≤ ps.length → C 36 [.dat (psD false true ps), .dat (.int (k : Int))] m = .ok (.dat (hD (hist (S k)))) m) : evS 1000 C (nthS 3 b_law_1) [.v u0, .v u1, .v u2, .v (.dat (psD false true ps)), s4, s5, s6, s7, s8, .v (.dat (mD true s rules)), .v (.dat (.int (K : Int))), s11, s12, s13, s14] m = .ok (.nx, [.v u0, .v u1, .v u2, .v (.dat (psD false true ps)), .own (hsD (fun k => hist (S k)) ps.length), s5, s6, s7, s8, .v (.dat (mD true s rules)), .v (.dat (.int (K : Int))), s11, s12, s13, s14]) m := by
  have hlen : b1Val .len (psD false true ps) = some (.int (ps.length : Nat)) := by show some (PyData.int ((psL true ps).length : Nat)) = _; rw [psL_len]
  have hr := rng1_nat (k := ps.length + 1) (m := m) (by omega)
  rw [rng0, show ((ps.length + 1 : Nat) : Int) = (ps.length : Int) + 1 by omega] at hr
  have key : evE C c_law_1 [.v u0, .v u1, .v u2, .v (.dat (psD false true ps)), s4, s5, s6, s7, s8, .v (.dat (mD true s rules)), .v (.dat (.int (K : Int))), s11, s12, s13, s14] m = .ok (.dat (.list (hsD (fun k => hist (S k)) ps.length))) m := by
    refine ev_compM (g := fun x : Nat => PyData.int (x : Int)) ?_ (by rw [List.length_range]; omega) fun k hk => ?_
    · simp only [it_rng1, ev_bin, ev_b1, bA_b1, bA_cst, bA_var, ev_cst, ev_var, getV_def, List.getElem?_cons_zero, List.getElem?_cons_succ, R.bind_ok, d1_dat, hlen, R.dat_some, d2_dat, bv_addI, asInt_int, hr]
    · have hk := List.mem_range.mp hk
      have hh := h k (by omega)
      refine ⟨_, rfl, ?_⟩
      generalize psD false true ps = pv at *
      simp [e_law_1, hh]
  show evS 1000 C (.own 4 c_law_1) _ _ = _
  simp only [s_ownE, key, R.bind_ok, setE_def, List.length_cons, List.length_nil, List.set_cons_succ, List.set_cons_zero]
  rfl
theorem w4  : evS 1000 C (nthS 4 b_law_1) [.v u0, .v u1, .v u2, .v (.dat (psD false true ps)), .own (hsD (fun k => hist (S k)) ps.length), s5, s6, s7, s8, .v (.dat (mD true s rules)), .v (.dat (.int (K : Int))), s11, s12, s13, s14] m = .ok (.nx, [.v u0, .v u1, .v u2, .v (.dat (psD false true ps)), .v (.dat (.list (hsD (fun k => hist (S k)) ps.length))), s5, s6, s7, s8, .v (.dat (mD true s rules)), .v (.dat (.int (K : Int))), s11, s12, s13, s14]) m := by
  show evS 1000 C (.frz 4) _ _ = _
  simp only [s_frzE, List.getElem?_cons_zero, List.getElem?_cons_succ, List.set_cons_succ, List.set_cons_zero]
theorem w5 (h : C 27 [.dat (mD true s rules), .dat (.int (K : Int)), .dat (psD false true ps)] m = .ok (.dat (hD (hist (S ps.length)))) m) (h2 : C 27 [.dat (mD true s rules), .dat (.int (K : Int)), .dat (psD true true ps)] m = .ok (.dat (hD (hist (S ps.length)))) m) : evS 1000 C (nthS 5 b_law_1) [.v u0, .v u1, .v u2, .v (.dat (psD false true ps)), .v (.dat (.list (hsD (fun k => hist (S k)) ps.length))), s5, s6, s7, s8, .v (.dat (mD true s rules)), .v (.dat (.int (K : Int))), s11, s12, s13, s14] m = .ok (.nx, [.v u0, .v u1, .v u2, .v (.dat (psD false true ps)), .v (.dat (.list (hsD (fun k => hist (S k)) ps.length))), .v (.dat (.list [hD (hist (S ps.length)), hD (hist (S ps.length))])), s6, s7, s8, .v (.dat (mD true s rules)), .v (.dat (.int (K : Int))), s11, s12, s13, s14]) m := by
  have t1 : b1Val .tuple (psD false true ps) = some (psD true true ps) := rfl
  have hp : permL [U.dat (psD true true ps), .dat (mD true s rules), .dat (.int (K : Int))] [1, 2, 0] = some [U.dat (mD true s rules), .dat (.int (K : Int)), .dat (psD true true ps)] := rfl
  generalize psD true true ps = p2 at *
  generalize psD false true ps = p1 at *
  generalize mD true s rules = um at *
  simp [nthS, b_law_1, h, t1, hp, R.ofO, h2]
theorem w6 {z : Str} (hz : b1Val .repr (.list [hD (hist (S ps.length)), hD (hist (S ps.length))]) = some (.str z)) : evS 1000 C (nthS 6 b_law_1) [.v u0, .v u1, .v u2, .v (.dat (psD false true ps)), .v (.dat (.list (hsD (fun k => hist (S k)) ps.length))), .v (.dat (.list [hD (hist (S ps.length)), hD (hist (S ps.length))])), s6, s7, s8, .v (.dat (mD true s rules)), .v (.dat (.int (K : Int))), s11, s12, s13, s14] m = .ok (.nx, [.v u0, .v u1, .v u2, .v (.dat (psD false true ps)), .v (.dat (.list (hsD (fun k => hist (S k)) ps.length))), .v (.dat (.list [hD (hist (S ps.length)), hD (hist (S ps.length))])), s6, s7, s8, .v (.dat (mD true s rules)), .v (.dat (.int (K : Int))), s11, s12, s13, s14]) m := by
  have el : ixVal (.list (hsD (fun k => hist (S k)) ps.length)) (.int (-1)) = some (hD (hist (S ps.length))) := atI_last (hsD_last _ _)
  have l := lmul2 (hD (hist (S ps.length)))
  have nz := ne_str z
  generalize hD (hist (S ps.length)) = v1 at *
  generalize PyData.list (hsD (fun k => hist (S k)) ps.length) = v2 at *
  simp [nthS, b_law_1, neg1, el, hz, l, nz]
theorem w7 (hl : ps.length ≤ 20) (h : C 26 [.dat (mD true s rules), .dat (.int (K : Int)), .dat (psD false false ps)] m = .ok (.dat (.tuple (psL true ps))) m) : evS 1000 C (nthS 7 b_law_1) [.v u0, .v u1, .v u2, .v (.dat (psD false true ps)), .v (.dat (.list (hsD (fun k => hist (S k)) ps.length))), .v (.dat (.list [hD (hist (S ps.length)), hD (hist (S ps.length))])), s6, s7, s8, .v (.dat (mD true s rules)), .v (.dat (.int (K : Int))), s11, s12, s13, s14] m = .ok (.nx, [.v u0, .v u1, .v u2, .v (.dat (psD false true ps)), .v (.dat (.list (hsD (fun k => hist (S k)) ps.length))), .v (.dat (.tuple (psL true ps))), s6, s7, s8, .v (.dat (mD true s rules)), .v (.dat (.int (K : Int))), s11, s12, s13, s14]) m := by
  have key : evE C c_law_2 [.v u0, .v u1, .v u2, .v (.dat (psD false true ps)), .v (.dat (.list (hsD (fun k => hist (S k)) ps.length))), .v (.dat (.list [hD (hist (S ps.length)), hD (hist (S ps.length))])), s6, s7, s8, .v (.dat (mD true s rules)), .v (.dat (.int (K : Int))), s11, s12, s13, s14] m = .ok (.dat (psD false false ps)) m := by
    have e : psD false false ps = .list (ps.map fun q => prD false q) := rfl
    rw [e]
    refine ev_compM (g := fun q : Pr => prD true q) ?_ (by omega) fun q hq => ?_
    · have hsq : seqU (.dat (psD false true ps)) m = .ok (ps.map fun q => prD true q) m := rfl
      simp only [it_seq, ev_var, getV_def, List.getElem?_cons_zero, List.getElem?_cons_succ, R.bind_ok, hsq]
    · have l1 : b1Val .list (prD true q) = some (prD false q) := by
        obtain ⟨a, d⟩ := q
        cases d <;> rfl
      refine ⟨_, rfl, ?_⟩
      generalize prD true q = v1 at *
      generalize prD false q = v2 at *
      simp [e_law_2, l1]
  have key2 : bA c_law_2 (evE C c_law_2) [.v u0, .v u1, .v u2, .v (.dat (psD false true ps)), .v (.dat (.list (hsD (fun k => hist (S k)) ps.length))), .v (.dat (.list [hD (hist (S ps.length)), hD (hist (S ps.length))])), s6, s7, s8, .v (.dat (mD true s rules)), .v (.dat (.int (K : Int))), s11, s12, s13, s14] m = .ok (.dat (psD false false ps)) m := key
  generalize psD false false ps = p2 at *
  generalize psD false true ps = p1 at *
  generalize mD true s rules = um at *
  generalize hD (hist (S ps.length)) = v1 at *
  simp [nthS, b_law_1, key, h]
theorem w8 {z : Str} (hz : b1Val .repr (.list [.tuple (psL true ps), .tuple (psL true ps)]) = some (.str z)) (h : C 26 [.dat (mD true s rules), .dat (.int (K : Int)), .dat (psD false true ps)] m = .ok (.dat (.tuple (psL true ps))) m) : evS 1000 C (nthS 8 b_law_1) [.v u0, .v u1, .v u2, .v (.dat (psD false true ps)), .v (.dat (.list (hsD (fun k => hist (S k)) ps.length))), .v (.dat (.tuple (psL true ps))), s6, s7, s8, .v (.dat (mD true s rules)), .v (.dat (.int (K : Int))), s11, s12, s13, s14] m = .ok (.nx, [.v u0, .v u1, .v u2, .v (.dat (psD false true ps)), .v (.dat (.list (hsD (fun k => hist (S k)) ps.length))), .v (.dat (.tuple (psL true ps))), s6, s7, s8, .v (.dat (mD true s rules)), .v (.dat (.int (K : Int))), s11, s12, s13, s14]) m := by
  have hp : permL [U.dat (psD false true ps), .dat (.int (K : Int)), .dat (mD true s rules)] [2, 1, 0] = some [U.dat (mD true s rules), .dat (.int (K : Int)), .dat (psD false true ps)] := rfl
  have t1 : b1Val .tuple (psD false true ps) = some (.tuple (psL true ps)) := rfl
  have l := lmul2 (.tuple (psL true ps))
  have nz := ne_str z
  generalize psD false true ps = p1 at *
  generalize PyData.tuple (psL true ps) = p2 at *
  generalize mD true s rules = um at *
  simp [nthS, b_law_1, hp, R.ofO, h, t1, hz, l, nz]
theorem w9 (hl : ps.length ≤ 20) (h : ∀ (k : Nat), k ≤ ps.length → C 37 [.dat (mD true s rules), .dat (hD (hist (S k)))] m = .ok (.dat (.int (runB rules s (hist (S k)) : Nat))) m) : evS 1000 C (nthS 9 b_law_1) [.v u0, .v u1, .v u2, .v (.dat (psD false true ps)), .v (.dat (.list (hsD (fun k => hist (S k)) ps.length))), .v (.dat (.tuple (psL true ps))), s6, s7, s8, .v (.dat (mD true s rules)), .v (.dat (.int (K : Int))), s11, s12, s13, s14] m = .ok (.nx, [.v u0, .v u1, .v u2, .v (.dat (psD false true ps)), .v (.dat (.list (hsD (fun k => hist (S k)) ps.length))), .v (.dat (.tuple (psL true ps))), .v (.dat (tI (bsOf rules s (fun k => hist (S k)) ps.length))), s7, s8, .v (.dat (mD true s rules)), .v (.dat (.int (K : Int))), s11, s12, s13, s14]) m := by
  have key : evE C c_law_3 [.v u0, .v u1, .v u2, .v (.dat (psD false true ps)), .v (.dat (.list (hsD (fun k => hist (S k)) ps.length))), .v (.dat (.tuple (psL true ps))), s6, s7, s8, .v (.dat (mD true s rules)), .v (.dat (.int (K : Int))), s11, s12, s13, s14] m = .ok (.dat (.list (iD (bsOf rules s (fun k => hist (S k)) ps.length)))) m := by
    have e : iD (bsOf rules s (fun k => hist (S k)) ps.length) = (List.range (ps.length + 1)).map fun k => PyData.int (runB rules s (hist (S k)) : Nat) := by unfold iD bsOf; rw [List.map_map]; rfl
    rw [e]
    refine ev_compM (g := fun k : Nat => hD (hist (S k))) ?_ (by rw [List.length_range]; omega) fun k hk => ?_
    · simp only [it_seq, ev_var, getV_def, List.getElem?_cons_zero, List.getElem?_cons_succ, R.bind_ok, seqU_list]
      rfl
    · have hk := List.mem_range.mp hk
      have hh := h k (by omega)
      refine ⟨_, rfl, ?_⟩
      generalize hD (hist (S k)) = v1 at *
      generalize mD true s rules = um at *
      simp [e_law_3, hh]
  have et : b1Val .tuple (.list (iD (bsOf rules s (fun k => hist (S k)) ps.length))) = some (tI (bsOf rules s (fun k => hist (S k)) ps.length)) := rfl
  have key2 : bA c_law_3 (evE C c_law_3) [.v u0, .v u1, .v u2, .v (.dat (psD false true ps)), .v (.dat (.list (hsD (fun k => hist (S k)) ps.length))), .v (.dat (.tuple (psL true ps))), s6, s7, s8, .v (.dat (mD true s rules)), .v (.dat (.int (K : Int))), s11, s12, s13, s14] m = .ok (.dat (.list (iD (bsOf rules s (fun k => hist (S k)) ps.length)))) m := key
  show evS 1000 C (.asg 6 (.b1 .tuple c_law_3)) _ _ = _
  simp only [s_asgE, ev_b1, key2, R.bind_ok, d1_dat, et, R.dat_some, setE_def, List.length_cons, List.length_nil, List.set_cons_succ, List.set_cons_zero]
  rfl
theorem w10 (h : C 28 [.dat (mD true s rules), .dat (.int (K : Int)), .dat (psD false true ps)] m = .ok (.dat (tI (bsOf rules s (fun k => hist (S k)) ps.length))) m) : evS 1000 C (nthS 10 b_law_1) [.v u0, .v u1, .v u2, .v (.dat (psD false true ps)), .v (.dat (.list (hsD (fun k => hist (S k)) ps.length))), .v (.dat (.tuple (psL true ps))), .v (.dat (tI (bsOf rules s (fun k => hist (S k)) ps.length))), s7, s8, .v (.dat (mD true s rules)), .v (.dat (.int (K : Int))), s11, s12, s13, s14] m = .ok (.nx, [.v u0, .v u1, .v u2, .v (.dat (psD false true ps)), .v (.dat (.list (hsD (fun k => hist (S k)) ps.length))), .v (.dat (.list [tI (bsOf rules s (fun k => hist (S k)) ps.length), tI (bsOf rules s (fun k => hist (S k)) ps.length)])), .v (.dat (tI (bsOf rules s (fun k => hist (S k)) ps.length))), s7, s8, .v (.dat (mD true s rules)), .v (.dat (.int (K : Int))), s11, s12, s13, s14]) m := by
  have hp : permL [U.dat (.int (K : Int)), .dat (psD false true ps), .dat (mD true s rules)] [2, 0, 1] = some [U.dat (mD true s rules), .dat (.int (K : Int)), .dat (psD false true ps)] := rfl
  generalize tI (bsOf rules s (fun k => hist (S k)) ps.length) = bv at *
  generalize psD false true ps = p1 at *
  generalize mD true s rules = um at *
  simp [nthS, b_law_1, h, hp, R.ofO]
theorem w11 {z : Str} (hz : b1Val .repr (.list [tI (bsOf rules s (fun k => hist (S k)) ps.length), tI (bsOf rules s (fun k => hist (S k)) ps.length)]) = some (.str z)) : evS 1000 C (nthS 11 b_law_1) [.v u0, .v u1, .v u2, .v (.dat (psD false true ps)), .v (.dat (.list (hsD (fun k => hist (S k)) ps.length))), .v (.dat (.list [tI (bsOf rules s (fun k => hist (S k)) ps.length), tI (bsOf rules s (fun k => hist (S k)) ps.length)])), .v (.dat (tI (bsOf rules s (fun k => hist (S k)) ps.length))), s7, s8, .v (.dat (mD true s rules)), .v (.dat (.int (K : Int))), s11, s12, s13, s14] m = .ok (.nx, [.v u0, .v u1, .v u2, .v (.dat (psD false true ps)), .v (.dat (.list (hsD (fun k => hist (S k)) ps.length))), .v (.dat (.list [tI (bsOf rules s (fun k => hist (S k)) ps.length), tI (bsOf rules s (fun k => hist (S k)) ps.length)])), .v (.dat (tI (bsOf rules s (fun k => hist (S k)) ps.length))), s7, s8, .v (.dat (mD true s rules)), .v (.dat (.int (K : Int))), s11, s12, s13, s14]) m := by
  have l := lmul2 (tI (bsOf rules s (fun k => hist (S k)) ps.length))
  have nz := ne_str z
  generalize tI (bsOf rules s (fun k => hist (S k)) ps.length) = bv at *
  simp [nthS, b_law_1, hz, l, nz]
theorem w12 (hl : ps.length ≤ 20) (h : ∀ (k a : Nat), ps[k]? = some (a, none) → C 35 [.dat (psD false true ps), .dat (.int (k : Int))] m = .ok (.dat (.int (tk S a k : Nat))) m) : evS 1000 C (nthS 12 b_law_1) [.v u0, .v u1, .v u2, .v (.dat (psD false true ps)), .v (.dat (.list (hsD (fun k => hist (S k)) ps.length))), .v (.dat (.list [tI (bsOf rules s (fun k => hist (S k)) ps.length), tI (bsOf rules s (fun k => hist (S k)) ps.length)])), .v (.dat (tI (bsOf rules s (fun k => hist (S k)) ps.length))), s7, s8, .v (.dat (mD true s rules)), .v (.dat (.int (K : Int))), s11, s12, s13, s14] m = .ok (.nx, [.v u0, .v u1, .v u2, .v (.dat (psD false true ps)), .v (.dat (.list (hsD (fun k => hist (S k)) ps.length))), .v (.dat (.list [tI (bsOf rules s (fun k => hist (S k)) ps.length), tI (bsOf rules s (fun k => hist (S k)) ps.length)])), .v (.dat (tI (bsOf rules s (fun k => hist (S k)) ps.length))), .own (hDl (pk ps S ps.length)), s8, .v (.dat (mD true s rules)), .v (.dat (.int (K : Int))), s11, s12, s13, s14]) m := by
  have hlen : b1Val .len (psD false true ps) = some (.int (ps.length : Nat)) := by show some (PyData.int ((psL true ps).length : Nat)) = _; rw [psL_len]
  have hr := rng1_nat (k := ps.length) (m := m) (by omega)
  rw [rng0] at hr
  have key : evE C c_law_4 [.v u0, .v u1, .v u2, .v (.dat (psD false true ps)), .v (.dat (.list (hsD (fun k => hist (S k)) ps.length))), .v (.dat (.list [tI (bsOf rules s (fun k => hist (S k)) ps.length), tI (bsOf rules s (fun k => hist (S k)) ps.length)])), .v (.dat (tI (bsOf rules s (fun k => hist (S k)) ps.length))), s7, s8, .v (.dat (mD true s rules)), .v (.dat (.int (K : Int))), s11, s12, s13, s14] m = .ok (.dat (.list (hDl (pk ps S ps.length)))) m := by
    have e : hDl (pk ps S ps.length) = ((List.range ps.length).filter (isBack ps)).map fun b => pD (tk S (handAt ps b) b, b) := by unfold hDl pk; rw [List.map_map]; rfl
    rw [e]
    refine ev_compF (g := fun x : Nat => PyData.int (x : Int)) rfl ?_ (by rw [List.length_range]; omega) fun b hb => ?_
    · simp only [it_rng1, ev_b1, bA_var, ev_var, getV_def, List.getElem?_cons_zero, List.getElem?_cons_succ, R.bind_ok, d1_dat, hlen, R.dat_some, asInt_int, hr]
    · have hb := List.mem_range.mp hb
      have hq := List.getElem?_eq_getElem (l := ps) (i := b) (by omega)
      obtain ⟨q, hqq⟩ : ∃ q, q = ps[b] := ⟨_, rfl⟩
      rw [← hqq] at hq
      have e1 := psL_at (t1 := true) hq
      have p0 := pr_0 q
      have ek := eq_kind q
      refine ⟨_, rfl, ?_, fun hbk => ?_⟩
      · rw [isBack_of hq]
        generalize tI (bsOf rules s (fun k => hist (S k)) ps.length) = bv at *
        generalize prD true q = v1 at *
        generalize psD false true ps = v3 at *
        simp only [t_law_1, wipeE_cons, wipeE_nil, List.map_cons, List.map_nil, List.set_cons_succ, List.set_cons_zero, ev_cmp, bA_ix, ev_ix, bA_var, bA_cst, ev_var, ev_cst, getV_def, List.getElem?_cons_zero, List.getElem?_cons_succ, R.bind_ok, ixU_dat, e1, R.dat_some, p0, d2_dat, ek]
      · obtain ⟨a, ha⟩ := isBack_iff.mp hbk
        have hh := h b a ha
        have hha : handAt ps b = a := by unfold handAt; rw [ha]
        rw [hha]
        generalize tI (bsOf rules s (fun k => hist (S k)) ps.length) = bv at *
        generalize psD false true ps = v3 at *
        simp [e_law_4, hh, pD]
  show evS 1000 C (.own 7 c_law_4) _ _ = _
  simp only [s_ownE, key, R.bind_ok, setE_def, List.length_cons, List.length_nil, List.set_cons_succ, List.set_cons_zero]
  rfl
theorem w13  : evS 1000 C (nthS 13 b_law_1) [.v u0, .v u1, .v u2, .v (.dat (psD false true ps)), .v (.dat (.list (hsD (fun k => hist (S k)) ps.length))), .v (.dat (.list [tI (bsOf rules s (fun k => hist (S k)) ps.length), tI (bsOf rules s (fun k => hist (S k)) ps.length)])), .v (.dat (tI (bsOf rules s (fun k => hist (S k)) ps.length))), .own (hDl (pk ps S ps.length)), s8, .v (.dat (mD true s rules)), .v (.dat (.int (K : Int))), s11, s12, s13, s14] m = .ok (.nx, [.v u0, .v u1, .v u2, .v (.dat (psD false true ps)), .v (.dat (.list (hsD (fun k => hist (S k)) ps.length))), .v (.dat (.list [tI (bsOf rules s (fun k => hist (S k)) ps.length), tI (bsOf rules s (fun k => hist (S k)) ps.length)])), .v (.dat (tI (bsOf rules s (fun k => hist (S k)) ps.length))), .v (.dat (.list (hDl (pk ps S ps.length)))), s8, .v (.dat (mD true s rules)), .v (.dat (.int (K : Int))), s11, s12, s13, s14]) m := by
  show evS 1000 C (.frz 7) _ _ = _
  simp only [s_frzE, List.getElem?_cons_zero, List.getElem?_cons_succ, List.set_cons_succ, List.set_cons_zero]
theorem w14 {g : Hi} (h : C 29 [.dat (mD true s rules), .dat (.int (K : Int)), .dat (psD false true ps)] m = .ok (.dat (hD g)) m1) (h2 : C 29 [.dat (mD true s rules), .dat (.int (K : Int)), .dat (psD false true ps)] m1 = .ok (.dat (hD g)) m2) : evS 1000 C (nthS 14 b_law_1) [.v u0, .v u1, .v u2, .v (.dat (psD false true ps)), .v (.dat (.list (hsD (fun k => hist (S k)) ps.length))), .v (.dat (.list [tI (bsOf rules s (fun k => hist (S k)) ps.length), tI (bsOf rules s (fun k => hist (S k)) ps.length)])), .v (.dat (tI (bsOf rules s (fun k => hist (S k)) ps.length))), .v (.dat (.list (hDl (pk ps S ps.length)))), s8, .v (.dat (mD true s rules)), .v (.dat (.int (K : Int))), s11, s12, s13, s14] m = .ok (.nx, [.v u0, .v u1, .v u2, .v (.dat (psD false true ps)), .v (.dat (.list (hsD (fun k => hist (S k)) ps.length))), .v (.dat (.list [hD g, hD g])), .v (.dat (tI (bsOf rules s (fun k => hist (S k)) ps.length))), .v (.dat (.list (hDl (pk ps S ps.length)))), s8, .v (.dat (mD true s rules)), .v (.dat (.int (K : Int))), s11, s12, s13, s14]) m2 := by
  have hp : permL [U.dat (psD false true ps), .dat (mD true s rules), .dat (.int (K : Int))] [1, 2, 0] = some [U.dat (mD true s rules), .dat (.int (K : Int)), .dat (psD false true ps)] := rfl
  generalize tI (bsOf rules s (fun k => hist (S k)) ps.length) = bv at *
  generalize PyData.list (hDl (pk ps S ps.length)) = v7 at *
  generalize hD g = v8 at *
  generalize psD false true ps = p1 at *
  generalize mD true s rules = um at *
  simp [nthS, b_law_1, h, hp, R.ofO, h2]
theorem w15 {g : Hi} {z : Str} (hg : b1Val .sorted (.list (hDl (pk ps S ps.length))) = some (.list (hDl g))) (hz : b1Val .repr (.list [hD g, hD g]) = some (.str z)) : evS 1000 C (nthS 15 b_law_1) [.v u0, .v u1, .v u2, .v (.dat (psD false true ps)), .v (.dat (.list (hsD (fun k => hist (S k)) ps.length))), .v (.dat (.list [hD g, hD g])), .v (.dat (tI (bsOf rules s (fun k => hist (S k)) ps.length))), .v (.dat (.list (hDl (pk ps S ps.length)))), s8, .v (.dat (mD true s rules)), .v (.dat (.int (K : Int))), s11, s12, s13, s14] m = .ok (.nx, [.v u0, .v u1, .v u2, .v (.dat (psD false true ps)), .v (.dat (.list (hsD (fun k => hist (S k)) ps.length))), .v (.dat (.list [hD g, hD g])), .v (.dat (tI (bsOf rules s (fun k => hist (S k)) ps.length))), .v (.dat (.list (hDl (pk ps S ps.length)))), s8, .v (.dat (mD true s rules)), .v (.dat (.int (K : Int))), s11, s12, s13, s14]) m := by
  have t1 : b1Val .tuple (.list (hDl g)) = some (hD g) := rfl
  have l := lmul2 (hD g)
  have nz := ne_str z
  generalize PyData.list (hDl (pk ps S ps.length)) = v7 at *
  generalize PyData.list (hDl g) = v9 at *
  generalize hD g = v8 at *
  simp [nthS, b_law_1, hz, hg, t1, l, nz]
theorem w16 {g : Hi} (hl : (hist (S ps.length)).length ≤ 20) (h : ∀ (k : Nat), C 37 [.dat (mD true s rules), .dat (hD ((hist (S ps.length)).take k))] m = .ok (.dat (.int (runB rules s ((hist (S ps.length)).take k) : Nat))) m) : evS 1000 C (nthS 16 b_law_1) [.v u0, .v u1, .v u2, .v (.dat (psD false true ps)), .v (.dat (.list (hsD (fun k => hist (S k)) ps.length))), .v (.dat (.list [hD g, hD g])), .v (.dat (tI (bsOf rules s (fun k => hist (S k)) ps.length))), .v (.dat (.list (hDl (pk ps S ps.length)))), s8, .v (.dat (mD true s rules)), .v (.dat (.int (K : Int))), s11, s12, s13, s14] m = .ok (.nx, [.v u0, .v u1, .v u2, .v (.dat (psD false true ps)), .v (.dat (.list (hsD (fun k => hist (S k)) ps.length))), .v (.dat (.list [hD g, hD g])), .v (.dat (tI (bsOf rules s (fun k => hist (S k)) ps.length))), .v (.dat (.list (hDl (pk ps S ps.length)))), .v (.dat (tI (bsH rules s (hist (S ps.length))))), .v (.dat (mD true s rules)), .v (.dat (.int (K : Int))), s11, s12, s13, s14]) m := by
  have el : ixVal (.list (hsD (fun k => hist (S k)) ps.length)) (.int (-1)) = some (hD (hist (S ps.length))) := atI_last (hsD_last _ _)
  have hr := rng1_nat (k := (hist (S ps.length)).length + 1) (m := m) (by omega)
  rw [rng0, show (((hist (S ps.length)).length + 1 : Nat) : Int) = ((hist (S ps.length)).length : Int) + 1 by omega] at hr
  have hlen : b1Val .len (hD (hist (S ps.length))) = some (.int ((hist (S ps.length)).length : Nat)) := by show some (PyData.int ((hDl (hist (S ps.length))).length : Nat)) = _; rw [hDl_len]
  have key : evE C c_law_5 [.v u0, .v u1, .v u2, .v (.dat (psD false true ps)), .v (.dat (.list (hsD (fun k => hist (S k)) ps.length))), .v (.dat (.list [hD g, hD g])), .v (.dat (tI (bsOf rules s (fun k => hist (S k)) ps.length))), .v (.dat (.list (hDl (pk ps S ps.length)))), s8, .v (.dat (mD true s rules)), .v (.dat (.int (K : Int))), s11, s12, s13, s14] m = .ok (.dat (.list (iD (bsH rules s (hist (S ps.length)))))) m := by
    have e : iD (bsH rules s (hist (S ps.length))) = (List.range ((hist (S ps.length)).length + 1)).map fun k => PyData.int (runB rules s ((hist (S ps.length)).take k) : Nat) := by unfold iD bsH; rw [List.map_map]; rfl
    rw [e]
    refine ev_compM (g := fun x : Nat => PyData.int (x : Int)) ?_ (by rw [List.length_range]; omega) fun k hk => ?_
    · simp only [it_rng1, ev_bin, ev_b1, bA_b1, bA_ix, ev_ix, bA_cst, bA_var, ev_cst, ev_var, ev_neg, getV_def, List.getElem?_cons_zero, List.getElem?_cons_succ, R.bind_ok, d1_dat, neg1, ixU_dat, el, hlen, R.dat_some, d2_dat, bv_addI, asInt_int, hr]
    · have hk := List.mem_range.mp hk
      have hh := h k
      have csl : slVal (hD (hist (S ps.length))) none (some (k : Int)) = some (hD ((hist (S ps.length)).take k)) := by
        have := cutP_lo (xs := hDl (hist (S ps.length))) (a := k) (by rw [hDl_len]; omega)
        have e2 : (hDl (hist (S ps.length))).take k = hDl ((hist (S ps.length)).take k) := by unfold hDl; rw [List.map_take]
        rw [e2] at this
        exact this
      refine ⟨_, rfl, ?_⟩
      generalize hD ((hist (S ps.length)).take k) = v1 at *
      generalize hD (hist (S ps.length)) = v2 at *
      generalize PyData.list (hsD (fun k => hist (S k)) ps.length) = v3 at *
      generalize tI (bsOf rules s (fun k => hist (S k)) ps.length) = bv at *
      generalize mD true s rules = um at *
      simp [e_law_5, neg1, el, csl, hh]
  have et : b1Val .tuple (.list (iD (bsH rules s (hist (S ps.length))))) = some (tI (bsH rules s (hist (S ps.length)))) := rfl
  have key2 : bA c_law_5 (evE C c_law_5) [.v u0, .v u1, .v u2, .v (.dat (psD false true ps)), .v (.dat (.list (hsD (fun k => hist (S k)) ps.length))), .v (.dat (.list [hD g, hD g])), .v (.dat (tI (bsOf rules s (fun k => hist (S k)) ps.length))), .v (.dat (.list (hDl (pk ps S ps.length)))), s8, .v (.dat (mD true s rules)), .v (.dat (.int (K : Int))), s11, s12, s13, s14] m = .ok (.dat (.list (iD (bsH rules s (hist (S ps.length)))))) m := key
  show evS 1000 C (.asg 8 (.b1 .tuple c_law_5)) _ _ = _
  simp only [s_asgE, ev_b1, key2, R.bind_ok, d1_dat, et, R.dat_some, setE_def, List.length_cons, List.length_nil, List.set_cons_succ, List.set_cons_zero]
  rfl
theorem w17 {g : Hi} {z : Str} (h : C 18 [.dat (mD true s rules), .dat (hD (hist (S ps.length)))] m = .ok (.dat (tI (bsH rules s (hist (S ps.length))))) m) (h2 : C 18 [.dat (mD true s rules), .dat (hG false true (hist (S ps.length)))] m = .ok (.dat (tI (bsH rules s (hist (S ps.length))))) m) (hz : b1Val .repr (.list [tI (bsH rules s (hist (S ps.length))), tI (bsH rules s (hist (S ps.length)))]) = some (.str z)) : evS 1000 C (nthS 17 b_law_1) [.v u0, .v u1, .v u2, .v (.dat (psD false true ps)), .v (.dat (.list (hsD (fun k => hist (S k)) ps.length))), .v (.dat (.list [hD g, hD g])), .v (.dat (tI (bsOf rules s (fun k => hist (S k)) ps.length))), .v (.dat (.list (hDl (pk ps S ps.length)))), .v (.dat (tI (bsH rules s (hist (S ps.length))))), .v (.dat (mD true s rules)), .v (.dat (.int (K : Int))), s11, s12, s13, s14] m = .ok (.nx, [.v u0, .v u1, .v u2, .v (.dat (psD false true ps)), .v (.dat (.list (hsD (fun k => hist (S k)) ps.length))), .v (.dat (.list [hD g, hD g])), .v (.dat (tI (bsOf rules s (fun k => hist (S k)) ps.length))), .v (.dat (.list (hDl (pk ps S ps.length)))), .v (.dat (tI (bsH rules s (hist (S ps.length))))), .v (.dat (mD true s rules)), .v (.dat (.int (K : Int))), s11, s12, s13, s14]) m := by
  have el : ixVal (.list (hsD (fun k => hist (S k)) ps.length)) (.int (-1)) = some (hD (hist (S ps.length))) := atI_last (hsD_last _ _)
  have l1 : b1Val .list (hD (hist (S ps.length))) = some (hG false true (hist (S ps.length))) := rfl
  have hp : permL [U.dat (hG false true (hist (S ps.length))), .dat (mD true s rules)] [1, 0] = some [U.dat (mD true s rules), .dat (hG false true (hist (S ps.length)))] := rfl
  have l := lmul2 (tI (bsH rules s (hist (S ps.length))))
  have nz := ne_str z
  generalize tI (bsH rules s (hist (S ps.length))) = v0 at *
  generalize hG false true (hist (S ps.length)) = v1 at *
  generalize hD (hist (S ps.length)) = v2 at *
  generalize PyData.list (hsD (fun k => hist (S k)) ps.length) = v3 at *
  generalize mD true s rules = um at *
  simp [nthS, b_law_1, neg1, el, h, l1, hp, R.ofO, h2, hz, l, nz]
theorem w18 {g : Hi} (h : C 38 [.dat (mD true s rules), .dat (.int (K : Int)), .dat (psD false true ps), .dat (.list (hsD (fun k => hist (S k)) ps.length))] m = .ok (.dat (.bool true)) m) (h2 : C 39 [u2, .dat (mD true s rules), .dat (.int (K : Int)), .dat (psD false true ps), .dat (tI (bsOf rules s (fun k => hist (S k)) ps.length))] m = .ok (.dat (.bool true)) m1) : evS 1000 C (nthS 18 b_law_1) [.v u0, .v u1, .v u2, .v (.dat (psD false true ps)), .v (.dat (.list (hsD (fun k => hist (S k)) ps.length))), .v (.dat (.list [hD g, hD g])), .v (.dat (tI (bsOf rules s (fun k => hist (S k)) ps.length))), .v (.dat (.list (hDl (pk ps S ps.length)))), .v (.dat (tI (bsH rules s (hist (S ps.length))))), .v (.dat (mD true s rules)), .v (.dat (.int (K : Int))), s11, s12, s13, s14] m = .ok (.nx, [.v u0, .v u1, .v u2, .v (.dat (psD false true ps)), .v (.dat (.list (hsD (fun k => hist (S k)) ps.length))), .v (.dat (.list [hD g, hD g])), .v (.dat (tI (bsOf rules s (fun k => hist (S k)) ps.length))), .v (.dat (.list (hDl (pk ps S ps.length)))), .v (.dat (tI (bsH rules s (hist (S ps.length))))), .v (.dat (mD true s rules)), .v (.dat (.int (K : Int))), s11, s12, s13, s14]) m1 := by
  generalize PyData.list (hsD (fun k => hist (S k)) ps.length) = v3 at *
  generalize tI (bsOf rules s (fun k => hist (S k)) ps.length) = bv at *
  generalize psD false true ps = p1 at *
  generalize mD true s rules = um at *
  simp [nthS, b_law_1, h, h2]
end
theorem law_body {ns : List Int} {k : Nat} {s2 s3 s4 s5 s6 s7 s8 s9 s10 s11 s12 s13 s14 : Sl} (hns : ns.length ≤ 63) (hk : k ≤ 1000) : ∃ (m' : Mem) (t2 t3 t4 t5 t6 t7 t8 t9 t10 t11 t12 t13 t14 : Sl), evSs 1000 (callN 1000 P 19) b_law_1 [.v (.dat (.list (ns.map .int))), .v (.dat (.int k)), s2, s3, s4, s5, s6, s7, s8, s9, s10, s11, s12, s13, s14] m = .ok (.nx, [.v (.dat (.list (ns.map .int))), .v (.dat (.int k)), t2, t3, t4, t5, t6, t7, t8, t9, t10, t11, t12, t13, t14]) m' := by
  obtain ⟨m1, a1, a2⟩ := box_ok (L := 1000) (n := 18) (m := m) (ns := ns) hk hns
  generalize hq : m.length = q at a1 a2
  obtain ⟨b, s, rules, m2, c1, c2, c3⟩ := machine_ok (L := 1000) (n := 16) (m := m1) a2
  obtain ⟨ki, m3, b1, b2, b3⟩ := pick_int (L := 1000) (n := 17) (xs := [1, 2, 2, 3, 4]) c3 (by simp) (by decide)
  obtain ⟨K, rfl, k1, k4⟩ : ∃ K : Nat, ki = (K : Int) ∧ 1 ≤ K ∧ K ≤ 4 := by
    refine ⟨ki.toNat, ?_, ?_, ?_⟩ <;> (simp only [List.mem_cons, List.not_mem_nil, or_false] at b1; omega)
  have hR : 1 ≤ rules.length := by
    have := c1.ne
    rcases rules with _ | ⟨_, _⟩
    · exact absurd rfl this
    · simp
  obtain ⟨ps, S, m4, r, hqs, hl, d1, d2⟩ := presses_ok (L := 1000) (n := 16) (q := q) (K := K) (D := rules.length) b3 k1 k4 hR c1.l6
  have g3 := fun j (hj : j ≤ ps.length) => standing_ok (L := 1000) (n := 17) (m := m4) r hj (by omega)
  have g5 := fun t => history_of_ok (L := 1000) (n := 9) (m := m4) (t := t) (t1 := true) (tm := true) c1 k1 k4 r.toH hqs (by omega)
  have g7 := fun t1 => check_presses_ok (L := 1000) (n := 9) (m := m4) (t := false) (t1 := t1) (tm := true) c1 k1 k4 r.toH hqs (by omega)
  have hko := fun j (hj : j ≤ ps.length) => r.toH.ok hqs j hj
  have g9 := fun j (hj : j ≤ ps.length) => walk_ok (L := 1000) (n := 18) (m := m4) (h := hist (S j)) c1 (hko j hj).1
  have g10 := boards_shown_ok (L := 1000) (n := 8) (m := m4) (t := false) (t1 := true) (tm := true) c1 k1 k4 r.toH hqs (by omega)
  have g12 := fun j a (hj : ps[j]? = some (a, none)) => taken_ok (L := 1000) (n := 18) (m := m4) r hj (by omega)
  obtain ⟨g, gp, gs⟩ := sortedP_ok (pk ps S ps.length)
  obtain ⟨x1, f1⟩ := struck_ok (L := 1000) (n := 8) (m := m4) (t := false) (t1 := true) (tm := true) c1 k1 k4 r hqs (by omega)
  obtain ⟨x2, f2⟩ := struck_ok (L := 1000) (n := 8) (m := m4 ++ x1) (t := false) (t1 := true) (tm := true) c1 k1 k4 r hqs (by omega)
  have B6 : Bx q ((m4 ++ x1) ++ x2) := d1.app.app
  obtain ⟨hoN, hlN⟩ := hko ps.length (Nat.le_refl _)
  have g16 := fun j => walk_ok (L := 1000) (n := 18) (m := (m4 ++ x1) ++ x2) (h := (hist (S ps.length)).take j) (K := K) c1 fun p hp => hoN p (List.mem_of_mem_take hp)
  have g17 := fun t => boards_G (L := 1000) (n := 10) (m := (m4 ++ x1) ++ x2) (t := t) (t1 := true) c1 (hok_k hoN k4) (show (hist (S ps.length)).length ≤ 900 by omega)
  have g18 := steps_right_ok (L := 1000) (n := 7) (m := (m4 ++ x1) ++ x2) c1 k1 k4 r.toH hqs (by omega)
  obtain ⟨m7, B7, g19⟩ := less_right_ok (L := 1000) (n := 7) (m := (m4 ++ x1) ++ x2) B6 c1 k1 k4 r hqs hl
  have hl6 := c1.l6
  have hb8 := c1.b8
  have smH : ∀ p ∈ hist (S ps.length), p.1 < 1001 ∧ p.2 < 1001 := fun p hp => by have := hoN p hp; omega
  obtain ⟨z1, r1⟩ := pair_repr (hD_fac smH (by omega)) (by omega) (by omega)
  have fps : Fac (.tuple (psL true ps)) (20 * (36 + 1)) (1 + 1) := Fac.tuple (n := 20) (w := 36) (k := 1) (fun d hd => by
    obtain ⟨p, hp, rfl⟩ := List.mem_map.mp hd
    have := hqs p hp
    exact pr_fac (by have := this.1; omega) fun d hd => by have := this.2 d hd; omega) (by rw [psL_len]; omega)
  obtain ⟨z2, r2⟩ := pair_repr fps (by omega) (by omega)
  have smB : ∀ x ∈ bsOf rules s (fun k => hist (S k)) ps.length, x < 1001 := fun x hx => by
    unfold bsOf at hx
    obtain ⟨j, hj, rfl⟩ := List.mem_map.mp hx
    have hj := List.mem_range.mp hj
    have h1 : runB rules s (hist (S j)) < b := runB_lt c1 (K := K) c1.sb (hko j (by omega)).1
    show runB rules s (hist (S j)) < 1001
    omega
  obtain ⟨z3, r3⟩ := pair_repr (tI_fac smB (by unfold bsOf; rw [List.length_map, List.length_range]; omega)) (by omega) (by omega)
  have smG : ∀ p ∈ g, p.1 < 1001 ∧ p.2 < 1001 := fun p hp => by
    have hp := gp.mem_iff.mp hp
    unfold pk at hp
    obtain ⟨j, hj, rfl⟩ := List.mem_map.mp hp
    obtain ⟨hj1, hj2⟩ := List.mem_filter.mp hj
    have hj1 := List.mem_range.mp hj1
    obtain ⟨a, ha⟩ := isBack_iff.mp hj2
    have hh : handAt ps j = a := by unfold handAt; rw [ha]
    have := (r.tk_lt ha).1
    show tk S (handAt ps j) j < 1001 ∧ j < 1001
    rw [hh]
    omega
  obtain ⟨z4, r4⟩ := pair_repr (hD_fac smG (by rw [gp.length_eq]; have := pk_len ps S ps.length; omega)) (by omega) (by omega)
  have smL : ∀ x ∈ bsH rules s (hist (S ps.length)), x < 1001 := fun x hx => by
    unfold bsH at hx
    obtain ⟨j, hj, rfl⟩ := List.mem_map.mp hx
    have h1 : runB rules s ((hist (S ps.length)).take j) < b := runB_lt c1 (K := K) c1.sb fun p hp => hoN p (List.mem_of_mem_take hp)
    show runB rules s ((hist (S ps.length)).take j) < 1001
    omega
  obtain ⟨z5, r5⟩ := pair_repr (tI_fac smL (by rw [bsH_len]; omega)) (by omega) (by omega)
  have a1' : callN 1000 P 19 30 [.dat (.list (ns.map .int)), .dat (.int k)] m = .ok (.ref q) m1 := a1
  have g7a := g7 false
  have g7b := g7 true
  have g5a := g5 false
  have g5b := g5 true
  have g17a := g17 true
  have g17b := g17 false
  rw [hG_true] at g17a
  refine ⟨m7, .v (.ref q), .v (.dat (psD false true ps)), .v (.dat (.list (hsD (fun k => hist (S k)) ps.length))), .v (.dat (.list [hD g, hD g])), .v (.dat (tI (bsOf rules s (fun k => hist (S k)) ps.length))), .v (.dat (.list (hDl (pk ps S ps.length)))), .v (.dat (tI (bsH rules s (hist (S ps.length))))), .v (.dat (mD true s rules)), .v (.dat (.int (K : Int))), s11, s12, s13, s14, ?_⟩
  rw [b_law_1_cut]
  exact consS (w0 a1') (consS (w1 c2 b2) (consS (w2 d2) (consS (w3 (by omega) g3) (consS w4 (consS (w5 g5a g5b) (consS (w6 r1) (consS (w7 (by omega) g7a) (consS (w8 r2 g7b) (consS (w9 (by omega) g9) (consS (w10 g10) (consS (w11 r3) (consS (w12 (by omega) g12) (consS w13 (consS (w14 (f1 g gs) (f2 g gs)) (consS (w15 gs r4) (consS (w16 (by omega) g16) (consS (w17 g17a g17b r5) (consS (w18 g18 g19) (by rw [s_nil])))))))))))))))))))
theorem law_true (ns : List Int) (hns : ns.length ≤ 63) : ∃ m', callN 1000 P 20 40 [.dat (.list (ns.map .int))] [] = .ok (.dat (.bool true)) m' := by
  obtain ⟨r, hr, hr6⟩ : ∃ r : Nat, (∀ m : Mem, evI (callN 1000 P 19) (.rng1 (.cst (.int 3))) [.v (.dat (.list (ns.map .int))), .no, .no, .no, .no, .no, .no, .no, .no, .no, .no, .no, .no, .no, .no] m = .ok (rngD 0 r) m) ∧ r ≤ 1000 := by
    refine ⟨3, fun m => ?_, by omega⟩
    simp only [it_rng1, ev_cst, R.bind_ok, asInt_int]
    exact rng1_nat (k := 3) (by omega)
  have := forGo_inv (body := fun σ m => evSs 1000 (callN 1000 P 19) b_law_1 σ m) (tg := .nm 1) (rngD 0 r) (fun i σ m' => ∃ (s1 t2 t3 t4 t5 t6 t7 t8 t9 t10 t11 t12 t13 t14 : Sl), σ = [.v (.dat (.list (ns.map .int))), s1, t2, t3, t4, t5, t6, t7, t8, t9, t10, t11, t12, t13, t14])
    (fun i d σ m' hd ⟨s1, t2, t3, t4, t5, t6, t7, t8, t9, t10, t11, t12, t13, t14, hσ⟩ => by
      subst hσ
      have hi : i < r := by have := (List.getElem?_eq_some_iff.mp hd).1; rwa [rng_len] at this
      obtain ⟨_, rfl⟩ := rng_get hd
      obtain ⟨m2, v2, v3, v4, v5, v6, v7, v8, v9, v10, v11, v12, v13, v14, k⟩ := law_body (m := m') (ns := ns) (k := i) (s2 := t2) (s3 := t3) (s4 := t4) (s5 := t5) (s6 := t6) (s7 := t7) (s8 := t8) (s9 := t9) (s10 := t10) (s11 := t11) (s12 := t12) (s13 := t13) (s14 := t14) hns (by omega)
      refine ⟨[.v (.dat (.list (ns.map .int))), .v (.dat (.int i)), t2, t3, t4, t5, t6, t7, t8, t9, t10, t11, t12, t13, t14], _, m2, ?_, k, _, v2, v3, v4, v5, v6, v7, v8, v9, v10, v11, v12, v13, v14, rfl⟩
      rw [Int.zero_add]; rfl)
    (m := []) (σ := [.v (.dat (.list (ns.map .int))), .no, .no, .no, .no, .no, .no, .no, .no, .no, .no, .no, .no, .no, .no]) ⟨.no, .no, .no, .no, .no, .no, .no, .no, .no, .no, .no, .no, .no, .no, rfl⟩
  obtain ⟨σ', m', h2, s1, t2, t3, t4, t5, t6, t7, t8, t9, t10, t11, t12, t13, t14, rfl⟩ := this
  refine ⟨m', ?_⟩
  have loop : evS 1000 (callN 1000 P 19) l_law_1 [.v (.dat (.list (ns.map .int))), .no, .no, .no, .no, .no, .no, .no, .no, .no, .no, .no, .no, .no, .no] [] = .ok (.nx, [.v (.dat (.list (ns.map .int))), s1, t2, t3, t4, t5, t6, t7, t8, t9, t10, t11, t12, t13, t14]) m' := by
    show evS 1000 _ (.for_ _ _ _) _ _ = _
    rw [s_forE, hr, R.bind_ok]
    exact h2
  rw [call_eq P_law rfl]
  have e0 : (([.dat (.list (ns.map .int))] : List U).map Sl.v ++ List.replicate (d_law.N.length - ([.dat (.list (ns.map .int))] : List U).length) Sl.no) = [.v (.dat (.list (ns.map .int))), .no, .no, .no, .no, .no, .no, .no, .no, .no, .no, .no, .no, .no, .no] := rfl
  rw [e0]
  simp only [d_law, s_cons, loop, R.bind_ok, then_nx, s_retE, ev_cst, then_ret, s_nil, fin_ret]
end K07

open PySem PySem.W PyProof.Rows in
set_option maxRecDepth 100000 in
set_option maxHeartbeats 0 in
theorem PySem.Challenge.cw_ownback_k07_whole_presses_and_what_stand_holds : PySem.Challenge.rw_ownback_k07_whole_presses_and_what_stand.Holds := by
  w_on; o_law; k_head; (case hw => w_witness2)
  k_fill
  refine Eng.walk_eng (l := PySem.Challenge.rw_ownback_k07_whole_presses_and_what_stand) (n := 63) (k := 20) (lawId := 40) (G := K07.G) (P := K07.tb.prog) (L := 1000) (fd := K07.d_law) rfl (by decide) rfl ⟨rfl, by decide, by decide⟩ (fun w h Y => PySem.W.kIn_of Y) ?T K07.P_law rfl rfl rfl rfl K07.law_true
  case T =>
    intro w mg h KX Gn
    refine Eng.tab_of (t := K07.tb) KX Gn rfl ?dI K07.sd ?nI ?gI ?dD ?xT ?dF K07.sdf
    case dI =>
      refine' And.intro (Eng.di_mk ?zza0 ?zzl0 ?zzc0 ?zzk0) ?zzr0
      (case zza0 => k_is); (case zzl0 => k_is); (case zzc0 => k_is); (case zzk0 => k_is)
      refine' And.intro (Eng.di_mk ?zza1 ?zzl1 ?zzc1 ?zzk1) ?zzr1
      (case zza1 => k_is); (case zzl1 => k_is); (case zzc1 => k_is); (case zzk1 => k_is)
      refine' And.intro (Eng.di_mk ?zza2 ?zzl2 ?zzc2 ?zzk2) ?zzr2
      (case zza2 => k_is); (case zzl2 => k_is); (case zzc2 => k_is); (case zzk2 => k_is)
      refine' And.intro (Eng.di_mk ?zza3 ?zzl3 ?zzc3 ?zzk3) ?zzr3
      (case zza3 => k_is); (case zzl3 => k_is); (case zzc3 => k_is); (case zzk3 => k_is)
      refine' And.intro (Eng.di_mk ?zza4 ?zzl4 ?zzc4 ?zzk4) ?zzr4
      (case zza4 => k_is); (case zzl4 => k_is); (case zzc4 => k_is); (case zzk4 => k_is)
      refine' And.intro (Eng.di_mk ?zza5 ?zzl5 ?zzc5 ?zzk5) ?zzr5
      (case zza5 => k_is); (case zzl5 => k_is); (case zzc5 => k_is); (case zzk5 => k_is)
      refine' And.intro (Eng.di_mk ?zza6 ?zzl6 ?zzc6 ?zzk6) ?zzr6
      (case zza6 => k_is); (case zzl6 => k_is); (case zzc6 => k_is); (case zzk6 => k_is)
      refine' And.intro (Eng.di_mk ?zza7 ?zzl7 ?zzc7 ?zzk7) ?zzr7
      (case zza7 => k_is); (case zzl7 => k_is); (case zzc7 => k_is); (case zzk7 => k_is)
      refine' And.intro (Eng.di_mk ?zza8 ?zzl8 ?zzc8 ?zzk8) ?zzr8
      (case zza8 => k_is); (case zzl8 => k_is); (case zzc8 => k_is); (case zzk8 => k_is)
      refine' And.intro (Eng.di_mk ?zza9 ?zzl9 ?zzc9 ?zzk9) ?zzr9
      (case zza9 => k_is); (case zzl9 => k_is); (case zzc9 => k_is); (case zzk9 => k_is)
      refine' And.intro (Eng.di_mk ?zza10 ?zzl10 ?zzc10 ?zzk10) ?zzr10
      (case zza10 => k_is); (case zzl10 => k_is); (case zzc10 => k_is); (case zzk10 => k_is)
      refine' And.intro (Eng.di_mk ?zza11 ?zzl11 ?zzc11 ?zzk11) ?zzr11
      (case zza11 => k_is); (case zzl11 => k_is); (case zzc11 => k_is); (case zzk11 => k_is)
      refine' And.intro (Eng.di_mk ?zza12 ?zzl12 ?zzc12 ?zzk12) ?zzr12
      (case zza12 => k_is); (case zzl12 => k_is); (case zzc12 => k_is); (case zzk12 => k_is)
      refine' And.intro (Eng.di_mk ?zza13 ?zzl13 ?zzc13 ?zzk13) ?zzr13
      (case zza13 => k_is); (case zzl13 => k_is); (case zzc13 => k_is); (case zzk13 => k_is)
      refine' And.intro (Eng.di_mk ?zza14 ?zzl14 ?zzc14 ?zzk14) ?zzr14
      (case zza14 => k_is); (case zzl14 => k_is); (case zzc14 => k_is); (case zzk14 => k_is)
      refine' And.intro (Eng.di_mk ?zza15 ?zzl15 ?zzc15 ?zzk15) ?zzr15
      (case zza15 => k_is); (case zzl15 => k_is); (case zzc15 => k_is); (case zzk15 => k_is)
      refine' And.intro (Eng.di_mk ?zza16 ?zzl16 ?zzc16 ?zzk16) ?zzr16
      (case zza16 => k_is); (case zzl16 => k_is); (case zzc16 => k_is); (case zzk16 => k_is)
      refine' And.intro (Eng.di_mk ?zza17 ?zzl17 ?zzc17 ?zzk17) ?zzr17
      (case zza17 => k_is); (case zzl17 => k_is); (case zzc17 => k_is); (case zzk17 => k_is)
      refine' And.intro (Eng.di_mk ?zza18 ?zzl18 ?zzc18 ?zzk18) ?zzr18
      (case zza18 => k_is); (case zzl18 => k_is); (case zzc18 => k_is); (case zzk18 => k_is)
      refine' And.intro (Eng.di_mk ?zza19 ?zzl19 ?zzc19 ?zzk19) ?zzr19
      (case zza19 => k_is); (case zzl19 => k_is); (case zzc19 => k_is); (case zzk19 => k_is)
      refine' And.intro (Eng.di_mk ?zza20 ?zzl20 ?zzc20 ?zzk20) ?zzr20
      (case zza20 => k_is); (case zzl20 => k_is); (case zzc20 => k_is); (case zzk20 => k_is)
      refine' And.intro (Eng.di_mk ?zza21 ?zzl21 ?zzc21 ?zzk21) ?zzr21
      (case zza21 => k_is); (case zzl21 => k_is); (case zzc21 => k_is); (case zzk21 => k_is)
      refine' And.intro (Eng.di_mk ?zza22 ?zzl22 ?zzc22 ?zzk22) ?zzr22
      (case zza22 => k_is); (case zzl22 => k_is); (case zzc22 => k_is); (case zzk22 => k_is)
      refine' And.intro (Eng.di_mk ?zza23 ?zzl23 ?zzc23 ?zzk23) ?zzr23
      (case zza23 => k_is); (case zzl23 => k_is); (case zzc23 => k_is); (case zzk23 => k_is)
      refine' And.intro (Eng.di_mk ?zza24 ?zzl24 ?zzc24 ?zzk24) ?zzr24
      (case zza24 => k_is); (case zzl24 => k_is); (case zzc24 => k_is); (case zzk24 => k_is)
      refine' And.intro (Eng.di_mk ?zza25 ?zzl25 ?zzc25 ?zzk25) ?zzr25
      (case zza25 => k_is); (case zzl25 => k_is); (case zzc25 => k_is); (case zzk25 => k_is)
      refine' And.intro (Eng.di_mk ?zza26 ?zzl26 ?zzc26 ?zzk26) ?zzr26
      (case zza26 => k_is); (case zzl26 => k_is); (case zzc26 => k_is); (case zzk26 => k_is)
      refine' And.intro (Eng.di_mk ?zza27 ?zzl27 ?zzc27 ?zzk27) ?zzr27
      (case zza27 => k_is); (case zzl27 => k_is); (case zzc27 => k_is); (case zzk27 => k_is)
      refine' And.intro (Eng.di_mk ?zza28 ?zzl28 ?zzc28 ?zzk28) ?zzr28
      (case zza28 => k_is); (case zzl28 => k_is); (case zzc28 => k_is); (case zzk28 => k_is)
      refine' And.intro (Eng.di_mk ?zza29 ?zzl29 ?zzc29 ?zzk29) ?zzr29
      (case zza29 => k_is); (case zzl29 => k_is); (case zzc29 => k_is); (case zzk29 => k_is)
      refine' And.intro (Eng.di_mk ?zza30 ?zzl30 ?zzc30 ?zzk30) ?zzr30
      (case zza30 => k_is); (case zzl30 => k_is); (case zzc30 => k_is); (case zzk30 => k_is)
      refine' And.intro (Eng.di_mk ?zza31 ?zzl31 ?zzc31 ?zzk31) ?zzr31
      (case zza31 => k_is); (case zzl31 => k_is); (case zzc31 => k_is); (case zzk31 => k_is)
      refine' And.intro (Eng.di_mk ?zza32 ?zzl32 ?zzc32 ?zzk32) ?zzr32
      (case zza32 => k_is); (case zzl32 => k_is); (case zzc32 => k_is); (case zzk32 => k_is)
      refine' And.intro (Eng.di_mk ?zza33 ?zzl33 ?zzc33 ?zzk33) ?zzr33
      (case zza33 => k_is); (case zzl33 => k_is); (case zzc33 => k_is); (case zzk33 => k_is)
      refine' And.intro (Eng.di_mk ?zza34 ?zzl34 ?zzc34 ?zzk34) ?zzr34
      (case zza34 => k_is); (case zzl34 => k_is); (case zzc34 => k_is); (case zzk34 => k_is)
      refine' And.intro (Eng.di_mk ?zza35 ?zzl35 ?zzc35 ?zzk35) ?zzr35
      (case zza35 => k_is); (case zzl35 => k_is); (case zzc35 => k_is); (case zzk35 => k_is)
      refine' And.intro (Eng.di_mk ?zza36 ?zzl36 ?zzc36 ?zzk36) ?zzr36
      (case zza36 => k_is); (case zzl36 => k_is); (case zzc36 => k_is); (case zzk36 => k_is)
      refine' And.intro (Eng.di_mk ?zza37 ?zzl37 ?zzc37 ?zzk37) ?zzr37
      (case zza37 => k_is); (case zzl37 => k_is); (case zzc37 => k_is); (case zzk37 => k_is)
      refine' And.intro (Eng.di_mk ?zza38 ?zzl38 ?zzc38 ?zzk38) ?zzr38
      (case zza38 => k_is); (case zzl38 => k_is); (case zzc38 => k_is); (case zzk38 => k_is)
      refine' And.intro (Eng.di_mk ?zza39 ?zzl39 ?zzc39 ?zzk39) ?zzr39
      (case zza39 => k_is); (case zzl39 => k_is); (case zzc39 => k_is); (case zzk39 => k_is)
      refine' And.intro (Eng.di_mk ?zza40 ?zzl40 ?zzc40 ?zzk40) ?zzr40
      (case zza40 => k_is); (case zzl40 => k_is); (case zzc40 => k_is); (case zzk40 => k_is)
      exact trivial
    case nI =>
      refine' And.intro ?zzn0 ?zzm0
      (case zzn0 => k_is)
      refine' And.intro ?zzn1 ?zzm1
      (case zzn1 => k_is)
      refine' And.intro ?zzn2 ?zzm2
      (case zzn2 => k_is)
      refine' And.intro ?zzn3 ?zzm3
      (case zzn3 => k_is)
      refine' And.intro ?zzn4 ?zzm4
      (case zzn4 => k_is)
      refine' And.intro ?zzn5 ?zzm5
      (case zzn5 => k_is)
      refine' And.intro ?zzn6 ?zzm6
      (case zzn6 => k_is)
      refine' And.intro ?zzn7 ?zzm7
      (case zzn7 => k_is)
      refine' And.intro ?zzn8 ?zzm8
      (case zzn8 => k_is)
      refine' And.intro ?zzn9 ?zzm9
      (case zzn9 => k_is)
      refine' And.intro ?zzn10 ?zzm10
      (case zzn10 => k_is)
      refine' And.intro ?zzn11 ?zzm11
      (case zzn11 => k_is)
      refine' And.intro ?zzn12 ?zzm12
      (case zzn12 => k_is)
      refine' And.intro ?zzn13 ?zzm13
      (case zzn13 => k_is)
      refine' And.intro ?zzn14 ?zzm14
      (case zzn14 => k_is)
      refine' And.intro ?zzn15 ?zzm15
      (case zzn15 => k_is)
      refine' And.intro ?zzn16 ?zzm16
      (case zzn16 => k_is)
      refine' And.intro ?zzn17 ?zzm17
      (case zzn17 => k_is)
      refine' And.intro ?zzn18 ?zzm18
      (case zzn18 => k_is)
      refine' And.intro ?zzn19 ?zzm19
      (case zzn19 => k_is)
      exact trivial
    case gI =>
      refine' And.intro (Eng.gs_mk (by decide) ?zzg0) ?zzq0
      (case zzg0 => k_is)
      refine' And.intro (Eng.gs_mk (by decide) ?zzg1) ?zzq1
      (case zzg1 => k_is)
      refine' And.intro (Eng.gi_mk ?zzg2) ?zzq2
      (case zzg2 => k_is)
      refine' And.intro (Eng.gi_mk ?zzg3) ?zzq3
      (case zzg3 => k_is)
      refine' And.intro (Eng.gi_mk ?zzg4) ?zzq4
      (case zzg4 => k_is)
      exact trivial
    case dD =>
      refine' And.intro (Eng.gd_mk ?zzx1 ?zzy1 ?zzv1 ?zzw1) ?zzu1
      (case zzx1 => k_is)
      (case zzy1 => first | (rfl; done) | (k_is; done))
      case zzv1 =>
        refine' And.intro (Eng.kv_mk ?zzi0) ?zzj0
        (case zzi0 => k_is)
        refine' And.intro (Eng.kv_mk ?zzi1) ?zzj1
        (case zzi1 => k_is)
        exact trivial
      case zzw1 =>
        exact trivial
      exact trivial
    case xT => exact Eng.XTab.nil
    case dF =>
      exact trivial

